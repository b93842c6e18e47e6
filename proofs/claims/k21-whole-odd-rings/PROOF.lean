import PyProof.Rows.All
import Wide.All
import OpenK.AllK
import Wide.FinOn
import HandS.ForMost
import HandS.ForExc
import HandS.Flow
import HandS.Style
import HandS.Deep
import HandS.IsInst
import HandS.More
import HandS.Lambda
import HandS.DictComp
import HandS.Wide
import KE.SortData
import PySem.Challenge.RW_objections_k21_whole_odd_rings
import HandS.Zip
import KE.GoesMore
import KE.KDictDisplayH
import HandS.Strs
import HandS.Conv
import KE.SortKeyHeap
import HandS.ExcInit
import HandS.ExcField
import HandS.SortKw
import PyProof.ReprRoads
import PyProof.ReprText
import PyProof.StrLawsRepr
import HandS.TryMany
import KE.IntBitsLaws
import HandS.EndTab
import HandS.ExcIs
set_option Elab.async false
set_option linter.all false
set_option maxRecDepth 100000
set_option maxHeartbeats 4000000
/-! K21A: the data layer: values as plain data over a frozen part F of the abstract heap, local mutable objects as slots. -/
namespace K21
open PySem PySem.Spec PyProof.Rows L2

/-! ### data -/
abbrev PD := PyData
structure Deb where
  ns : List Str
  ps : List (Str × Str)
inductive DV where
  | py (d : PD) | dct (kvs : List (Str × PD)) | deb (D : Deb) | strm
  | oldB (D : Deb) | ancP (d : PD) | ancB (D : Deb) | nw (ws : List Str)
inductive MV where
  | lst (ds : List PD) | dK (kvs : List (Str × PD)) | dT (kvs : List (List Key × PD))
inductive Slot where
  | dat (d : DV) | mu (m : MV)
abbrev DEnv := List (Option Slot)
abbrev sts (ns : List Str) : List PD := ns.map PyData.str
def pairD (p : Str × Str) : PD := .tuple [.str p.1, .str p.2]
def objectorsD (D : Deb) : List (Str × PD) := D.ns.map fun n => (n, .list (sts ((D.ps.filter fun p => decide (p.2 = n)).map (·.1))))
def objectedD (D : Deb) : List (Str × PD) := D.ns.map fun n => (n, .list (sts ((D.ps.filter fun p => decide (p.1 = n)).map (·.2))))

/-! ### data in a frozen heap -/
def SubH (F H : Hp) : Prop := ∀ a o, F a = some o → H a = some o
theorem SubH.refl (F : Hp) : SubH F F := fun _ _ h => h
theorem SubH.trans {F H J : Hp} (a : SubH F H) (b : SubH H J) : SubH F J := fun c o h => b c o (a c o h)
theorem SubH.new {F : Hp} {p : Addr} {o : HO} (h : F p = none) : SubH F (upd F p o) := fun a u e => by
  rw [upd_ne (ne_of_none e h)]; exact e
mutual
inductive Dz (F : Hp) : V → PD → Prop
  | non : Dz F .non .none
  | bl (b : Bool) : Dz F (.bl b) (.bool b)
  | int (i : Int) : Dz F (.int i) (.int i)
  | str (x : Str) (hx : PyData.strOk x = true) : Dz F (.str x) (.str x)
  | lst {a : Addr} {xs : List V} {ds : List PD} : F a = some (.lst xs) → DzAll F xs ds → Dz F (.ref a) (.list ds)
  | tup {a : Addr} {xs : List V} {ds : List PD} : F a = some (.tup xs) → DzAll F xs ds → Dz F (.ref a) (.tuple ds)
  | d0 {a : Addr} : F a = some (.dK []) → Dz F (.ref a) (.dict [])
inductive DzAll (F : Hp) : List V → List PD → Prop
  | nil : DzAll F [] []
  | cons {v : V} {vs : List V} {d : PD} {ds : List PD} : Dz F v d → DzAll F vs ds → DzAll F (v :: vs) (d :: ds)
end
mutual
theorem Dz.mono {F J : Hp} (s : SubH F J) : ∀ {v : V} {d : PD}, Dz F v d → Dz J v d
  | _, _, .non => .non
  | _, _, .bl b => .bl b
  | _, _, .int i => .int i
  | _, _, .str x hx => .str x hx
  | _, _, .lst e h => .lst (s _ _ e) (DzAll.mono s h)
  | _, _, .tup e h => .tup (s _ _ e) (DzAll.mono s h)
  | _, _, .d0 e => .d0 (s _ _ e)
theorem DzAll.mono {F J : Hp} (s : SubH F J) : ∀ {vs : List V} {ds : List PD}, DzAll F vs ds → DzAll J vs ds
  | _, _, .nil => .nil
  | _, _, .cons h t => .cons (Dz.mono s h) (DzAll.mono s t)
end
theorem DzAll.length {F : Hp} : ∀ {vs : List V} {ds : List PD}, DzAll F vs ds → vs.length = ds.length
  | _, _, .nil => rfl
  | _, _, .cons _ t => congrArg (· + 1) (DzAll.length t)
theorem DzAll.get {F : Hp} : ∀ {vs : List V} {ds : List PD} {i : Nat} {d : PD}, DzAll F vs ds → ds[i]? = some d → ∃ v, vs[i]? = some v ∧ Dz F v d
  | _, _, _, _, .nil, e => by simp at e
  | _, _, 0, _, .cons h _, e => by simp at e; subst e; exact ⟨_, rfl, h⟩
  | _, _, i + 1, d, .cons _ t, e => by
    obtain ⟨v, h1, h2⟩ := DzAll.get (i := i) (d := d) t (by simpa using e)
    exact ⟨v, by simpa using h1, h2⟩
theorem DzAll.get' {F : Hp} : ∀ {vs : List V} {ds : List PD} {i : Nat} {v : V}, DzAll F vs ds → vs[i]? = some v → ∃ d, ds[i]? = some d ∧ Dz F v d
  | _, _, _, _, .nil, e => by simp at e
  | _, _, 0, _, .cons h _, e => by simp at e; subst e; exact ⟨_, rfl, h⟩
  | _, _, i + 1, v, .cons _ t, e => by
    obtain ⟨d, h1, h2⟩ := DzAll.get' (i := i) (v := v) t (by simpa using e)
    exact ⟨d, by simpa using h1, h2⟩
theorem DzAll.append {F : Hp} : ∀ {vs ws : List V} {ds es : List PD}, DzAll F vs ds → DzAll F ws es → DzAll F (vs ++ ws) (ds ++ es)
  | _, _, _, _, .nil, h => h
  | _, _, _, _, .cons a t, h => .cons a (DzAll.append t h)
theorem DzAll.snoc {F : Hp} {vs : List V} {ds : List PD} {v : V} {d : PD} (h : DzAll F vs ds) (h2 : Dz F v d) : DzAll F (vs ++ [v]) (ds ++ [d]) := h.append (.cons h2 .nil)
theorem DzAll.take {F : Hp} : ∀ (n : Nat) {vs : List V} {ds : List PD}, DzAll F vs ds → DzAll F (vs.take n) (ds.take n)
  | 0, _, _, _ => .nil
  | _ + 1, _, _, .nil => .nil
  | n + 1, _, _, .cons a t => .cons a (DzAll.take n t)
theorem DzAll.drop {F : Hp} : ∀ (n : Nat) {vs : List V} {ds : List PD}, DzAll F vs ds → DzAll F (vs.drop n) (ds.drop n)
  | 0, _, _, h => h
  | _ + 1, _, _, .nil => .nil
  | n + 1, _, _, .cons _ t => DzAll.drop n t
theorem DzAll.reverse {F : Hp} : ∀ {vs : List V} {ds : List PD}, DzAll F vs ds → DzAll F vs.reverse ds.reverse
  | _, _, .nil => .nil
  | _, _, .cons a t => by rw [List.reverse_cons, List.reverse_cons]; exact (DzAll.reverse t).snoc a
theorem DzAll.eraseIdx {F : Hp} : ∀ (n : Nat) {vs : List V} {ds : List PD}, DzAll F vs ds → DzAll F (vs.eraseIdx n) (ds.eraseIdx n)
  | _, _, _, .nil => .nil
  | 0, _, _, .cons _ t => t
  | n + 1, _, _, .cons a t => .cons a (DzAll.eraseIdx n t)
theorem DzAll.set {F : Hp} {v : V} {d : PD} (h : Dz F v d) : ∀ (n : Nat) {vs : List V} {ds : List PD}, DzAll F vs ds → DzAll F (vs.set n v) (ds.set n d)
  | _, _, _, .nil => .nil
  | 0, _, _, .cons _ t => .cons h t
  | n + 1, _, _, .cons a t => .cons a (DzAll.set h n t)
/-- data without dicts, not too deep -/
def layD : PD → Bool
  | .list xs => layDAll xs
  | .tuple xs => layDAll xs
  | .dict _ => false
  | _ => true
where layDAll : List PD → Bool
  | [] => true
  | x :: xs => layD x && layDAll xs
def shapeD (d : PD) : Bool := layD d && decide (d.depth ≤ 64)
mutual
theorem Dz.lay {F : Hp} : ∀ {v : V} {d : PD}, Dz F v d → layD d = true → d.canLay0 = true
  | _, _, .non, _ => by simp [PyData.canLay0]
  | _, _, .bl b, _ => by simp [PyData.canLay0]
  | _, _, .int i, _ => by simp [PyData.canLay0]
  | _, _, .str x hx, _ => by simpa [PyData.canLay0] using hx
  | _, _, .lst e h, l => by
    have q := DzAll.lay h (by simpa [layD] using l)
    simpa [PyData.canLay0] using q
  | _, _, .tup e h, l => by
    have q := DzAll.lay h (by simpa [layD] using l)
    simpa [PyData.canLay0] using q
  | _, _, .d0 e, l => by simp [layD] at l
theorem DzAll.lay {F : Hp} : ∀ {vs : List V} {ds : List PD}, DzAll F vs ds → layD.layDAll ds = true → PyData.canLayAll0 ds = true
  | _, _, .nil, _ => by simp [PyData.canLayAll0]
  | _, _, .cons h t, l => by
    simp only [layD.layDAll, Bool.and_eq_true] at l
    simp only [PyData.canLayAll0, Bool.and_eq_true]
    exact ⟨Dz.lay h l.1, DzAll.lay t l.2⟩
end
theorem Dz.shaped {F : Hp} {v : V} {d : PD} (h : Dz F v d) (s : shapeD d = true) : SeqAt.shaped d = true := by
  simp only [shapeD, Bool.and_eq_true] at s
  simp only [SeqAt.shaped, Bool.and_eq_true]
  exact ⟨h.lay s.1, s.2⟩
theorem DzAll.shaped {F : Hp} {vs : List V} {ds : List PD} (h : DzAll F vs ds) (s : shapeD (.list ds) = true) : SeqAt.shaped (.list ds) = true := by
  simp only [shapeD, Bool.and_eq_true] at s
  simp only [SeqAt.shaped, Bool.and_eq_true]
  refine ⟨?_, s.2⟩
  have q := DzAll.lay h (by simpa [layD] using s.1)
  simpa [PyData.canLay0] using q
theorem DzAll.of_strs {F : Hp} : ∀ {vs : List V} {ns : List Str}, DzAll F vs (ns.map PyData.str) → vs = ns.map V.str
  | _, [], h => by cases h; rfl
  | _, n :: ns, h => by
    cases h with
    | cons a t => cases a; rw [DzAll.of_strs t]; rfl
theorem DzAll.of_bools {F : Hp} : ∀ {vs : List V} {bs : List Bool}, DzAll F vs (bs.map PyData.bool) → vs = bs.map V.bl
  | _, [], h => by cases h; rfl
  | _, b :: bs, h => by
    cases h with
    | cons a t => cases a; rw [DzAll.of_bools t]; rfl
theorem DzAll.of_ints {F : Hp} : ∀ {vs : List V} {ns : List Int}, DzAll F vs (ns.map PyData.int) → vs = ns.map V.int
  | _, [], h => by cases h; rfl
  | _, n :: ns, h => by
    cases h with
    | cons a t => cases a; rw [DzAll.of_ints t]; rfl

/-- the frozen part lies in the abstract heap; a dict may be locked -/
def Under (F H : Hp) : Prop := ∀ a o, F a = some o → H a = some o ∨ ∃ od kvs, o = .dK kvs ∧ H a = some (.frz od o)
theorem Under.lst {F H : Hp} (u : Under F H) {a : Addr} {xs : List V} (e : F a = some (.lst xs)) : H a = some (.lst xs) := by
  rcases u _ _ e with h | ⟨_, _, h, _⟩
  · exact h
  · cases h
theorem Under.tup {F H : Hp} (u : Under F H) {a : Addr} {xs : List V} (e : F a = some (.tup xs)) : H a = some (.tup xs) := by
  rcases u _ _ e with h | ⟨_, _, h, _⟩
  · exact h
  · cases h
theorem Under.ins {F H : Hp} (u : Under F H) {a C dx : Addr} {fs : List (Str × V)} (e : F a = some (.ins C dx fs)) : H a = some (.ins C dx fs) := by
  rcases u _ _ e with h | ⟨_, _, h, _⟩
  · exact h
  · cases h
theorem Under.dK {F H : Hp} (u : Under F H) {a : Addr} {kv : List (Key × V)} (e : F a = some (.dK kv)) : Rd H a (.dK kv) := by
  rcases u _ _ e with h | ⟨od, _, h, q⟩
  · exact .inl h
  · exact .inr ⟨od, q⟩
theorem Under.some {F H : Hp} (u : Under F H) {a : Addr} (n : H a = none) : F a = none := by
  cases e : F a with
  | none => rfl
  | some o =>
    rcases u _ _ e with h | ⟨od, _, h, q⟩
    · rw [n] at h; cases h
    · rw [n] at q; cases q
mutual
/-- data without dicts, as the hand layer reads it -/
theorem Dz.dp {K : PySem.W.Frag} {F H : Hp} (u : Under F H) : ∀ {v : V} {d : PD}, Dz F v d → d.canLay0 = true → Dp K H v d
  | _, _, .non, _ => .non
  | _, _, .bl b, _ => .bl b
  | _, _, .int i, _ => .int i
  | _, _, .str x _, _ => .str x
  | _, _, .lst e h, l => .lst (.of (u.lst e)) (DzAll.dp u h (by simpa [PyData.canLay0] using l))
  | _, _, .tup e h, l => .tup (.of (u.tup e)) (DzAll.dp u h (by simpa [PyData.canLay0] using l))
  | _, _, .d0 e, l => by simp [PyData.canLay0] at l
theorem DzAll.dp {K : PySem.W.Frag} {F H : Hp} (u : Under F H) : ∀ {vs : List V} {ds : List PD}, DzAll F vs ds → PyData.canLayAll0 ds = true → DpAll K H vs ds
  | _, _, .nil, _ => .nil
  | _, _, .cons h t, l => by
    have l' := l
    simp only [PyData.canLayAll0, Bool.and_eq_true] at l'
    exact .cons (Dz.dp u h l'.1) (DzAll.dp u t l'.2)
end

/-! ### dicts, debates -/
def PairK (F : Hp) : List (Key × V) → List (Str × PD) → Prop := Paired fun p q => (p.1 = Sum.inr q.1 ∧ PyData.strOk q.1 = true) ∧ Dz F p.2 q.2
def PairT (F : Hp) : List (List Key × V) → List (List Key × PD) → Prop := Paired fun p q => p.1 = q.1 ∧ Dz F p.2 q.2
theorem PairK.mono {F J : Hp} (s : SubH F J) {kv : List (Key × V)} {kvs : List (Str × PD)} (h : PairK F kv kvs) : PairK J kv kvs := Paired.mapP h fun _ _ q => ⟨q.1, q.2.mono s⟩
theorem PairT.mono {F J : Hp} (s : SubH F J) {kv : List (List Key × V)} {kvs : List (List Key × PD)} (h : PairT F kv kvs) : PairT J kv kvs := Paired.mapP h fun _ _ q => ⟨q.1, q.2.mono s⟩
def DctR (F : Hp) (v : V) (kvs : List (Str × PD)) : Prop := ∃ a kv, v = .ref a ∧ F a = some (.dK kv) ∧ PairK F kv kvs
theorem DctR.mono {F J : Hp} (s : SubH F J) {v : V} {kvs : List (Str × PD)} (h : DctR F v kvs) : DctR J v kvs := by
  obtain ⟨a, kv, e, h1, h2⟩ := h
  exact ⟨a, kv, e, s _ _ h1, h2.mono s⟩
/-- constants of the whole proof: the class, the code tables -/
structure Cst where
  C : Addr
  T : List (Addr × Str)
structure G where
  c : Cst
  S : Option (Addr × Addr)
  F0 : Hp
  H0 : Hp
  A : Hp
def DebR (C : Addr) (F : Hp) (v : V) (D : Deb) : Prop := ∃ a dx fs v1 v2 v3 v4, v = .ref a ∧ F a = some (.ins C dx fs) ∧
  fs.lookup ("own_statements" : Str) = some v1 ∧ Dz F v1 (.list (sts D.ns)) ∧ fs.lookup ("own_objections" : Str) = some v2 ∧ Dz F v2 (.list (D.ps.map pairD)) ∧
  fs.lookup ("own_objectors" : Str) = some v3 ∧ DctR F v3 (objectorsD D) ∧ fs.lookup ("own_objected" : Str) = some v4 ∧ DctR F v4 (objectedD D)
theorem DebR.mono {C : Addr} {F J : Hp} (s : SubH F J) {v : V} {D : Deb} (h : DebR C F v D) : DebR C J v D := by
  obtain ⟨a, dx, fs, v1, v2, v3, v4, e, h0, l1, h1, l2, h2, l3, h3, l4, h4⟩ := h
  exact ⟨a, dx, fs, v1, v2, v3, v4, e, s _ _ h0, l1, h1.mono s, l2, h2.mono s, l3, h3.mono s, l4, h4.mono s⟩
def RepD (g : G) (F : Hp) (v : V) : DV → Prop
  | .py d => Dz F v d
  | .dct kvs => DctR F v kvs
  | .deb D => DebR g.c.C F v D
  | .strm => ∃ s, g.S = some s ∧ v = .ref s.1
  | .oldB D => DebR g.c.C g.A v D
  | .ancP d => SubH g.A F ∧ Dz g.A v d
  | .ancB D => SubH g.A F ∧ DebR g.c.C g.A v D
  | .nw ws => ∃ p, v = .ref p ∧ F p = some (.lst (ws.map V.str)) ∧ g.A p = none ∧ ∀ x ∈ ws, PyData.strOk x = true
/-- what a def may give back -/
@[simp] def plainD : DV → Bool
  | .oldB _ => false
  | .ancP _ => false
  | .ancB _ => false
  | _ => true
theorem RepD.mono {g : G} {F J : Hp} (s : SubH F J) {v : V} {d : DV} (h : RepD g F v d) : RepD g J v d := by
  cases d with
  | py d => exact Dz.mono s h
  | dct k => exact DctR.mono s h
  | deb D => exact DebR.mono s h
  | strm => exact h
  | oldB D => exact h
  | ancP d => exact ⟨h.1.trans s, h.2⟩
  | ancB d => exact ⟨h.1.trans s, h.2⟩
  | nw ws => obtain ⟨p, e, h1, h2⟩ := h; exact ⟨p, e, s _ _ h1, h2⟩

/-! ### the stream of draws -/
def InS (S : Option (Addr × Addr)) (a : Addr) : Prop := ∃ s, S = some s ∧ (a = s.1 ∨ a = s.2)
def StrAt (H : Hp) (a c : Addr) (n : Nat) : Prop := a ≠ c ∧ ∃ (cells : List Int) (x i m : Int), H a = some (.lst [.ref c, .int x, .int i, .int m]) ∧ H c = some (.lst (cells.map V.int)) ∧
  0 ≤ x ∧ x.natAbs < 2 ^ 1048577 ∧ (∀ z ∈ cells, z.natAbs < 2 ^ 1048577) ∧ 0 ≤ i ∧ i ≤ n ∧ 0 ≤ m ∧ m < 2147483647
def StrOk (H : Hp) (S : Option (Addr × Addr)) (n : Nat) : Prop := ∀ s, S = some s → StrAt H s.1 s.2 n

/-! ### the relation between a def's data and its heap -/
/-- the anchored part stood at the entry -/
def Anc (g : G) : Prop := ∀ a o, g.A a = some o → (g.H0 a = some o ∨ ∃ od kvs, o = .dK kvs ∧ g.H0 a = some (.frz od o)) ∧ ¬ InS g.S a ∧ ∀ ps, o ≠ .tbl ps
structure Bas (g : G) (F : Hp) (n : Nat) (H : Hp) : Prop where
  und : Under F H
  gro : SubH g.F0 F
  new : ∀ a o, g.F0 a = none → F a = some o → (∀ xs, o ≠ .tup xs) → g.H0 a = none
  fr : ∀ a o, g.H0 a = some o → (∀ ps, o ≠ .tbl ps) → ¬ InS g.S a → H a = some o
  frt : ∀ a ps, g.H0 a = some (.tbl ps) → ∃ ps', H a = some (.tbl ps')
  ntb : ∀ a ps, F a ≠ some (.tbl ps)
  tab : LamX.Tabs g.c.T H
  str : StrOk H g.S n
  strF : ∀ a, InS g.S a → F a = none
  anc : Anc g
def MutR (F H : Hp) (p : Addr) : MV → Prop
  | .lst ds => ∃ vs, H p = some (.lst vs) ∧ DzAll F vs ds
  | .dK kvs => ∃ kv, H p = some (.dK kv) ∧ PairK F kv kvs
  | .dT kvs => ∃ kv, H p = some (.dT kv) ∧ PairT F kv kvs
def SlotOk (g : G) (F H : Hp) (v : V) : Slot → Prop
  | .dat d => RepD g F v d
  | .mu m => ∃ p, v = .ref p ∧ F p = none ∧ g.H0 p = none ∧ ¬ InS g.S p ∧ MutR F H p m
structure Rel (g : G) (F : Hp) (r : DEnv) (n : Nat) (s : L2.St) (H : Hp) : Prop where
  bas : Bas g F n H
  len : r.length = s.length
  slot : ∀ (i : Nat) (z : Slot), r[i]? = some (some z) → ∃ v, s[i]? = some (some v) ∧ SlotOk g F H v z
  dis : ∀ (i j : Nat) m m' p, i ≠ j → r[i]? = some (some (.mu m)) → r[j]? = some (some (.mu m')) → s[i]? = some (some (.ref p)) → s[j]? ≠ some (some (.ref p))
theorem MutR.mono {F J H : Hp} (s : SubH F J) {p : Addr} {m : MV} (h : MutR F H p m) : MutR J H p m := by
  cases m with
  | lst d => obtain ⟨vs, e, h⟩ := h; exact ⟨vs, e, h.mono s⟩
  | dK d => obtain ⟨vs, e, h⟩ := h; exact ⟨vs, e, h.mono s⟩
  | dT d => obtain ⟨vs, e, h⟩ := h; exact ⟨vs, e, h.mono s⟩
theorem MutR.at {F H H' : Hp} {p : Addr} {m : MV} (h : MutR F H p m) (k : ∀ o, H p = some o → (∀ ps, o ≠ .tbl ps) → H' p = some o) : MutR F H' p m := by
  cases m with
  | lst d => obtain ⟨vs, e, h⟩ := h; exact ⟨vs, k _ e (fun _ z => by cases z), h⟩
  | dK d => obtain ⟨vs, e, h⟩ := h; exact ⟨vs, k _ e (fun _ z => by cases z), h⟩
  | dT d => obtain ⟨vs, e, h⟩ := h; exact ⟨vs, k _ e (fun _ z => by cases z), h⟩
theorem MutR.obj {F H : Hp} {p : Addr} {m : MV} (h : MutR F H p m) : ∃ o, H p = some o ∧ (∀ ps, o ≠ .tbl ps) ∧ ∀ xs, o ≠ .tup xs := by
  cases m with
  | lst d => obtain ⟨vs, e, h⟩ := h; exact ⟨_, e, fun _ z => (by cases z), fun _ z => by cases z⟩
  | dK d => obtain ⟨vs, e, h⟩ := h; exact ⟨_, e, fun _ z => (by cases z), fun _ z => by cases z⟩
  | dT d => obtain ⟨vs, e, h⟩ := h; exact ⟨_, e, fun _ z => (by cases z), fun _ z => by cases z⟩
theorem Under.ntup {F H : Hp} (u : Under F H) {a : Addr} {o w : HO} (e : F a = Option.some o) (h : H a = Option.some w) (hn : ∀ xs, w ≠ .tup xs) : ∀ xs, o ≠ .tup xs := by
  rcases u a o e with q | ⟨_, _, q, _⟩
  · rw [h] at q; cases q; exact hn
  · subst q; intro xs z; cases z
theorem MutR.some {F H : Hp} {p : Addr} {m : MV} (h : MutR F H p m) : ∃ o, H p = some o := by
  cases m with
  | lst d => obtain ⟨vs, e, h⟩ := h; exact ⟨_, e⟩
  | dK d => obtain ⟨vs, e, h⟩ := h; exact ⟨_, e⟩
  | dT d => obtain ⟨vs, e, h⟩ := h; exact ⟨_, e⟩

section
variable {g : G} {F F' H H' : Hp} {r : DEnv} {n : Nat} {s : L2.St}
theorem InS.some (b : Bas g F n H) {a : Addr} (h : InS g.S a) : ∃ o, H a = some o := by
  obtain ⟨s, e, h⟩ := h
  obtain ⟨_, cells, x, i, m, h1, h2, _⟩ := b.str s e
  rcases h with h | h
  · exact ⟨_, by rw [h]; exact h1⟩
  · exact ⟨_, by rw [h]; exact h2⟩
/-- what is free now was free at the entry -/
theorem Bas.free0 (b : Bas g F n H) {a : Addr} (h : H a = none) : g.H0 a = none := by
  cases e : g.H0 a with
  | none => rfl
  | some o =>
    by_cases hs : InS g.S a
    · obtain ⟨o, q⟩ := InS.some b hs
      rw [h] at q; cases q
    · by_cases ht : ∀ ps, o ≠ .tbl ps
      · have q := b.fr a o e ht hs
        rw [h] at q; cases q
      · have ⟨ps, hp⟩ : ∃ ps, o = .tbl ps := by
          apply Classical.byContradiction
          intro z
          exact ht fun ps q => z ⟨ps, q⟩
        subst hp
        obtain ⟨ps', q⟩ := b.frt a ps e
        rw [h] at q; cases q
theorem Bas.notS (b : Bas g F n H) {a : Addr} (h : H a = none) : ¬ InS g.S a := fun z => by
  obtain ⟨o, q⟩ := InS.some b z
  rw [h] at q; cases q
theorem StrOk.keep {H H' : Hp} {S : Option (Addr × Addr)} {n : Nat} (h : StrOk H S n) (k : ∀ a o, InS S a → H a = some o → H' a = some o) : StrOk H' S n := fun s e => by
  obtain ⟨ne, cells, x, i, m, h1, h2, r⟩ := h s e
  exact ⟨ne, cells, x, i, m, k _ _ ⟨s, e, .inl rfl⟩ h1, k _ _ ⟨s, e, .inr rfl⟩ h2, r⟩
/-- a new object, frozen at once -/
theorem Bas.laid (b : Bas g F n H) {p : Addr} {o : HO} (hp : H p = none) (ht : ∀ ps, o ≠ .tbl ps) : Bas g (upd F p o) n (upd H p o) := by
  have fp : F p = none := b.und.some hp
  have k : ∀ a u, H a = some u → upd H p o a = some u := fun a u e => by rw [upd_ne (ne_of_none e hp)]; exact e
  refine ⟨fun a u e => ?_, b.gro.trans (.new fp), fun a u h1 h2 h3 => ?_, fun a u e h1 h2 => k _ _ (b.fr a u e h1 h2), fun a ps e => ?_, fun a ps e => ?_, fun q hq => (b.tab q hq).ext k, b.str.keep fun a u _ e => k a u e, fun a h => ?_, b.anc⟩
  · by_cases ha : a = p
    · subst ha; rw [upd_same] at e; cases e; exact .inl upd_same
    · rw [upd_ne ha] at e ⊢; exact b.und a u e
  · by_cases ha : a = p
    · subst ha; exact b.free0 hp
    · rw [upd_ne ha] at h2; exact b.new a u h1 h2 h3
  · obtain ⟨ps', q⟩ := b.frt a ps e
    exact ⟨ps', k _ _ q⟩
  · by_cases ha : a = p
    · subst ha; rw [upd_same] at e; cases e; exact ht _ rfl
    · rw [upd_ne ha] at e; exact b.ntb a ps e
  · have ha : a ≠ p := fun z => b.notS hp (z ▸ h)
    rw [upd_ne ha]; exact b.strF a h
/-- a new object, not frozen -/
theorem Bas.laidM (b : Bas g F n H) {p : Addr} {o : HO} (hp : H p = none) : Bas g F n (upd H p o) := by
  have k : ∀ a u, H a = some u → upd H p o a = some u := fun a u e => by rw [upd_ne (ne_of_none e hp)]; exact e
  refine ⟨fun a u e => ?_, b.gro, b.new, fun a u e h1 h2 => k _ _ (b.fr a u e h1 h2), fun a ps e => ?_, b.ntb, fun q hq => (b.tab q hq).ext k, b.str.keep fun a u _ e => k a u e, b.strF, b.anc⟩
  · rcases b.und a u e with h | ⟨od, kv, h, q⟩
    · exact .inl (k _ _ h)
    · exact .inr ⟨od, kv, h, k _ _ q⟩
  · obtain ⟨ps', q⟩ := b.frt a ps e
    exact ⟨ps', k _ _ q⟩
/-- a local object written -/
theorem Bas.write (b : Bas g F n H) {p : Addr} {o u : HO} (hp : H p = some u) (hu : ∀ ps, u ≠ .tbl ps) (hc : ∀ c q, u ≠ LamX.CodeO c q) (hf : F p = none) (h0 : g.H0 p = none) (hs : ¬ InS g.S p) : Bas g F n (upd H p o) := by
  have k : ∀ a w, a ≠ p → H a = some w → upd H p o a = some w := fun a w h e => by rw [upd_ne h]; exact e
  have n0 : ∀ a w, g.H0 a = some w → a ≠ p := fun a w e z => by rw [z, h0] at e; cases e
  have nf : ∀ a w, F a = some w → a ≠ p := fun a w e z => by rw [z, hf] at e; cases e
  refine ⟨fun a w e => ?_, b.gro, b.new, fun a w e h1 h2 => k _ _ (n0 a w e) (b.fr a w e h1 h2), fun a ps e => ?_, b.ntb, fun q hq => ?_, b.str.keep fun a w h e => k a w (fun z => hs (z ▸ h)) e, b.strF, b.anc⟩
  · rcases b.und a w e with h | ⟨od, kv, h, q⟩
    · exact .inl (k _ _ (nf a w e) h)
    · exact .inr ⟨od, kv, h, k _ _ (nf a w e) q⟩
  · obtain ⟨ps', q⟩ := b.frt a ps e
    exact ⟨ps', k _ _ (n0 _ _ e) q⟩
  · obtain ⟨ps, e1, e2, e3⟩ := b.tab q hq
    refine ⟨ps, k _ _ (fun z => ?_) e1, e2, fun pos cv hcv => ?_⟩
    · rw [z, hp] at e1; exact hu ps (Option.some.inj e1)
    · obtain ⟨cc, f1, f2⟩ := e3 pos cv hcv
      refine ⟨cc, f1, k _ _ (fun z => ?_) f2⟩
      rw [z, hp] at f2; exact hc _ _ (Option.some.inj f2)
theorem SlotOk.mono (sb : SubH F F') (hF : ∀ p, F p = none → (∃ o, H p = some o) → F' p = none) (k : ∀ p o, (∀ ps, o ≠ .tbl ps) → H p = some o → F p = none → H' p = some o) {v : V} {z : Slot} (h : SlotOk g F H v z) : SlotOk g F' H' v z := by
  cases z with
  | dat d => exact RepD.mono sb h
  | mu m =>
    obtain ⟨p, e, h1, h2, h3, h4⟩ := h
    exact ⟨p, e, hF p h1 h4.some, h2, h3, (h4.mono sb).at fun o q ht => k p o ht q h1⟩
theorem Rel.laid (R : Rel g F r n s H) {p : Addr} {o : HO} (hp : H p = none) (ht : ∀ ps, o ≠ .tbl ps) : Rel g (upd F p o) r n s (upd H p o) := by
  have fp : F p = none := R.bas.und.some hp
  refine ⟨R.bas.laid hp ht, R.len, fun i z e => ?_, R.dis⟩
  obtain ⟨v, e1, h⟩ := R.slot i z e
  exact ⟨v, e1, h.mono (.new fp) (fun q h1 hx => by
    obtain ⟨u, h2⟩ := hx
    rw [upd_ne (ne_of_none h2 hp)]; exact h1) fun q u _ h2 _ => by rw [upd_ne (ne_of_none h2 hp)]; exact h2⟩
theorem Rel.laidM (R : Rel g F r n s H) {p : Addr} {o : HO} (hp : H p = none) : Rel g F r n s (upd H p o) := by
  refine ⟨R.bas.laidM hp, R.len, fun i z e => ?_, R.dis⟩
  obtain ⟨v, e1, h⟩ := R.slot i z e
  exact ⟨v, e1, h.mono (.refl F) (fun _ h _ => h) fun q u _ h1 _ => by rw [upd_ne (ne_of_none h1 hp)]; exact h1⟩
theorem Rel.dat (R : Rel g F r n s H) {i : Nat} {d : DV} (e : r[i]? = some (some (.dat d))) : ∃ v, s[i]? = some (some v) ∧ RepD g F v d := R.slot i _ e
theorem Rel.mu (R : Rel g F r n s H) {i : Nat} {m : MV} (e : r[i]? = some (some (.mu m))) : ∃ p, s[i]? = some (some (.ref p)) ∧ F p = none ∧ g.H0 p = none ∧ ¬ InS g.S p ∧ MutR F H p m := by
  obtain ⟨v, e1, p, rfl, h⟩ := R.slot i _ e
  exact ⟨p, e1, h⟩
/-- a name takes data -/
theorem Rel.set (R : Rel g F r n s H) {i : Nat} {v : V} {d : DV} (h : RepD g F v d) : Rel g F (r.set i (some (.dat d))) n (s.set i (some v)) H := by
  have hl : i < r.length → i < s.length := fun z => by rw [← R.len]; exact z
  refine ⟨R.bas, by rw [List.length_set, List.length_set]; exact R.len, fun j z e => ?_, fun j k m m' p hjk e1 e2 e3 => ?_⟩
  · by_cases hj : j = i
    · subst hj
      have hlt : j < r.length := by
        have q := (List.getElem?_eq_some_iff.mp e).1
        rw [List.length_set] at q; exact q
      rw [List.getElem?_set_self hlt] at e
      cases e
      exact ⟨v, List.getElem?_set_self (hl hlt), h⟩
    · rw [List.getElem?_set_ne (Ne.symm hj)] at e
      obtain ⟨v', e', h'⟩ := R.slot j z e
      exact ⟨v', by rw [List.getElem?_set_ne (Ne.symm hj)]; exact e', h'⟩
  · have nj : j ≠ i := fun z => by
      subst z
      have hlt : j < r.length := by
        have q := (List.getElem?_eq_some_iff.mp e1).1
        rw [List.length_set] at q; exact q
      rw [List.getElem?_set_self hlt] at e1; cases e1
    have nk : k ≠ i := fun z => by
      subst z
      have hlt : k < r.length := by
        have q := (List.getElem?_eq_some_iff.mp e2).1
        rw [List.length_set] at q; exact q
      rw [List.getElem?_set_self hlt] at e2; cases e2
    rw [List.getElem?_set_ne (Ne.symm nj)] at e1 e3
    rw [List.getElem?_set_ne (Ne.symm nk)] at e2 ⊢
    exact R.dis j k m m' p hjk e1 e2 e3
/-- a name takes a local object of its own -/
theorem Rel.setM (R : Rel g F r n s H) {i : Nat} {p : Addr} {m : MV} (h1 : F p = none) (h2 : g.H0 p = none) (h3 : ¬ InS g.S p) (h4 : MutR F H p m) (hd : ∀ (j : Nat) m', r[j]? = some (some (.mu m')) → s[j]? ≠ some (some (.ref p))) :
    Rel g F (r.set i (some (.mu m))) n (s.set i (some (.ref p))) H := by
  have hl : i < r.length → i < s.length := fun z => by rw [← R.len]; exact z
  have lt : ∀ {j : Nat} {z : Slot}, (r.set i (some (.mu m)))[j]? = some (some z) → j < r.length := fun {j z} e => by
    have q := (List.getElem?_eq_some_iff.mp e).1
    rw [List.length_set] at q; exact q
  refine ⟨R.bas, by rw [List.length_set, List.length_set]; exact R.len, fun j z e => ?_, fun j k a b q hjk e1 e2 e3 => ?_⟩
  · by_cases hj : j = i
    · subst hj
      have hlt := lt e
      rw [List.getElem?_set_self hlt] at e
      cases e
      exact ⟨_, List.getElem?_set_self (hl hlt), p, rfl, h1, h2, h3, h4⟩
    · rw [List.getElem?_set_ne (Ne.symm hj)] at e
      obtain ⟨v', e', h'⟩ := R.slot j z e
      exact ⟨v', by rw [List.getElem?_set_ne (Ne.symm hj)]; exact e', h'⟩
  · by_cases nj : j = i
    · subst nj
      have hlt := lt e1
      rw [List.getElem?_set_self (hl hlt)] at e3
      cases e3
      rw [List.getElem?_set_ne hjk] at e2 ⊢
      exact hd k b e2
    · rw [List.getElem?_set_ne (Ne.symm nj)] at e1 e3
      by_cases nk : k = i
      · subst nk
        have hlt := lt e2
        rw [List.getElem?_set_self (hl hlt)]
        intro z
        have z' := Option.some.inj (Option.some.inj z)
        rw [← z'] at e3
        exact hd j a e1 e3
      · rw [List.getElem?_set_ne (Ne.symm nk)] at e2 ⊢
        exact R.dis j k a b q hjk e1 e2 e3
/-- a local object, as it is found in the heap, is no one else's -/
theorem Rel.write (R : Rel g F r n s H) {i : Nat} {p : Addr} {m m' : MV} {o : HO} (e : r[i]? = some (some (.mu m))) (es : s[i]? = some (some (.ref p))) (hm : MutR F (upd H p o) p m') : Rel g F (r.set i (some (.mu m'))) n s (upd H p o) := by
  obtain ⟨q, eq, h1, h2, h3, h4⟩ := R.mu e
  rw [es] at eq
  have eq' := V.ref.inj (Option.some.inj (Option.some.inj eq))
  subst eq'
  have hb : Bas g F n (upd H p o) := by
    obtain ⟨u, hu⟩ := h4.some
    refine R.bas.write hu (fun ps z => ?_) (fun c q z => ?_) h1 h2 h3
    · rw [z] at hu
      cases m with
      | lst d => obtain ⟨vs, e, _⟩ := h4; rw [hu] at e; cases e
      | dK d => obtain ⟨vs, e, _⟩ := h4; rw [hu] at e; cases e
      | dT d => obtain ⟨vs, e, _⟩ := h4; rw [hu] at e; cases e
    · rw [z] at hu
      unfold LamX.CodeO at hu
      cases m with
      | lst d => obtain ⟨vs, e, _⟩ := h4; rw [hu] at e; cases e
      | dK d => obtain ⟨vs, e, _⟩ := h4; rw [hu] at e; cases e
      | dT d => obtain ⟨vs, e, _⟩ := h4; rw [hu] at e; cases e
  have es2 : s.set i (some (.ref p)) = s := by
    apply List.ext_getElem?
    intro j
    by_cases hj : i = j
    · subst hj
      rw [List.getElem?_set_self (List.getElem?_eq_some_iff.mp es).1, es]
    · rw [List.getElem?_set_ne hj]
  have R2 : Rel g F (r.set i none) n s (upd H p o) := by
    refine ⟨hb, by rw [List.length_set]; exact R.len, fun j z ez => ?_, fun j k a b q hjk e1 e2 e3 => ?_⟩
    · by_cases hj : j = i
      · subst hj
        have q := (List.getElem?_eq_some_iff.mp ez).1
        rw [List.length_set] at q
        rw [List.getElem?_set_self q] at ez; cases ez
      · rw [List.getElem?_set_ne (Ne.symm hj)] at ez
        obtain ⟨v, e1, h⟩ := R.slot j z ez
        cases z with
        | dat d => exact ⟨v, e1, h⟩
        | mu mz =>
          obtain ⟨q, rfl, k1, k2, k3, k4⟩ := h
          have nq : q ≠ p := fun z => by
            subst z
            exact R.dis i j m mz q (Ne.symm hj) e ez es e1
          exact ⟨_, e1, q, rfl, k1, k2, k3, k4.at fun u hu _ => by rw [upd_ne nq]; exact hu⟩
    · have ni : ∀ {l : Nat} {z : Slot}, (r.set i none)[l]? = some (some z) → l ≠ i := fun {l z} ez hz => by
        subst hz
        have q := (List.getElem?_eq_some_iff.mp ez).1
        rw [List.length_set] at q
        rw [List.getElem?_set_self q] at ez; cases ez
      rw [List.getElem?_set_ne (Ne.symm (ni e1))] at e1
      rw [List.getElem?_set_ne (Ne.symm (ni e2))] at e2
      exact R.dis j k a b q hjk e1 e2 e3
  have R3 := R2.setM (i := i) (p := p) (m := m') h1 h2 h3 hm fun j mj ej es' => by
    have hj : j ≠ i := fun z => by
      subst z
      have q := (List.getElem?_eq_some_iff.mp ej).1
      rw [List.length_set] at q
      rw [List.getElem?_set_self q] at ej; cases ej
    rw [List.getElem?_set_ne (Ne.symm hj)] at ej
    exact R.dis i j m mj p (Ne.symm hj) e ej es es'
  rw [es2, List.set_set] at R3
  exact R3
end
end K21

set_option Elab.async false
set_option linter.all false
set_option maxRecDepth 100000
set_option maxHeartbeats 4000000
/-! K21B: readings over data, lifted to the hand layer's readings. -/
namespace K21
open PySem PySem.Spec PyProof.Rows L2

abbrev TED := DEnv → Nat → (DV → DEnv → Nat → Prop) → Prop
abbrev TTD := DEnv → Nat → (Bool → DEnv → Nat → Prop) → Prop
abbrev TAD := DEnv → Nat → (List DV → DEnv → Nat → Prop) → Prop
structure EndsD where
  nx : DEnv → Nat → Prop
  rt : DV → Nat → Prop
  bk : DEnv → Nat → Prop := fun _ _ => False
  ct : DEnv → Nat → Prop := fun _ _ => False
abbrev TSD := EndsD → DEnv → Nat → Prop
/-- an expression gives v, and nothing else happens -/
def Ev (t : TED) (r : DEnv) (n : Nat) (v : DV) : Prop := ∀ P : DV → DEnv → Nat → Prop, P v r n → t r n P
def EvT (t : TTD) (r : DEnv) (n : Nat) (b : Bool) : Prop := ∀ P : Bool → DEnv → Nat → Prop, P b r n → t r n P

abbrev RepAll (g : G) (F : Hp) : List V → List DV → Prop := Paired (RepD g F)
theorem RepAll.mono {g : G} {F J : Hp} (s : SubH F J) {vs : List V} {ds : List DV} (h : RepAll g F vs ds) : RepAll g J vs ds := Paired.mapP h fun _ _ q => q.mono s

def CoE (g : G) (F : Hp) (s : L2.St) (P : DV → DEnv → Nat → Prop) (Q : VK) : Prop := ∀ F' d r' n' v H', SubH F F' → Rel g F' r' n' s H' → RepD g F' v d → P d r' n' → Q v H'
def CoT (g : G) (F : Hp) (s : L2.St) (P : Bool → DEnv → Nat → Prop) (Q : Bool → Hp → Prop) : Prop := ∀ F' b r' n' H', SubH F F' → Rel g F' r' n' s H' → P b r' n' → Q b H'
def CoA (g : G) (F : Hp) (s : L2.St) (P : List DV → DEnv → Nat → Prop) (Q : List V → Hp → Prop) : Prop := ∀ F' ds r' n' vs H', SubH F F' → Rel g F' r' n' s H' → RepAll g F' vs ds → P ds r' n' → Q vs H'
theorem CoE.mono {g : G} {F J : Hp} {s : L2.St} {P : DV → DEnv → Nat → Prop} {Q : VK} (h : CoE g F s P Q) (sb : SubH F J) : CoE g J s P Q := fun F' d r' n' v H' s2 => h F' d r' n' v H' (sb.trans s2)
theorem CoT.mono {g : G} {F J : Hp} {s : L2.St} {P : Bool → DEnv → Nat → Prop} {Q : Bool → Hp → Prop} (h : CoT g F s P Q) (sb : SubH F J) : CoT g J s P Q := fun F' d r' n' H' s2 => h F' d r' n' H' (sb.trans s2)
theorem CoA.mono {g : G} {F J : Hp} {s : L2.St} {P : List DV → DEnv → Nat → Prop} {Q : List V → Hp → Prop} (h : CoA g F s P Q) (sb : SubH F J) : CoA g J s P Q := fun F' d r' n' v H' s2 => h F' d r' n' v H' (sb.trans s2)
theorem CoE.py {g : G} {F F' : Hp} {s : L2.St} {P : DV → DEnv → Nat → Prop} {Q : VK} {r' : DEnv} {n' : Nat} {v : V} {H' : Hp} {d : PD} (k : CoE g F s P Q) (sb : SubH F F') (R : Rel g F' r' n' s H') (rv : Dz F' v d) (p : P (.py d) r' n') : Q v H' := k F' (.py d) r' n' v H' sb R rv p
def lift (g : G) (t : TED) : TE := fun s H Q => ∃ F r n P, Rel g F r n s H ∧ t r n P ∧ CoE g F s P Q
def liftT (g : G) (t : TTD) : TT := fun s H Q => ∃ F r n P, Rel g F r n s H ∧ t r n P ∧ CoT g F s P Q
def liftA (g : G) (t : TAD) : TA := fun s H Q => ∃ F r n P, Rel g F r n s H ∧ t r n P ∧ CoA g F s P Q
/-- the ends met; the part of the frozen heap that was there before need not be kept -/
structure EndsOk (g : G) (F : Hp) (E : EndsD) (D : Ends) : Prop where
  nx0 : ∀ F' r' n' s' H', Rel g F' r' n' s' H' → E.nx r' n' → D.nx s' H'
  rt0 : ∀ F' d n' v H', Bas g F' n' H' → RepD g F' v d → plainD d = true → E.rt d n' → D.rt v H'
  bk0 : ∀ F' r' n' s' H', Rel g F' r' n' s' H' → E.bk r' n' → D.bk s' H'
  ct0 : ∀ F' r' n' s' H', Rel g F' r' n' s' H' → E.ct r' n' → D.ct s' H'
section
variable {g : G} {F J : Hp} {E : EndsD} {D : Ends}
theorem EndsOk.mono (h : EndsOk g F E D) (_ : SubH F J) : EndsOk g J E D := ⟨h.nx0, h.rt0, h.bk0, h.ct0⟩
theorem EndsOk.to (h : EndsOk g F E D) : EndsOk g J E D := ⟨h.nx0, h.rt0, h.bk0, h.ct0⟩
theorem EndsOk.nx (h : EndsOk g F E D) (F' : Hp) (r' : DEnv) (n' : Nat) (s' : L2.St) (H' : Hp) (_ : SubH F F') (R : Rel g F' r' n' s' H') (p : E.nx r' n') : D.nx s' H' := h.nx0 F' r' n' s' H' R p
theorem EndsOk.rt (h : EndsOk g F E D) (F' : Hp) (d : DV) (n' : Nat) (v : V) (H' : Hp) (_ : SubH F F') (b : Bas g F' n' H') (rv : RepD g F' v d) (pl : plainD d = true) (p : E.rt d n') : D.rt v H' := h.rt0 F' d n' v H' b rv pl p
end
def liftS (g : G) (t : TSD) : TS := fun D s H => ∃ F r n E, Rel g F r n s H ∧ t E r n ∧ EndsOk g F E D

structure DE (c : Cst) (X : Cx) (e : Expr) (t : TED) : Prop where
  run : ∀ g : G, g.c = c → PE X e (lift g t)
structure DT (c : Cst) (X : Cx) (e : Expr) (t : TTD) : Prop where
  run : ∀ g : G, g.c = c → PT X e (liftT g t)
structure DW (c : Cst) (X : Cx) (e : Expr) (t : TTD) : Prop where
  run : ∀ g : G, g.c = c → PW X e (liftT g t)
structure DA (c : Cst) (X : Cx) (es : List Expr) (t : TAD) : Prop where
  run : ∀ g : G, g.c = c → PA X es (liftA g t)
structure DS (c : Cst) (X : Cx) (st : Stmt) (t : TSD) : Prop where
  run : ∀ g : G, g.c = c → PS X st (liftS g t)
def liftSX (c : Cst) (t : TSD) : TS := fun D s H => ∃ g : G, g.c = c ∧ liftS g t D s H
structure DSs (c : Cst) (X : Cx) (st : List Stmt) (t : TSD) : Prop where
  run : ∀ g : G, g.c = c → PSs X st (liftS g t)
section
variable {X : Cx}
theorem PE.imp {e : Expr} {t t' : TE} (h : PE X e t) (w : ∀ s H Q, t' s H Q → t s H Q) : PE X e t' := ⟨fun pins s σ H Q I q => h.run pins s σ H Q I (w _ _ _ q)⟩
theorem PT.imp {e : Expr} {t t' : TT} (h : PT X e t) (w : ∀ s H Q, t' s H Q → t s H Q) : PT X e t' := ⟨fun pins s σ H Q I q => h.run pins s σ H Q I (w _ _ _ q)⟩
theorem PW.imp {e : Expr} {t t' : TT} (h : PW X e t) (w : ∀ s H Q, t' s H Q → t s H Q) : PW X e t' := ⟨fun wh pins s σ H Q I q => h.run wh pins s σ H Q I (w _ _ _ q)⟩
theorem PA.imp {e : List Expr} {t t' : TA} (h : PA X e t) (w : ∀ s H Q, t' s H Q → t s H Q) : PA X e t' := ⟨fun pos pins s σ H Q I q => h.run pos pins s σ H Q I (w _ _ _ q)⟩
theorem PS.imp {e : Stmt} {t t' : TS} (h : PS X e t) (w : ∀ D s H, t' D s H → t D s H) : PS X e t' := ⟨fun pins s σ H D I q => h.run pins s σ H D I (w _ _ _ q)⟩
theorem PSs.imp {e : List Stmt} {t t' : TS} (h : PSs X e t) (w : ∀ D s H, t' D s H → t D s H) : PSs X e t' := ⟨fun pins s σ H D I q => h.run pins s σ H D I (w _ _ _ q)⟩
end

section
variable {X : Cx} {c : Cst} {e a b : Expr} {es : List Expr} {ta tb te : TED} {tas : TAD} {pos : Pos}

/-! ### names, constants -/
@[simp] def dVar (i : Nat) : TED := fun r n P => ∃ d, r[i]? = some (some (.dat d)) ∧ P d r n
theorem de_v (i : Nat) {x : Str} (h : PE X (.Name x pos) (tVar i)) : DE c X (.Name x pos) (dVar i) := ⟨fun g _ => PE.imp h fun s H Q ⟨F, r, n, P, R, ⟨d, e, p⟩, k⟩ => by
  obtain ⟨v, ev, rv⟩ := R.dat e
  exact ⟨v, ev, k F d r n v H (.refl F) R rv p⟩⟩
@[simp] def frzV : MV → Option DV
  | .lst ds => some (.py (.list ds))
  | .dK kvs => some (.dct kvs)
  | .dT _ => none
/-- a local object is handed on: from now on it is data -/
@[simp] def dFrz (i : Nat) : TED := fun r n P => ∃ m d, r[i]? = some (some (.mu m)) ∧ frzV m = some d ∧ P d (r.set i (some (.dat d))) n
theorem Rel.frz {g : G} {F H : Hp} {r : DEnv} {n : Nat} {s : L2.St} {i : Nat} {m : MV} {d : DV} (R : Rel g F r n s H) (e : r[i]? = some (some (.mu m))) (ed : frzV m = some d) :
    ∃ F' p, SubH F F' ∧ s[i]? = some (some (.ref p)) ∧ Rel g F' (r.set i (some (.dat d))) n s H ∧ RepD g F' (.ref p) d := by
  obtain ⟨p, es, h1, h2, h3, h4⟩ := R.mu e
  obtain ⟨o, ho, hrep, hnt⟩ : ∃ o, H p = some o ∧ RepD g (upd F p o) (.ref p) d ∧ ∀ ps, o ≠ .tbl ps := by
    cases m with
    | lst ds =>
      obtain ⟨vs, e1, e2⟩ := h4
      cases ed
      exact ⟨_, e1, Dz.lst upd_same (e2.mono (.new h1)), fun _ z => by cases z⟩
    | dK kvs =>
      obtain ⟨vs, e1, e2⟩ := h4
      cases ed
      exact ⟨_, e1, ⟨p, vs, rfl, upd_same, e2.mono (.new h1)⟩, fun _ z => by cases z⟩
    | dT kvs => cases ed
  have sb : SubH F (upd F p o) := .new h1
  have hb : Bas g (upd F p o) n H := by
    refine ⟨fun a u ea => ?_, R.bas.gro.trans sb, fun a u k1 k2 k3 => ?_, R.bas.fr, R.bas.frt, fun a ps ea => ?_, R.bas.tab, R.bas.str, fun a ha => ?_, R.bas.anc⟩
    · by_cases hz : a = p
      · subst hz; rw [upd_same] at ea; cases ea; exact .inl ho
      · rw [upd_ne hz] at ea; exact R.bas.und a u ea
    · by_cases hz : a = p
      · subst hz; exact h2
      · rw [upd_ne hz] at k2; exact R.bas.new a u k1 k2 k3
    · by_cases hz : a = p
      · subst hz; rw [upd_same] at ea; exact hnt ps (Option.some.inj ea)
      · rw [upd_ne hz] at ea; exact R.bas.ntb a ps ea
    · have hz : a ≠ p := fun z => h3 (z ▸ ha)
      rw [upd_ne hz]; exact R.bas.strF a ha
  have es2 : s.set i (some (.ref p)) = s := by
    apply List.ext_getElem?
    intro j
    by_cases hj : i = j
    · subst hj
      rw [List.getElem?_set_self (List.getElem?_eq_some_iff.mp es).1, es]
    · rw [List.getElem?_set_ne hj]
  have gone : ∀ {l : Nat} {z : Slot}, (r.set i none)[l]? = some (some z) → l ≠ i ∧ r[l]? = some (some z) := fun {l z} ez => by
    have hl : l ≠ i := fun hz => by
      subst hz
      have q := (List.getElem?_eq_some_iff.mp ez).1
      rw [List.length_set] at q
      rw [List.getElem?_set_self q] at ez; cases ez
    rw [List.getElem?_set_ne (Ne.symm hl)] at ez
    exact ⟨hl, ez⟩
  have R2 : Rel g (upd F p o) (r.set i none) n s H := by
    refine ⟨hb, by rw [List.length_set]; exact R.len, fun j z ez => ?_, fun j k a b q hjk e1 e2 e3 => R.dis j k a b q hjk (gone e1).2 (gone e2).2 e3⟩
    obtain ⟨hj, ez⟩ := gone ez
    obtain ⟨v, e1, h⟩ := R.slot j z ez
    cases z with
    | dat d' => exact ⟨v, e1, RepD.mono sb h⟩
    | mu mz =>
      obtain ⟨q, rfl, k1, k2, k3, k4⟩ := h
      have nq : q ≠ p := fun z => by
        subst z
        exact R.dis i j m mz q (Ne.symm hj) e ez es e1
      exact ⟨_, e1, q, rfl, by rw [upd_ne nq]; exact k1, k2, k3, k4.mono sb⟩
  have R3 := R2.set (i := i) hrep
  rw [es2, List.set_set] at R3
  exact ⟨_, p, sb, es, R3, hrep⟩
theorem de_frz (i : Nat) {x : Str} (h : PE X (.Name x pos) (tVar i)) : DE c X (.Name x pos) (dFrz i) := ⟨fun g _ => PE.imp h fun s H Q ⟨F, r, n, P, R, ⟨m, d, e, ed, p⟩, k⟩ => by
  obtain ⟨F', q, sb, es, R', rv⟩ := R.frz e ed
  exact ⟨.ref q, es, k F' d _ n _ H sb R' rv p⟩⟩
@[simp] def dC (d : PD) : TED := fun r n P => P (.py d) r n
theorem de_int {i : Int} {j : Nat} : DE c X (.Constant (.int i) j pos) (dC (.int i)) := ⟨fun g _ => PE.imp pe_int fun s H Q ⟨F, r, n, P, R, p, k⟩ => k.py (.refl F) R (Dz.int i) p⟩
theorem de_str {x : Str} {j : Nat} (hx : PyData.strOk x = true := by decide +kernel) : DE c X (.Constant (.str x) j pos) (dC (.str x)) := ⟨fun g _ => PE.imp pe_str fun s H Q ⟨F, r, n, P, R, p, k⟩ => k.py (.refl F) R (Dz.str x hx) p⟩
theorem de_bl {b : Bool} {j : Nat} : DE c X (.Constant (.bool b) j pos) (dC (.bool b)) := ⟨fun g _ => PE.imp pe_bl fun s H Q ⟨F, r, n, P, R, p, k⟩ => k.py (.refl F) R (Dz.bl b) p⟩
theorem de_non {j : Nat} : DE c X (.Constant .none j pos) (dC .none) := ⟨fun g _ => PE.imp pe_non fun s H Q ⟨F, r, n, P, R, p, k⟩ => k.py (.refl F) R Dz.non p⟩
/-- a module's constant text -/
theorem de_globS {x y : Str} {t : Tok} (hg : Gl X x) (hm : X.mg x = some (.str y t)) (hy : PyData.strOk y = true := by decide +kernel) (hd : (x == ("__debug__" : Str)) = false := by decide) : DE c X (.Name x pos) (dC (.str y)) :=
  ⟨fun g _ => PE.imp (pe_glob (v := .str y) hg hm ⟨t, rfl⟩ hd) fun s H Q ⟨F, r, n, P, R, p, k⟩ => k.py (.refl F) R (Dz.str y hy) p⟩

/-! ### arguments, displays -/
@[simp] def dNil : TAD := fun r n P => P [] r n
@[simp] def dCons (ta : TED) (ts : TAD) : TAD := fun r n P => ta r n fun d r1 n1 => ts r1 n1 fun ds r2 n2 => P (d :: ds) r2 n2
theorem da_nil : DA c X [] dNil := ⟨fun g _ => PA.imp pa_nil fun s H Q ⟨F, r, n, P, R, p, k⟩ => k F _ r n _ H (.refl F) R .nil p⟩
theorem da_cons (ha : DE c X e te) (hr : DA c X es tas) (hs : starEach (e :: es) X.env = (false, eval e X.env) :: starEach es X.env := by rfl) : DA c X (e :: es) (dCons te tas) := ⟨fun g hg =>
  PA.imp (pa_cons (ha.run g hg) (hr.run g hg) hs) fun s H Q ⟨F, r, n, P, R, p, k⟩ =>
    ⟨F, r, n, _, R, p, fun F1 d r1 n1 v H1 s1 R1 rv p1 => ⟨F1, r1, n1, _, R1, p1, fun F2 ds r2 n2 vs H2 s2 R2 rs p2 => k F2 _ r2 n2 _ H2 (s1.trans s2) R2 (.cons (rv.mono s2) rs) p2⟩⟩⟩
@[simp] def pys : List DV → Option (List PD)
  | [] => some []
  | .py d :: r => (pys r).map (d :: ·)
  | _ :: _ => none
theorem pys_rep {g : G} {F : Hp} : ∀ {ds : List DV} {ps : List PD} {vs : List V}, pys ds = some ps → RepAll g F vs ds → DzAll F vs ps
  | [], ps, vs, h, r => by cases h; cases r; exact .nil
  | .py d :: ds, ps, vs, h, r => by
    cases q : pys ds with
    | none => simp [pys, q] at h
    | some qs =>
      simp [pys, q] at h
      subst h
      cases r with
      | cons a t => exact .cons a (pys_rep q t)
  | .dct _ :: ds, ps, vs, h, r => by simp [pys] at h
  | .deb _ :: ds, ps, vs, h, r => by simp [pys] at h
  | .strm :: ds, ps, vs, h, r => by simp [pys] at h
  | .oldB _ :: ds, ps, vs, h, r => by simp [pys] at h
  | .ancP _ :: ds, ps, vs, h, r => by simp [pys] at h
  | .ancB _ :: ds, ps, vs, h, r => by simp [pys] at h
  | .nw _ :: ds, ps, vs, h, r => by simp [pys] at h
@[simp] def dLst (ts : TAD) : TED := fun r n P => ts r n fun ds r1 n1 => ∃ ps, pys ds = some ps ∧ ps.length ≤ sizeLine ∧ P (.py (.list ps)) r1 n1
@[simp] def dTup (ts : TAD) : TED := fun r n P => ts r n fun ds r1 n1 => ∃ ps, pys ds = some ps ∧ ps.length ≤ sizeLine ∧ P (.py (.tuple ps)) r1 n1
theorem de_lst (h : DA c X es tas) : DE c X (.List es pos) (dLst tas) := ⟨fun g hg => PE.imp (pe_lst (h.run g hg)) fun s H Q ⟨F, r, n, P, R, p, k⟩ =>
  ⟨F, r, n, _, R, p, fun F1 ds r1 n1 vs H1 s1 R1 rs ⟨ps, e1, e2, p1⟩ => by
    have hz := pys_rep e1 rs
    refine ⟨by rw [hz.length]; exact e2, fun q hq => ?_⟩
    exact k.py (s1.trans (.new (R1.bas.und.some hq))) (R1.laid hq fun _ z => by cases z) (Dz.lst upd_same (hz.mono (.new (R1.bas.und.some hq)))) p1⟩⟩
theorem de_tup {x1 : Nat} (h : DA c X es tas) : DE c X (.Tuple es x1 pos) (dTup tas) := ⟨fun g hg => PE.imp (pe_tup (h.run g hg)) fun s H Q ⟨F, r, n, P, R, p, k⟩ =>
  ⟨F, r, n, _, R, p, fun F1 ds r1 n1 vs H1 s1 R1 rs ⟨ps, e1, e2, p1⟩ => by
    have hz := pys_rep e1 rs
    refine ⟨by rw [hz.length]; exact e2, fun q hq => ?_⟩
    exact k.py (s1.trans (.new (R1.bas.und.some hq))) (R1.laid hq fun _ z => by cases z) (Dz.tup upd_same (hz.mono (.new (R1.bas.und.some hq)))) p1⟩⟩
/-- {} as data -/
theorem de_d0 : DE c X (.Dict [] [] pos) (dC (.dict [])) := ⟨fun g _ => PE.imp pe_dnewK fun s H Q ⟨F, r, n, P, R, p, k⟩ => fun q hq =>
  k.py (.new (R.bas.und.some hq)) (R.laid hq fun _ z => by cases z) (Dz.d0 upd_same) p⟩

/-! ### operators -/
abbrev KB := DV → DV → DEnv → Nat → (DV → DEnv → Nat → Prop) → Prop
def OpB (c : Cst) (rr : R2) (k : KB) : Prop := ∀ (g : G) F r n s H x y a b P Q, g.c = c → Rel g F r n s H → RepD g F x a → RepD g F y b → k a b r n P → CoE g F s P Q → rr x y H Q
@[simp] def tOpD (k : KB) (ta tb : TED) : TED := fun r n P => ta r n fun a r1 n1 => tb r1 n1 fun b r2 n2 => k a b r2 n2 P
theorem lift_op {rr : R2} {k : KB} (hb : OpB c rr k) (g : G) (hg : g.c = c) {s : L2.St} {H : Hp} {Q : VK} : lift g (tOpD k ta tb) s H Q → tOp rr (lift g ta) (lift g tb) s H Q := fun ⟨F, r, n, P, R, p, kk⟩ =>
  ⟨F, r, n, _, R, p, fun F1 d r1 n1 v H1 s1 R1 rv p1 => ⟨F1, r1, n1, _, R1, p1, fun F2 d2 r2 n2 v2 H2 s2 R2 rv2 p2 => hb g F2 r2 n2 s H2 v v2 d d2 P Q hg R2 (rv.mono s2) rv2 p2 (kk.mono (s1.trans s2))⟩⟩
theorem de_op {op : Operator} {rr : R2} {k : KB} (ho : OpR X (binaryOp op) rr) (hb : OpB c rr k) (h1 : DE c X a ta) (h2 : DE c X b tb) : DE c X (.BinOp a op b pos) (tOpD k ta tb) :=
  ⟨fun g hg => PE.imp (pe_op ho (h1.run g hg) (h2.run g hg)) fun _ _ _ => lift_op hb g hg⟩
theorem de_cmp {op : CmpOp} {rr : R2} {k : KB} (ho : OpR X (compareOp op) rr) (hb : OpB c rr k) (h1 : DE c X a ta) (h2 : DE c X b tb) (hm : behindInMarks op b = false) : DE c X (.Compare a [op] [b] pos) (tOpD k ta tb) :=
  ⟨fun g hg => PE.imp (pe_cmpR ho (h1.run g hg) (h2.run g hg) hm) fun _ _ _ => lift_op hb g hg⟩
@[simp] def tBD (t : TED) : TTD := fun r n P => t r n fun d r1 n1 => ∃ b, d = .py (.bool b) ∧ P b r1 n1
theorem lift_tb {t : TED} (g : G) {s : L2.St} {H : Hp} {Q : Bool → Hp → Prop} : liftT g (tBD t) s H Q → lift g t s H fun x H1 => ∃ k, x = .bl k ∧ Q k H1 := fun ⟨F, r, n, P, R, p, kk⟩ =>
  ⟨F, r, n, _, R, p, fun F1 d r1 n1 v H1 s1 R1 rv p1 => by
    obtain ⟨b, e, p1⟩ := p1
    subst e
    cases rv
    exact ⟨b, rfl, kk F1 b r1 n1 H1 s1 R1 p1⟩⟩
/-- a comparison as a test -/
theorem dt_cmp {op : CmpOp} {rr : R2} {k : KB} (ho : OpR X (compareOp op) rr) (hb : OpB c rr k) (h1 : DE c X a ta) (h2 : DE c X b tb) (hm : behindInMarks op b = false) : DT c X (.Compare a [op] [b] pos) (tBD (tOpD k ta tb)) :=
  ⟨fun g hg => PT.imp (pt_cmpR ho (h1.run g hg) (h2.run g hg) hm) fun s H Q h => by
    obtain ⟨F, r, n, P, R, p, kk⟩ := lift_tb (t := tOpD k ta tb) g h
    exact lift_op hb g hg ⟨F, r, n, P, R, p, kk⟩⟩
theorem dt_val (h : DE c X e te) (he : ∀ whole, isTrue e X.env whole = (do let v ← whole; standAt e.pos; holding [v] (truthy v)) := by intro _; rfl) : DT c X e (tBD te) :=
  ⟨fun g hg => PT.imp (pt_val (h.run g hg) he) fun s H Q h => lift_tb g h⟩
/-- a list as a test -/
@[simp] def tTruL (t : TED) : TTD := fun r n P => t r n fun d r1 n1 => ∃ ds, d = .py (.list ds) ∧ P (!ds.isEmpty) r1 n1
theorem dt_truL (h : DE c X e te) (he : ∀ whole, isTrue e X.env whole = (do let v ← whole; standAt e.pos; holding [v] (truthy v)) := by intro _; rfl) : DT c X e (tTruL te) :=
  ⟨fun g hg => PT.imp (pt_truth (h.run g hg) he) fun s H Q ⟨F, r, n, P, R, p, kk⟩ => ⟨F, r, n, _, R, p, fun F1 d r1 n1 v H1 s1 R1 rv p1 => by
    obtain ⟨ds, e, p1⟩ := p1
    subst e
    cases rv with
    | @lst a xs _ e1 e2 =>
      refine ⟨!ds.isEmpty, .inl ⟨xs, .of (R1.bas.und.lst e1), ?_⟩, kk F1 _ r1 n1 H1 s1 R1 p1⟩
      have hl := e2.length
      cases xs <;> cases ds <;> simp_all⟩⟩
@[simp] def tNotD (t : TTD) : TTD := fun r n P => t r n fun b r1 n1 => P (!b) r1 n1
@[simp] def tAndD (t u : TTD) : TTD := fun r n P => t r n fun b r1 n1 => if b = true then u r1 n1 P else P false r1 n1
@[simp] def tOrD (t u : TTD) : TTD := fun r n P => t r n fun b r1 n1 => if b = true then P true r1 n1 else u r1 n1 P
variable {t1 t2 : TTD} {rest : List Expr}
theorem dt_not (h : DT c X a t1) : DT c X (.UnaryOp .Not a pos) (tNotD t1) := ⟨fun g hg => PT.imp (pt_not (h.run g hg)) fun s H Q ⟨F, r, n, P, R, p, kk⟩ =>
  ⟨F, r, n, _, R, p, fun F1 b r1 n1 H1 s1 R1 p1 => kk F1 _ r1 n1 H1 s1 R1 p1⟩⟩
theorem dw_and1 (h : DT c X a t1) : DW c X (.BoolOp .And [a] pos) t1 := ⟨fun g hg => pw_and1 (h.run g hg)⟩
theorem dw_or1 (h : DT c X a t1) : DW c X (.BoolOp .Or [a] pos) t1 := ⟨fun g hg => pw_or1 (h.run g hg)⟩
theorem dw_and (h : DT c X a t1) (h2 : DW c X (.BoolOp .And (b :: rest) pos) t2) : DW c X (.BoolOp .And (a :: b :: rest) pos) (tAndD t1 t2) := ⟨fun g hg => PW.imp (pw_and (h.run g hg) (h2.run g hg)) fun s H Q ⟨F, r, n, P, R, p, kk⟩ =>
  ⟨F, r, n, _, R, p, fun F1 b r1 n1 H1 s1 R1 p1 => by
    cases b with
    | true => exact ⟨F1, r1, n1, P, R1, p1, kk.mono s1⟩
    | false => exact kk F1 _ r1 n1 H1 s1 R1 p1⟩⟩
theorem dw_or (h : DT c X a t1) (h2 : DW c X (.BoolOp .Or (b :: rest) pos) t2) : DW c X (.BoolOp .Or (a :: b :: rest) pos) (tOrD t1 t2) := ⟨fun g hg => PW.imp (pw_or (h.run g hg) (h2.run g hg)) fun s H Q ⟨F, r, n, P, R, p, kk⟩ =>
  ⟨F, r, n, _, R, p, fun F1 b r1 n1 H1 s1 R1 p1 => by
    cases b with
    | true => exact kk F1 _ r1 n1 H1 s1 R1 p1
    | false => exact ⟨F1, r1, n1, P, R1, p1, kk.mono s1⟩⟩⟩
theorem DW.dt (h : DW c X e t1) : DT c X e t1 := ⟨fun g hg => (h.run g hg).pt⟩
/-- and, or, not as values of True and False -/
@[simp] def dAndV (ta tb : TED) : TED := fun r n P => ta r n fun d r1 n1 => ∃ b, d = .py (.bool b) ∧ if b = true then tb r1 n1 P else P (.py (.bool false)) r1 n1
@[simp] def dOrV (ta tb : TED) : TED := fun r n P => ta r n fun d r1 n1 => ∃ b, d = .py (.bool b) ∧ if b = true then P (.py (.bool true)) r1 n1 else tb r1 n1 P
@[simp] def dNotV (ta : TED) : TED := fun r n P => ta r n fun d r1 n1 => ∃ b, d = .py (.bool b) ∧ P (.py (.bool (!b))) r1 n1
theorem de_one {op : BoolOp} (h : DE c X a ta) : DE c X (.BoolOp op [a] pos) ta := ⟨fun g hg => pe_one (h.run g hg)⟩
theorem de_and (h : DE c X a ta) (h2 : DE c X (.BoolOp .And (b :: rest) pos) tb) : DE c X (.BoolOp .And (a :: b :: rest) pos) (dAndV ta tb) := ⟨fun g hg => PE.imp (pe_and (h.run g hg) (h2.run g hg)) fun s H Q ⟨F, r, n, P, R, p, kk⟩ =>
  ⟨F, r, n, _, R, p, fun F1 d r1 n1 v H1 s1 R1 rv p1 => by
    obtain ⟨b, e, p1⟩ := p1
    subst e
    cases rv
    refine ⟨b, rfl, ?_⟩
    cases b with
    | true => exact ⟨F1, r1, n1, P, R1, p1, kk.mono s1⟩
    | false => exact kk.py s1 R1 (Dz.bl false) p1⟩⟩
theorem de_or (h : DE c X a ta) (h2 : DE c X (.BoolOp .Or (b :: rest) pos) tb) : DE c X (.BoolOp .Or (a :: b :: rest) pos) (dOrV ta tb) := ⟨fun g hg => PE.imp (pe_or (h.run g hg) (h2.run g hg)) fun s H Q ⟨F, r, n, P, R, p, kk⟩ =>
  ⟨F, r, n, _, R, p, fun F1 d r1 n1 v H1 s1 R1 rv p1 => by
    obtain ⟨b, e, p1⟩ := p1
    subst e
    cases rv
    refine ⟨b, rfl, ?_⟩
    cases b with
    | true => exact kk.py s1 R1 (Dz.bl true) p1
    | false => exact ⟨F1, r1, n1, P, R1, p1, kk.mono s1⟩⟩⟩
theorem de_not (h : DE c X a ta) : DE c X (.UnaryOp .Not a pos) (dNotV ta) := ⟨fun g hg => PE.imp (pe_not (h.run g hg)) fun s H Q ⟨F, r, n, P, R, p, kk⟩ =>
  ⟨F, r, n, _, R, p, fun F1 d r1 n1 v H1 s1 R1 rv p1 => by
    obtain ⟨b, e, p1⟩ := p1
    subst e
    cases rv
    exact ⟨b, rfl, kk.py s1 R1 (Dz.bl _) p1⟩⟩⟩
@[simp] def dIf (t : TTD) (ta tb : TED) : TED := fun r n P => t r n fun b r1 n1 => if b = true then ta r1 n1 P else tb r1 n1 P
theorem de_if {cc : Expr} (hc : DT c X cc t1) (h1 : DE c X a ta) (h2 : DE c X b tb) : DE c X (.IfExp cc a b pos) (dIf t1 ta tb) := ⟨fun g hg => PE.imp (pe_ifExp (hc.run g hg) (h1.run g hg) (h2.run g hg)) fun s H Q ⟨F, r, n, P, R, p, kk⟩ =>
  ⟨F, r, n, _, R, p, fun F1 b r1 n1 H1 s1 R1 p1 => by
    cases b with
    | true => exact ⟨F1, r1, n1, P, R1, p1, kk.mono s1⟩
    | false => exact ⟨F1, r1, n1, P, R1, p1, kk.mono s1⟩⟩⟩

/-! ### the operators' answers -/
@[simp] def kI (C : Int → Int → Prop) (f : Int → Int → PD) : KB := fun a b r n P => ∃ i j, a = .py (.int i) ∧ b = .py (.int j) ∧ C i j ∧ P (.py (f i j)) r n
theorem ob_rI {C : Int → Int → Prop} {f : Int → Int → V} {fd : Int → Int → PD} (hf : ∀ i j (F : Hp), Dz F (f i j) (fd i j)) : OpB c (rI C f) (kI C fd) := fun g F r n s H x y a b P Q _ R ra rb h k => by
  obtain ⟨i, j, rfl, rfl, hC, p⟩ := h
  cases ra; cases rb
  exact ⟨i, j, rfl, rfl, hC, k.py (.refl F) R (hf i j F) p⟩
theorem ob_rI0 {f : Int → Int → V} {fd : Int → Int → PD} (hf : ∀ i j (F : Hp), Dz F (f i j) (fd i j)) : OpB c (rI0 f) (kI (fun _ _ => True) fd) := fun g F r n s H x y a b P Q _ R ra rb h k => by
  obtain ⟨i, j, rfl, rfl, hC, p⟩ := h
  cases ra; cases rb
  exact ⟨i, j, rfl, rfl, k.py (.refl F) R (hf i j F) p⟩
abbrev kAdd : KB := kI (fun _ _ => True) fun i j => .int (i + j)
abbrev kSub : KB := kI (fun _ _ => True) fun i j => .int (i - j)
abbrev kMul : KB := kI CMul fun i j => .int (i * j)
abbrev kMod : KB := kI (fun _ j => 0 < j) fun i j => .int (i % j)
abbrev kLt : KB := kI (fun _ _ => True) fun i j => .bool (decide (i < j))
abbrev kLe : KB := kI (fun _ _ => True) fun i j => .bool (decide (i ≤ j))
abbrev kGt : KB := kI (fun _ _ => True) fun i j => .bool (decide (j < i))
abbrev kGe : KB := kI (fun _ _ => True) fun i j => .bool (decide (j ≤ i))
theorem de_add (h1 : DE c X a ta) (h2 : DE c X b tb) : DE c X (.BinOp a .Add b pos) (tOpD kAdd ta tb) := de_op op_add (ob_rI0 fun _ _ _ => .int _) h1 h2
theorem de_sub (h1 : DE c X a ta) (h2 : DE c X b tb) : DE c X (.BinOp a .Sub b pos) (tOpD kSub ta tb) := de_op op_sub (ob_rI0 fun _ _ _ => .int _) h1 h2
theorem de_mul (h1 : DE c X a ta) (h2 : DE c X b tb) : DE c X (.BinOp a .Mult b pos) (tOpD kMul ta tb) := de_op op_mul (ob_rI fun _ _ _ => .int _) h1 h2
theorem de_mod (h1 : DE c X a ta) (h2 : DE c X b tb) : DE c X (.BinOp a .Mod b pos) (tOpD kMod ta tb) := de_op op_mod (ob_rI fun _ _ _ => .int _) h1 h2
theorem dt_lt (h1 : DE c X a ta) (h2 : DE c X b tb) : DT c X (.Compare a [.Lt] [b] pos) (tBD (tOpD kLt ta tb)) := dt_cmp op_lt (ob_rI0 fun _ _ _ => .bl _) h1 h2 (nomark _)
theorem dt_gt (h1 : DE c X a ta) (h2 : DE c X b tb) : DT c X (.Compare a [.Gt] [b] pos) (tBD (tOpD kGt ta tb)) := dt_cmp op_gt (ob_rI0 fun _ _ _ => .bl _) h1 h2 (nomark _)
theorem dt_ge (h1 : DE c X a ta) (h2 : DE c X b tb) : DT c X (.Compare a [.GtE] [b] pos) (tBD (tOpD kGe ta tb)) := dt_cmp op_ge (ob_rI0 fun _ _ _ => .bl _) h1 h2 (nomark _)
/-- == and != of data -/
@[simp] def kEq : KB := fun a b r n P => ∃ d e, a = .py d ∧ b = .py e ∧ shapeD d = true ∧ shapeD e = true ∧ P (.py (.bool (PyData.eqv d e))) r n
@[simp] def kNe : KB := fun a b r n P => ∃ d e, a = .py d ∧ b = .py e ∧ shapeD d = true ∧ shapeD e = true ∧ P (.py (.bool (!PyData.eqv d e))) r n
theorem ob_eq : OpB c (rEqD X.K) kEq := fun g F r n s H x y a b P Q _ R ra rb h k => by
  obtain ⟨d, e, rfl, rfl, h1', h2', p⟩ := h
  have h1 := Dz.shaped ra h1'
  have h2 := Dz.shaped rb h2'
  exact ⟨d, e, Dz.dp R.bas.und ra (SeqAt.canLay_of_shaped h1), Dz.dp R.bas.und rb (SeqAt.canLay_of_shaped h2), h1, h2, k.py (.refl F) R (Dz.bl _) p⟩
theorem ob_ne : OpB c (rNeD X.K) kNe := fun g F r n s H x y a b P Q _ R ra rb h k => by
  obtain ⟨d, e, rfl, rfl, h1', h2', p⟩ := h
  have h1 := Dz.shaped ra h1'
  have h2 := Dz.shaped rb h2'
  exact ⟨d, e, Dz.dp R.bas.und ra (SeqAt.canLay_of_shaped h1), Dz.dp R.bas.und rb (SeqAt.canLay_of_shaped h2), h1, h2, k.py (.refl F) R (Dz.bl _) p⟩
theorem de_eq (hu : X.A.units + 64 < cLine) (h1 : DE c X a ta) (h2 : DE c X b tb) : DE c X (.Compare a [.Eq] [b] pos) (tOpD kEq ta tb) := de_cmp (op_eqD hu) ob_eq h1 h2 (nomark _)
theorem de_ne (hu : X.A.units + 64 < cLine) (h1 : DE c X a ta) (h2 : DE c X b tb) : DE c X (.Compare a [.NotEq] [b] pos) (tOpD kNe ta tb) := de_cmp (op_neD hu) ob_ne h1 h2 (nomark _)
theorem dt_eq (hu : X.A.units + 64 < cLine) (h1 : DE c X a ta) (h2 : DE c X b tb) : DT c X (.Compare a [.Eq] [b] pos) (tBD (tOpD kEq ta tb)) := dt_cmp (op_eqD hu) ob_eq h1 h2 (nomark _)
theorem dt_ne (hu : X.A.units + 64 < cLine) (h1 : DE c X a ta) (h2 : DE c X b tb) : DT c X (.Compare a [.NotEq] [b] pos) (tBD (tOpD kNe ta tb)) := dt_cmp (op_neD hu) ob_ne h1 h2 (nomark _)
/-- is None, is not None -/
@[simp] def isNone : DV → Bool
  | .py .none => true
  | .ancP .none => true
  | _ => false
theorem isNone_rep {g : G} {F : Hp} {v : V} {d : DV} (h : RepD g F v d) : decide (v = .non) = isNone d := by
  cases d with
  | py d => cases h <;> rfl
  | dct k => obtain ⟨a, kv, rfl, _⟩ := h; rfl
  | deb D => obtain ⟨a, dx, fs, v1, v2, v3, v4, rfl, _⟩ := h; rfl
  | strm => obtain ⟨s, _, rfl⟩ := h; rfl
  | oldB D => obtain ⟨a, dx, fs, v1, v2, v3, v4, rfl, _⟩ := h; rfl
  | ancP d => obtain ⟨_, h⟩ := h; cases h <;> rfl
  | ancB D => obtain ⟨_, a, dx, fs, v1, v2, v3, v4, rfl, _⟩ := h; rfl
  | nw ws => obtain ⟨p, rfl, _⟩ := h; rfl
@[simp] def kIsN : KB := fun a b r n P => b = .py .none ∧ P (.py (.bool (isNone a))) r n
@[simp] def kNotN : KB := fun a b r n P => b = .py .none ∧ P (.py (.bool (!isNone a))) r n
theorem ob_isN : OpB c (fun x y H Q => y = .non ∧ Q (.bl (decide (x = .non))) H) kIsN := fun g F r n s H x y a b P Q _ R ra rb h k => by
  obtain ⟨rfl, p⟩ := h
  cases rb
  exact ⟨rfl, k.py (.refl F) R (by rw [isNone_rep ra]; exact Dz.bl _) p⟩
theorem ob_notN : OpB c (fun x y H Q => y = .non ∧ Q (.bl (!decide (x = .non))) H) kNotN := fun g F r n s H x y a b P Q _ R ra rb h k => by
  obtain ⟨rfl, p⟩ := h
  cases rb
  exact ⟨rfl, k.py (.refl F) R (by rw [isNone_rep ra]; exact Dz.bl _) p⟩
theorem de_isN (h1 : DE c X a ta) (h2 : DE c X b tb) : DE c X (.Compare a [.Is] [b] pos) (tOpD kIsN ta tb) := de_cmp op_isN ob_isN h1 h2 (nomark _)
theorem dt_isN (h1 : DE c X a ta) (h2 : DE c X b tb) : DT c X (.Compare a [.Is] [b] pos) (tBD (tOpD kIsN ta tb)) := dt_cmp op_isN ob_isN h1 h2 (nomark _)
theorem de_notN (h1 : DE c X a ta) (h2 : DE c X b tb) : DE c X (.Compare a [.IsNot] [b] pos) (tOpD kNotN ta tb) := de_cmp op_notN ob_notN h1 h2 (nomark _)
theorem dt_notN (h1 : DE c X a ta) (h2 : DE c X b tb) : DT c X (.Compare a [.IsNot] [b] pos) (tBD (tOpD kNotN ta tb)) := dt_cmp op_notN ob_notN h1 h2 (nomark _)
/-- in, not in: a list of data -/
def inD (d : PD) (ds : List PD) : Bool := ds.any fun z => PyData.eqv z d
@[simp] def kIn (neg : Bool) : KB := fun a b r n P => ∃ d ds, a = .py d ∧ b = .py (.list ds) ∧ shapeD d = true ∧ shapeD (.list ds) = true ∧ P (.py (.bool (if neg then !inD d ds else inD d ds))) r n
theorem ob_in : OpB c (rInD X.K) (kIn false) := fun g F r n s H x y a b P Q _ R ra rb h k => by
  obtain ⟨d, e, rfl, rfl, h1', h2', p⟩ := h
  have h1 := Dz.shaped ra h1'
  have h2 := Dz.shaped rb h2'
  exact ⟨d, e, Dz.dp R.bas.und ra (SeqAt.canLay_of_shaped h1), Dz.dp R.bas.und rb (SeqAt.canLay_of_shaped h2), h1, h2, k.py (.refl F) R (Dz.bl _) p⟩
theorem ob_notIn : OpB c (rNotInD X.K) (kIn true) := fun g F r n s H x y a b P Q _ R ra rb h k => by
  obtain ⟨d, e, rfl, rfl, h1', h2', p⟩ := h
  have h1 := Dz.shaped ra h1'
  have h2 := Dz.shaped rb h2'
  exact ⟨d, e, Dz.dp R.bas.und ra (SeqAt.canLay_of_shaped h1), Dz.dp R.bas.und rb (SeqAt.canLay_of_shaped h2), h1, h2, k.py (.refl F) R (Dz.bl _) p⟩
theorem de_in (hu : X.A.units + 65 < cLine) (h1 : DE c X a ta) (h2 : DE c X b tb) (hm : behindInMarks .In b = false := by rfl) : DE c X (.Compare a [.In] [b] pos) (tOpD (kIn false) ta tb) := de_cmp (op_inD hu) ob_in h1 h2 hm
theorem dt_in (hu : X.A.units + 65 < cLine) (h1 : DE c X a ta) (h2 : DE c X b tb) (hm : behindInMarks .In b = false := by rfl) : DT c X (.Compare a [.In] [b] pos) (tBD (tOpD (kIn false) ta tb)) := dt_cmp (op_inD hu) ob_in h1 h2 hm
theorem de_notIn (hu : X.A.units + 65 < cLine) (h1 : DE c X a ta) (h2 : DE c X b tb) (hm : behindInMarks .NotIn b = false := by rfl) : DE c X (.Compare a [.NotIn] [b] pos) (tOpD (kIn true) ta tb) := de_cmp (op_notInD hu) ob_notIn h1 h2 hm
theorem dt_notIn (hu : X.A.units + 65 < cLine) (h1 : DE c X a ta) (h2 : DE c X b tb) (hm : behindInMarks .NotIn b = false := by rfl) : DT c X (.Compare a [.NotIn] [b] pos) (tBD (tOpD (kIn true) ta tb)) := dt_cmp (op_notInD hu) ob_notIn h1 h2 hm
/-- lists joined -/
@[simp] def kCat : KB := fun a b r n P => ∃ xs ys, a = .py (.list xs) ∧ b = .py (.list ys) ∧ xs.length + ys.length ≤ sizeLine ∧ P (.py (.list (xs ++ ys))) r n
theorem ob_cat : OpB c rCat kCat := fun g F r n s H x y a b P Q _ R ra rb h k => by
  obtain ⟨xs, ys, rfl, rfl, hl, p⟩ := h
  cases ra with
  | @lst a1 vs _ e1 h1 =>
    cases rb with
    | @lst a2 ws _ e2 h2 =>
      refine ⟨a1, a2, vs, ws, rfl, rfl, R.bas.und.lst e1, R.bas.und.lst e2, by rw [h1.length, h2.length]; exact hl, fun q hq => ?_⟩
      have sb : SubH F (upd F q (.lst (vs ++ ws))) := .new (R.bas.und.some hq)
      exact k.py sb (R.laid hq fun _ z => by cases z) (Dz.lst upd_same ((h1.append h2).mono sb)) p
theorem de_cat (h1 : DE c X a ta) (h2 : DE c X b tb) : DE c X (.BinOp a .Add b pos) (tOpD kCat ta tb) := de_op op_cat ob_cat h1 h2
theorem Dz.strOk {F : Hp} {v : V} {x : Str} (h : Dz F v (.str x)) : PyData.strOk x = true := by
  cases h; assumption
theorem strOk_app {x y : Str} (h1 : PyData.strOk x = true) (h2 : PyData.strOk y = true) : PyData.strOk (x ++ y) = true := by
  have e : (x ++ y).cps = x.cps ++ y.cps := rfl
  unfold PyData.strOk at *
  rw [e, Array.all_append, h1, h2]
  rfl
/-- texts joined -/
@[simp] def kCatS : KB := fun a b r n P => ∃ x y, a = .py (.str x) ∧ b = .py (.str y) ∧ x.length + y.length ≤ sizeLine ∧ P (.py (.str (x ++ y))) r n
theorem ob_catS : OpB c (fun x y H Q => ∃ i j, x = .str i ∧ y = .str j ∧ i.length + j.length ≤ sizeLine ∧ Q (.str (i ++ j)) H) kCatS := fun g F r n s H x y a b P Q _ R ra rb h k => by
  obtain ⟨xs, ys, rfl, rfl, hl, p⟩ := h
  have ra' := ra
  have rb' := rb
  cases ra'; cases rb'
  exact ⟨xs, ys, rfl, rfl, hl, k.py (.refl F) R (Dz.str _ (strOk_app (Dz.strOk ra) (Dz.strOk rb))) p⟩
theorem de_catS (h1 : DE c X a ta) (h2 : DE c X b tb) : DE c X (.BinOp a .Add b pos) (tOpD kCatS ta tb) := de_op op_add_str ob_catS h1 h2
end
end K21

set_option Elab.async false
set_option linter.all false
set_option maxRecDepth 100000
set_option maxHeartbeats 4000000
/-! K21C: statements, loops, comprehensions over data. -/
namespace K21
open PySem PySem.Spec PyProof.Rows L2

/-! ### within: what a part may change -/
def owned (r : DEnv) (s : L2.St) (a : Addr) : Prop := ∃ (i : Nat) (m : MV), r[i]? = some (some (.mu m)) ∧ s[i]? = some (some (.ref a))
open Classical in
noncomputable def strip (r : DEnv) (s : L2.St) (H : Hp) : Hp := fun a => if owned r s a then none else H a
theorem strip_own {r : DEnv} {s : L2.St} {H : Hp} {a : Addr} (h : owned r s a) : strip r s H a = none := if_pos h
theorem strip_not {r : DEnv} {s : L2.St} {H : Hp} {a : Addr} (h : ¬ owned r s a) : strip r s H a = H a := if_neg h
theorem strip_some {r : DEnv} {s : L2.St} {H : Hp} {a : Addr} {o : HO} (h : strip r s H a = some o) : ¬ owned r s a ∧ H a = some o := by
  by_cases q : owned r s a
  · rw [strip_own q] at h; cases h
  · rw [strip_not q] at h; exact ⟨q, h⟩
theorem strip_none {r : DEnv} {s : L2.St} {H : Hp} {a : Addr} (h : strip r s H a = none) : owned r s a ∨ H a = none := by
  by_cases q : owned r s a
  · exact .inl q
  · rw [strip_not q] at h; exact .inr h
noncomputable def G.inner (g : G) (F : Hp) (r : DEnv) (s : L2.St) (H : Hp) : G := { g with F0 := F, H0 := strip r s H }
section
variable {g : G} {F F' H H' : Hp} {r r' : DEnv} {n n' : Nat} {s s' : L2.St}
theorem Rel.own (R : Rel g F r n s H) {a : Addr} (h : owned r s a) : F a = none ∧ g.H0 a = none ∧ ¬ InS g.S a ∧ ∃ o, H a = some o ∧ ∀ ps, o ≠ .tbl ps := by
  obtain ⟨i, m, e, es⟩ := h
  obtain ⟨p, ep, h1, h2, h3, h4⟩ := R.mu e
  rw [es] at ep
  have := V.ref.inj (Option.some.inj (Option.some.inj ep))
  subst this
  refine ⟨h1, h2, h3, ?_⟩
  cases m with
  | lst d => obtain ⟨vs, q, _⟩ := h4; exact ⟨_, q, fun _ z => by cases z⟩
  | dK d => obtain ⟨vs, q, _⟩ := h4; exact ⟨_, q, fun _ z => by cases z⟩
  | dT d => obtain ⟨vs, q, _⟩ := h4; exact ⟨_, q, fun _ z => by cases z⟩
theorem RepD.inner {g : G} {F J H : Hp} {r : DEnv} {s : L2.St} {v : V} {d : DV} : RepD (g.inner J r s H) F v d ↔ RepD g F v d := by cases d <;> exact Iff.rfl
/-- what is anchored stands, and no slot owns it -/
theorem Rel.ancS (R : Rel g F r n s H) : ∀ a o, g.A a = some o → ((strip r s H a = some o ∨ ∃ od kvs, o = .dK kvs ∧ strip r s H a = some (.frz od o)) ∧ ¬ InS g.S a ∧ ∀ ps, o ≠ .tbl ps) ∧ ¬ owned r s a := fun a o e => by
  obtain ⟨h, hs, ht⟩ := R.bas.anc a o e
  have no : ¬ owned r s a := fun z => by
    have q := (R.own z).2.1
    rcases h with h | ⟨_, _, _, h⟩ <;> rw [q] at h <;> cases h
  refine ⟨⟨?_, hs, ht⟩, no⟩
  rw [strip_not no]
  rcases h with h | ⟨od, kvs, e1, h⟩
  · exact .inl (R.bas.fr a _ h ht hs)
  · exact .inr ⟨od, kvs, e1, R.bas.fr a _ h (fun _ z => by cases z) hs⟩
theorem Rel.into (R : Rel g F r n s H) : Rel (g.inner F r s H) F r n s H := by
  refine ⟨⟨R.bas.und, .refl F, fun a o h1 h2 _ => absurd (h2.symm.trans h1) (Option.some_ne_none _), fun a o e _ _ => (strip_some e).2, fun a ps e => ⟨ps, (strip_some e).2⟩, R.bas.ntb, R.bas.tab, R.bas.str, R.bas.strF, fun a o e => (R.ancS a o e).1⟩, R.len, fun i z e => ?_, R.dis⟩
  obtain ⟨v, e1, h⟩ := R.slot i z e
  refine ⟨v, e1, ?_⟩
  cases z with
  | dat d => exact RepD.inner.mpr h
  | mu m =>
    obtain ⟨p, ep, h1, h2, h3, h4⟩ := h
    exact ⟨p, ep, h1, strip_own ⟨i, m, e, by rw [e1, ep]⟩, h3, h4⟩
theorem Rel.stripFree (R : Rel g F r n s H) {a : Addr} (h : strip r s H a = none) : g.H0 a = none := by
  rcases strip_none h with q | q
  · exact (R.own q).2.1
  · exact R.bas.free0 q
theorem Rel.backB (R : Rel g F r n s H) (b' : Bas (g.inner F r s H) F' n' H') : Bas g F' n' H' := by
  refine ⟨b'.und, R.bas.gro.trans b'.gro, fun a u h1 h2 h3 => ?_, fun a o e h1 h2 => ?_, fun a ps e => ?_, b'.ntb, b'.tab, b'.str, b'.strF, R.bas.anc⟩
  · cases q : F a with
    | none => exact R.stripFree (b'.new a u q h2 h3)
    | some o => exact R.bas.new a o h1 q (by have := b'.gro a o q; rw [h2] at this; cases this; exact h3)
  · refine b'.fr a o ?_ h1 h2
    show strip r s H a = some o
    rw [strip_not fun z => by rw [(R.own z).2.1] at e; cases e]
    exact R.bas.fr a o e h1 h2
  · obtain ⟨ps', q⟩ := R.bas.frt a ps e
    refine b'.frt a ps' ?_
    show strip r s H a = some _
    rw [strip_not fun z => by rw [(R.own z).2.1] at e; cases e]
    exact q
theorem Rel.back (R : Rel g F r n s H) (R' : Rel (g.inner F r s H) F' r' n' s' H') : Rel g F' r' n' s' H' := by
  refine ⟨⟨R'.bas.und, R.bas.gro.trans R'.bas.gro, fun a u h1 h2 h3 => ?_, fun a o e h1 h2 => ?_, fun a ps e => ?_, R'.bas.ntb, R'.bas.tab, R'.bas.str, R'.bas.strF, R.bas.anc⟩, R'.len, fun i z e => ?_, R'.dis⟩
  · cases q : F a with
    | none => exact R.stripFree (R'.bas.new a u q h2 h3)
    | some o => exact R.bas.new a o h1 q (by have := R'.bas.gro a o q; rw [h2] at this; cases this; exact h3)
  · refine R'.bas.fr a o ?_ h1 h2
    show strip r s H a = some o
    rw [strip_not fun z => by rw [(R.own z).2.1] at e; cases e]
    exact R.bas.fr a o e h1 h2
  · obtain ⟨ps', q⟩ := R.bas.frt a ps e
    refine R'.bas.frt a ps' ?_
    show strip r s H a = some _
    rw [strip_not fun z => by rw [(R.own z).2.1] at e; cases e]
    exact q
  · obtain ⟨v, e1, h⟩ := R'.slot i z e
    refine ⟨v, e1, ?_⟩
    cases z with
    | dat d => exact RepD.inner.mp h
    | mu m =>
      obtain ⟨p, ep, h1, h2, h3, h4⟩ := h
      exact ⟨p, ep, h1, R.stripFree h2, h3, h4⟩
/-- an object that no slot owns is written -/
theorem Rel.other (R : Rel g F r n s H) {p : Addr} {o : HO} {xs : List V} (hp : H p = some (.lst xs)) (hf : F p = none) (h0 : g.H0 p = none) (hs : ¬ InS g.S p) (hn : ¬ owned r s p) : Rel g F r n s (upd H p o) := by
  refine ⟨R.bas.write hp (fun _ z => by cases z) (fun c q z => by unfold LamX.CodeO at z; cases z) hf h0 hs, R.len, fun i z e => ?_, R.dis⟩
  obtain ⟨v, e1, h⟩ := R.slot i z e
  refine ⟨v, e1, ?_⟩
  cases z with
  | dat d => exact h
  | mu m =>
    obtain ⟨q, rfl, h1, h2, h3, h4⟩ := h
    have ne : q ≠ p := fun z => hn ⟨i, m, e, by rw [e1, z]⟩
    exact ⟨q, rfl, h1, h2, h3, h4.at fun u hu _ => by rw [upd_ne ne]; exact hu⟩
/-- freezing a list that no slot owns -/
theorem Rel.freeze (R : Rel g F r n s H) {p : Addr} {xs : List V} (hp : H p = some (.lst xs)) (hf : F p = none) (h0 : g.H0 p = none) (hs : ¬ InS g.S p) (hn : ¬ owned r s p) : Rel g (upd F p (.lst xs)) r n s H := by
  have sb : SubH F (upd F p (.lst xs)) := .new hf
  refine ⟨⟨fun a u ea => ?_, R.bas.gro.trans sb, fun a u k1 k2 k3 => ?_, R.bas.fr, R.bas.frt, fun a ps ea => ?_, R.bas.tab, R.bas.str, fun a ha => ?_, R.bas.anc⟩, R.len, fun i z e => ?_, R.dis⟩
  · by_cases hz : a = p
    · subst hz; rw [upd_same] at ea; cases ea; exact .inl hp
    · rw [upd_ne hz] at ea; exact R.bas.und a u ea
  · by_cases hz : a = p
    · subst hz; exact h0
    · rw [upd_ne hz] at k2; exact R.bas.new a u k1 k2 k3
  · by_cases hz : a = p
    · subst hz; rw [upd_same] at ea; cases ea
    · rw [upd_ne hz] at ea; exact R.bas.ntb a ps ea
  · have hz : a ≠ p := fun z => hs (z ▸ ha)
    rw [upd_ne hz]; exact R.bas.strF a ha
  · obtain ⟨v, e1, h⟩ := R.slot i z e
    refine ⟨v, e1, ?_⟩
    cases z with
    | dat d => exact RepD.mono sb h
    | mu m =>
      obtain ⟨q, rfl, h1, h2, h3, h4⟩ := h
      have ne : q ≠ p := fun z => hn ⟨i, m, e, by rw [e1, z]⟩
      exact ⟨q, rfl, by rw [upd_ne ne]; exact h1, h2, h3, h4.mono sb⟩
/-- forgetting slots -/
theorem Rel.weak (R : Rel g F r n s H) (hl : r'.length = r.length) (hl2 : s'.length = s.length) (w : ∀ (i : Nat) z, r'[i]? = some (some z) → r[i]? = some (some z) ∧ s'[i]? = s[i]?) : Rel g F r' n s' H := by
  refine ⟨R.bas, by rw [hl, hl2]; exact R.len, fun i z e => ?_, fun i j m m' p hij e1 e2 e3 => ?_⟩
  · obtain ⟨h1, h2⟩ := w i z e
    obtain ⟨v, e1, h⟩ := R.slot i z h1
    exact ⟨v, by rw [h2]; exact e1, h⟩
  · obtain ⟨h1, q1⟩ := w i _ e1
    obtain ⟨h2, q2⟩ := w j _ e2
    rw [q1] at e3
    rw [q2]
    exact R.dis i j m m' p hij h1 h2 e3
end
def wipeD (r : DEnv) : List Nat → DEnv
  | [] => r
  | v :: vs => (wipeD r vs).set v none
theorem wipeD_length (r : DEnv) : ∀ vs : List Nat, (wipeD r vs).length = r.length
  | [] => rfl
  | v :: vs => by unfold wipeD; rw [List.length_set, wipeD_length r vs]
theorem wipeD_some {r : DEnv} {i : Nat} {x : Slot} : ∀ {vs : List Nat}, (wipeD r vs)[i]? = some (some x) → r[i]? = some (some x) ∧ i ∉ vs
  | [], h => ⟨h, by simp⟩
  | v :: vs, h => by
    unfold wipeD at h
    by_cases e : v = i
    · subst e
      have q := (List.getElem?_eq_some_iff.mp h).1
      rw [List.length_set] at q
      rw [List.getElem?_set_self q] at h
      cases h
    · rw [List.getElem?_set_ne e] at h
      obtain ⟨h1, h2⟩ := wipeD_some h
      exact ⟨h1, by simp [h2, Ne.symm e]⟩
theorem wipe_set {s : L2.St} {i : Nat} {x : Option V} : ∀ {vs : List Nat}, i ∈ vs → wipe (s.set i x) vs = wipe s vs
  | [], h => by cases h
  | v :: vs, h => by
    unfold wipe
    by_cases e : i ∈ vs
    · rw [wipe_set e]
    · have ev : i = v := by
        rcases List.mem_cons.mp h with z | z
        · exact z
        · exact absurd z e
      subst ev
      apply List.ext_getElem?
      intro j
      by_cases hj : i = j
      · subst hj
        by_cases hl : i < s.length
        · rw [List.getElem?_set_self (by rw [wipe_length, List.length_set]; exact hl), List.getElem?_set_self (by rw [wipe_length]; exact hl)]
        · rw [List.getElem?_eq_none (by rw [List.length_set, wipe_length, List.length_set]; omega), List.getElem?_eq_none (by rw [List.length_set, wipe_length]; omega)]
      · rw [List.getElem?_set_ne hj, List.getElem?_set_ne hj]
        have key : ∀ ws : List Nat, (wipe (s.set i x) ws)[j]? = (wipe s ws)[j]? := by
          intro ws
          induction ws with
          | nil => show (s.set i x)[j]? = s[j]?; rw [List.getElem?_set_ne hj]
          | cons w ws ih =>
            unfold wipe
            by_cases hw : w = j
            · subst hw
              by_cases hl : w < s.length
              · rw [List.getElem?_set_self (by rw [wipe_length, List.length_set]; exact hl), List.getElem?_set_self (by rw [wipe_length]; exact hl)]
              · rw [List.getElem?_eq_none (by rw [List.length_set, wipe_length, List.length_set]; omega), List.getElem?_eq_none (by rw [List.length_set, wipe_length]; omega)]
            · rw [List.getElem?_set_ne hw, List.getElem?_set_ne hw]; exact ih
        exact key vs
theorem wipe_idem (s : L2.St) (vs : List Nat) : wipe (wipe s vs) vs = wipe s vs := by
  have key : ∀ ws : List Nat, (∀ w ∈ ws, w ∈ vs) → wipe (wipe s ws) vs = wipe s vs := by
    intro ws
    induction ws with
    | nil => intro _; rfl
    | cons w ws ih =>
      intro h
      show wipe ((wipe s ws).set w none) vs = wipe s vs
      rw [wipe_set (h w (by simp)), ih fun w' hw => h w' (by simp [hw])]
  exact key vs fun _ h => h
section
variable {g : G} {F H : Hp} {r : DEnv} {n : Nat} {s : L2.St} {vs : List Nat}
theorem Rel.wipe (R : Rel g F r n s H) : Rel g F (wipeD r vs) n (L2.wipe s vs) H := R.weak (wipeD_length r vs) (L2.wipe_length s vs) fun i z e => by
  obtain ⟨h1, h2⟩ := wipeD_some e
  exact ⟨h1, wipe_out h2⟩
theorem Rel.unwipe (R : Rel g F r n (L2.wipe s vs) H) : Rel g F r n s H := R.weak rfl (L2.wipe_length s vs).symm fun i z e => by
  obtain ⟨v, e1, _⟩ := R.slot i z e
  exact ⟨e, by rw [e1, (wipe_some e1).1]⟩
end

/-! ### targets -/
inductive Bnd where
  | one (i : Nat) | two (i j : Nat)
def Bnd.tg (K : PySem.W.Frag) : Bnd → TG
  | .one i => gName i
  | .two i j => gTup K 2 (gCons (gName i) (gCons (gName j) gNil))
def Bnd.slots : Bnd → List Nat
  | .one i => [i]
  | .two i j => [i, j]
def Bnd.bind : Bnd → PD → DEnv → (DEnv → Prop) → Prop
  | .one i, d, r, k => k (r.set i (some (.dat (.py d))))
  | .two i j, d, r, k => ∃ x y, d = .tuple [x, y] ∧ k ((r.set i (some (.dat (.py x)))).set j (some (.dat (.py y))))
theorem Bnd.run {g : G} {F H : Hp} {r : DEnv} {n : Nat} {s : L2.St} {K : PySem.W.Frag} (R : Rel g F r n s H) : ∀ {b : Bnd} {v : V} {d : PD} {k : DEnv → Prop} {Q : L2.St → Hp → Prop}, Dz F v d → b.bind d r k →
    (∀ r' s', Rel g F r' n s' H → k r' → (∀ vs : List Nat, (∀ i ∈ b.slots, i ∈ vs) → L2.wipe s' vs = L2.wipe s vs) → Q s' H) → b.tg K v s H Q
  | .one i, v, d, k, Q, hz, hb, h => h _ _ (R.set (d := .py d) hz) hb fun vs hv => wipe_set (hv i (by simp [Bnd.slots]))
  | .two i j, v, d, k, Q, hz, hb, h => by
    obtain ⟨x, y, rfl, hb⟩ := hb
    cases hz with
    | @tup a xs _ e1 e2 =>
      cases e2 with
      | @cons v1 _ _ _ z1 t1 =>
        cases t1 with
        | @cons v2 _ _ _ z2 t2 =>
          cases t2
          refine ⟨a, _, rfl, .of (R.bas.und.tup e1), rfl, v1, _, rfl, v2, _, rfl, rfl, ?_⟩
          exact h _ _ ((R.set (d := .py x) z1).set (d := .py y) z2) hb fun vs hv => by
            rw [wipe_set (hv j (by simp [Bnd.slots])), wipe_set (hv i (by simp [Bnd.slots]))]

/-! ### what is walked -/
/-- at a heap where V holds, the iterator yields ds -/
def SrcV (V : Hp → Hp → Prop) (J : It) (ds : List PD) : Prop := ∀ F H, V F H → Under F H → (∀ i, i < ds.length → J.go i H) ∧ (∀ i, i = ds.length → J.stop i H) ∧
  ∀ i x H' d, ds[i]? = some d → J.yld i H x H' → (H' = H ∧ Dz F x d) ∨ ∃ p ws es, H' = upd H p (.tup ws) ∧ H p = none ∧ x = .ref p ∧ DzAll F ws es ∧ d = .tuple es
abbrev TSrc := DEnv → Nat → (List PD → DEnv → Nat → Prop) → Prop
def liftI (g : G) (t : TSrc) : TI := fun s H R => ∃ F r n P, Rel g F r n s H ∧ t r n P ∧ ∀ F' ds r' n' J H', SubH F F' → Rel g F' r' n' s H' → SrcV (fun F2 H2 => SubH F' F2 ∧ Under g.A H2) J ds → P ds r' n' → R J H'
theorem SrcV.wk {F : Hp} {A : Hp} {J : It} {ds : List PD} (h : SrcV (fun F2 _ => SubH F F2) J ds) : SrcV (fun F2 H2 => SubH F F2 ∧ Under A H2) J ds := fun F2 H2 v u => h F2 H2 v.1 u
theorem Rel.undA {g : G} {F H : Hp} {r : DEnv} {n : Nat} {s : L2.St} (R : Rel g F r n s H) : Under g.A H := fun a o e => by
  obtain ⟨⟨h, _⟩, _⟩ := R.ancS a o e
  rcases h with h | ⟨od, kvs, e1, h⟩
  · exact .inl (strip_some h).2
  · exact .inr ⟨od, kvs, e1, (strip_some h).2⟩
/-- what stands by while a part is run -/
theorem Rel.undA' {g : G} {F H H2 : Hp} {r : DEnv} {n : Nat} {s : L2.St} (R : Rel g F r n s H) (st : ∀ a o, H a = some o → (∀ ps, o ≠ .tbl ps) → ¬ InS g.S a → ¬ owned r s a → H2 a = some o) : Under g.A H2 := fun a o e => by
  obtain ⟨⟨h, h2, h3⟩, no⟩ := R.ancS a o e
  rcases h with h | ⟨od, kvs, e1, h⟩
  · exact .inl (st a _ (strip_some h).2 h3 h2 no)
  · exact .inr ⟨od, kvs, e1, st a _ (strip_some h).2 (fun _ z => by cases z) h2 no⟩
structure DI (c : Cst) (X : Cx) (tg e : Expr) (t : TSrc) : Prop where
  run : ∀ g : G, g.c = c → PI X tg e (liftI g t)
theorem PI.imp {X : Cx} {tg e : Expr} {t t' : TI} (h : PI X tg e t) (w : ∀ s H R, t' s H R → t s H R) : PI X tg e t' := ⟨fun pins s σ H R I q => h.run pins s σ H R I (w _ _ _ q)⟩
section
variable {X : Cx} {c : Cst} {e tg a : Expr} {es : List Expr} {te ta : TED} {pos p : Pos}
@[simp] def iLst (t : TED) : TSrc := fun r n P => t r n fun d r1 n1 => ∃ ds, d = .py (.list ds) ∧ P ds r1 n1
theorem srcV_list {K : PySem.W.Frag} {F0 : Hp} {a : Addr} {xs : List V} {ds : List PD} (e : F0 a = some (.lst xs)) (h : DzAll F0 xs ds) : SrcV (fun F2 _ => SubH F0 F2) (Itl K a) ds := fun F H sb u => by
  have hq : SqL K H a xs := .of (u.lst (sb _ _ e))
  have hl := h.length
  refine ⟨fun i hi => ⟨xs, xs[i]'(by omega), hq, List.getElem?_eq_getElem _⟩, fun i hi => ⟨xs, hq, by omega⟩, fun i x H' d hd y => .inl ?_⟩
  obtain ⟨rfl, y⟩ := y
  obtain ⟨v, h1, h2⟩ := h.get hd
  have := y xs hq
  rw [h1] at this
  cases this
  exact ⟨rfl, h2.mono sb⟩
theorem di_lst (h : DE c X e te) : DI c X tg e (iLst te) := ⟨fun g hg => PI.imp (pi_list (h.run g hg)) fun s H R ⟨F, r, n, P, Rl, p, k⟩ => ⟨F, r, n, _, Rl, p, fun F1 d r1 n1 v H1 s1 R1 rv p1 => by
  obtain ⟨ds, rfl, p1⟩ := p1
  cases rv with
  | @lst a xs _ e1 e2 => exact ⟨a, rfl, ⟨xs, .of (R1.bas.und.lst e1)⟩, k F1 ds r1 n1 _ H1 s1 R1 (srcV_list e1 e2).wk p1⟩⟩⟩
@[simp] def iTup (t : TED) : TSrc := fun r n P => t r n fun d r1 n1 => ∃ ds, d = .py (.tuple ds) ∧ P ds r1 n1
theorem srcV_tup {K : PySem.W.Frag} {F0 : Hp} {a : Addr} {xs : List V} {ds : List PD} (e : F0 a = some (.tup xs)) (h : DzAll F0 xs ds) : SrcV (fun F2 _ => SubH F0 F2) (Itt K a) ds := fun F H sb u => by
  have hq : SqT K H a xs := .of (u.tup (sb _ _ e))
  have hl := h.length
  refine ⟨fun i hi => ⟨xs, xs[i]'(by omega), hq, List.getElem?_eq_getElem _⟩, fun i hi => ⟨xs, hq, by omega⟩, fun i x H' d hd y => .inl ?_⟩
  obtain ⟨rfl, y⟩ := y
  obtain ⟨v, h1, h2⟩ := h.get hd
  have := y xs hq
  rw [h1] at this
  cases this
  exact ⟨rfl, h2.mono sb⟩
theorem di_tup (h : DE c X e te) : DI c X tg e (iTup te) := ⟨fun g hg => PI.imp (pi_tup (h.run g hg)) fun s H R ⟨F, r, n, P, Rl, p, k⟩ => ⟨F, r, n, _, Rl, p, fun F1 d r1 n1 v H1 s1 R1 rv p1 => by
  obtain ⟨ds, rfl, p1⟩ := p1
  cases rv with
  | @tup a xs _ e1 e2 => exact ⟨a, rfl, ⟨xs, .of (R1.bas.und.tup e1)⟩, k F1 ds r1 n1 _ H1 s1 R1 (srcV_tup e1 e2).wk p1⟩⟩⟩
/-- range(n) -/
def rngD (n : Nat) : List PD := (List.range n).map fun i => PyData.int (i : Nat)
@[simp] def iRng (t : TED) : TSrc := fun r n P => t r n fun d r1 n1 => ∃ j : Int, d = .py (.int j) ∧ -(2 ^ 62) ≤ j ∧ j < 2 ^ 62 ∧ P (rngD j.toNat) r1 n1
theorem di_rng (hg : Gl X "range") (hm : X.mg "range" = none) (h : DE c X a te) (hs : starEach [a] X.env = [(false, eval a X.env)] := by rfl) (hs2 : starEach (a :: []) X.env = (false, eval a X.env) :: starEach [] X.env := by rfl) : DI c X tg (.Call (.Name "range" p) [a] [] pos) (iRng te) :=
  ⟨fun g hgc => PI.imp (pi_range1 hg hm (pa_cons (h.run g hgc) pa_nil hs2) hs) fun s H R ⟨F, r, n, P, Rl, p, k⟩ => ⟨F, r, n, _, Rl, p, fun F1 d r1 n1 v H1 s1 R1 rv p1 => by
    obtain ⟨j, rfl, h1, h2, p1⟩ := p1
    cases rv
    refine ⟨j, rfl, h1, h2, k F1 _ r1 n1 _ H1 s1 R1 (SrcV.wk fun F2 H2 sb u => ⟨fun i hi => ?_, fun i hi => ?_, fun i x H' d hd y => .inl ?_⟩) p1⟩
    · have : i < j.toNat := by simpa [rngD] using hi
      exact this
    · have : j.toNat ≤ i := by simp [rngD] at hi; omega
      exact this
    · obtain ⟨rfl, rfl⟩ := y
      refine ⟨rfl, ?_⟩
      simp only [rngD, List.getElem?_map] at hd
      cases q : (List.range j.toNat)[i]? with
      | none => rw [q] at hd; cases hd
      | some m =>
        rw [q] at hd
        have hm := (List.getElem?_eq_some_iff.mp q).2
        rw [List.getElem_range] at hm
        subst hm
        cases hd
        have : (0 : Int) + (i : Nat) = (i : Nat) := by omega
        show Dz F2 (.int ((0 : Int) + (i : Nat))) _
        rw [this]
        exact .int _⟩⟩
end

/-! ### list comprehensions -/
def liftX (c : Cst) (t : TED) : TE := fun s H Q => ∃ g : G, g.c = c ∧ lift g t s H Q
def liftTX (c : Cst) (t : TTD) : TT := fun s H Q => ∃ g : G, g.c = c ∧ liftT g t s H Q
theorem DE.x {c : Cst} {X : Cx} {e : Expr} {t : TED} (h : DE c X e t) : PE X e (liftX c t) := ⟨fun pins s σ H Q I ⟨g, hg, q⟩ => (h.run g hg).run pins s σ H Q I q⟩
theorem DT.x {c : Cst} {X : Cx} {e : Expr} {t : TTD} (h : DT c X e t) : PT X e (liftTX c t) := ⟨fun pins s σ H Q I ⟨g, hg, q⟩ => (h.run g hg).run pins s σ H Q I q⟩
@[simp] def tYesD : TTD := fun r n P => P true r n
/-- the ifs of a comprehension: none or one -/
structure DTs (c : Cst) (X : Cx) (ifs : List Expr) (t : TTD) : Prop where
  run : PTs X ifs (liftTX c t)
theorem dts_nil {c : Cst} {X : Cx} : DTs c X [] tYesD := ⟨⟨fun pins s σ H Q I ⟨g, hg, F, r, n, P, R, p, k⟩ => pts_nil.run pins s σ H Q I (k F true r n H (.refl F) R p)⟩⟩
theorem dts_one {c : Cst} {X : Cx} {e : Expr} {t : TTD} (h : DT c X e t) : DTs c X [e] t := ⟨pts_one h.x⟩
def TurnD (b : Bnd) (tt : TTD) (te : TED) (vs : List Nat) (ds : List PD) (I : Nat → List PD → DEnv → Nat → Prop) : Prop :=
  ∀ k d acc r n, ds[k]? = some d → I k acc r n → b.bind d r fun r => tt r n fun q r n => if q = true then te r n fun y r n => ∃ p, y = .py p ∧ acc.length < sizeLine ∧ I (k + 1) (acc ++ [p]) (wipeD r vs) n else I (k + 1) acc (wipeD r vs) n
theorem lcD_core0 {g : G} {c : Cst} (hg : g.c = c) {b : Bnd} {K : PySem.W.Frag} {tt : TTD} {te : TED} {vs : List Nat} (hvs : ∀ i ∈ b.slots, i ∈ vs) {J : It} {V : Hp → Hp → Prop} {ds : List PD} (hV : SrcV V J ds)
    {F1 H1 : Hp} {r1 : DEnv} {n1 : Nat} {s : L2.St} (R1 : Rel g F1 r1 n1 s H1)
    (hk : ∀ F H, SubH F1 F → (∀ a o, H1 a = some o → (∀ ps, o ≠ .tbl ps) → ¬ InS g.S a → ¬ owned r1 s a → H a = some o) → V F H)
    (I : Nat → List PD → DEnv → Nat → Prop) (h0 : I 0 [] (wipeD r1 vs) n1) (hs : TurnD b tt te vs ds I) {Q : VK}
    (hd : ∀ F acc r n D H ws, SubH F1 F → Rel g F r n s H → H D = some (.lst ws) → F D = none → DzAll F ws acc → ¬ owned r s D → g.H0 D = none → ¬ InS g.S D → H1 D = none → I ds.length acc r n → (∀ a o, H1 a = some o → (∀ ps, o ≠ .tbl ps) → ¬ InS g.S a → ¬ owned r1 s a → H a = some o ∧ ¬ owned r s a ∧ ((∀ xs, o ≠ .tup xs) → F1 a = none → F a = none)) → Q (.ref D) H) :
    ∀ D, H1 D = none → ∃ W : Nat → Nat → Hp → Prop, (∃ m, W 0 m (upd H1 D (.lst []))) ∧ ∀ i m H, W i m H →
      (J.stop i H ∧ Q (.ref D) H) ∨ (J.go i H ∧ ∃ Nx : Hp → Prop, (∀ H', Nx H' → ∃ m', m' < m ∧ W (i + 1) m' H') ∧ ∀ x H', J.yld i H x H' → b.tg K x (L2.wipe s vs) H' fun s2 H2 => L2.wipe s2 vs = L2.wipe s vs ∧ liftTX c tt s2 H2 fun q H3 =>
        if q = true then liftX c te s2 H3 fun y H4 => ∃ acc, H4 D = some (.lst acc) ∧ acc.length < sizeLine ∧ Nx (upd H4 D (.lst (acc ++ [y]))) else Nx H3) := by
  intro D hD
  let Inv0 : Nat → Hp → Prop := fun i H => ∃ F acc r n ws, SubH F1 F ∧ Rel g F r n (L2.wipe s vs) H ∧ H D = some (.lst ws) ∧ F D = none ∧ DzAll F ws acc ∧ ¬ owned r (L2.wipe s vs) D ∧ I i acc r n ∧
    (∀ a o, H1 a = some o → (∀ ps, o ≠ .tbl ps) → ¬ InS g.S a → ¬ owned r1 s a → H a = some o) ∧ (∀ a o, H1 a = some o → (∀ ps, o ≠ .tbl ps) → ¬ InS g.S a → owned r (L2.wipe s vs) a → owned r1 s a) ∧ (∀ a o, H1 a = some o → (∀ ps, o ≠ .tbl ps) → ¬ InS g.S a → ¬ owned r1 s a → (∀ xs, o ≠ .tup xs) → F1 a = none → F a = none)
  have hDS : ¬ InS g.S D := R1.bas.notS hD
  have hD0 : g.H0 D = none := R1.bas.free0 hD
  have hDF : F1 D = none := R1.bas.und.some hD
  refine ⟨fun i m H => m = ds.length - i ∧ i ≤ ds.length ∧ Inv0 i H, ⟨ds.length, by simp, Nat.zero_le _, F1, [], wipeD r1 vs, n1, [], .refl F1, R1.wipe.laidM hD, upd_same, hDF, .nil, fun ⟨i, m, e1, e2⟩ => ?_, h0, fun a o e _ _ _ => by rw [upd_ne (ne_of_none e hD)]; exact e, fun a o _ _ _ ⟨i, m, e1, e2⟩ => ?_, fun _ _ _ _ _ _ _ z => z⟩, ?_⟩
  · obtain ⟨p, ep, _, _, _, h4⟩ := R1.mu (wipeD_some e1).1
    rw [(wipe_some e2).1] at ep
    obtain ⟨o, ho⟩ := h4.some
    have := L2.V.ref.inj (Option.some.inj (Option.some.inj ep))
    subst this
    rw [hD] at ho; cases ho
  · exact ⟨i, m, (wipeD_some e1).1, (wipe_some e2).1⟩
  rintro i m H ⟨rfl, hi, F, acc, r, n, ws, sb, R, eD, fD, hz, nD, hI, st, ow, nf⟩
  have sv := hV F H (hk F H sb st) R.bas.und
  by_cases hlt : i < ds.length
  · refine .inr ⟨sv.1 i hlt, fun H' => Inv0 (i + 1) H', fun H' h => ⟨ds.length - (i + 1), by omega, rfl, hlt, h⟩, fun x H' y => ?_⟩
    have hdi : ds[i]? = some ds[i] := List.getElem?_eq_getElem hlt
    -- the item
    obtain ⟨F2, sb2, R2, zx, eD2, fD2, st2, nf2⟩ : ∃ F2, SubH F F2 ∧ Rel g F2 r n (L2.wipe s vs) H' ∧ Dz F2 x ds[i] ∧ H' D = some (.lst ws) ∧ F2 D = none ∧ (∀ a o, H a = some o → H' a = some o) ∧ (∀ a o, H a = some o → F a = none → F2 a = none) := by
      rcases sv.2.2 i x H' _ hdi y with ⟨rfl, hx⟩ | ⟨p, us, es, rfl, hp, rfl, hu, ed⟩
      · exact ⟨F, .refl F, R, hx, eD, fD, fun _ _ e => e, fun _ _ _ e => e⟩
      · have fp := R.bas.und.some hp
        refine ⟨upd F p (.tup us), .new fp, R.laid hp (fun _ z => by cases z), by rw [ed]; exact .tup upd_same (hu.mono (.new fp)), by rw [upd_ne (ne_of_none eD hp)]; exact eD, by rw [upd_ne (ne_of_none eD hp)]; exact fD, fun a o e => by rw [upd_ne (ne_of_none e hp)]; exact e, fun a o e ef => by rw [upd_ne (ne_of_none e hp)]; exact ef⟩
    have RI := R2.into
    have kD : (g.inner F2 r (L2.wipe s vs) H').H0 D = some (.lst ws) := by
      show strip r (L2.wipe s vs) H' D = _
      rw [strip_not nD]; exact eD2
    refine Bnd.run RI zx (hs i _ acc r n hdi hI) fun r' s' R3 hb hw => ?_
    have hw' : L2.wipe s' vs = L2.wipe s vs := by rw [hw vs hvs, wipe_idem]
    -- the turn's end
    have fin : ∀ {F4 : Hp} {r4 : DEnv} {n4 : Nat} {H4 : Hp} {acc' : List PD} {ws' : List L2.V}, SubH F2 F4 → Rel (g.inner F2 r (L2.wipe s vs) H') F4 (wipeD r4 vs) n4 (L2.wipe s vs) H4 → H4 D = some (.lst ws) → DzAll F4 ws' acc' → I (i + 1) acc' (wipeD r4 vs) n4 →
        (∀ H5, (H5 = H4 ∧ ws' = ws) ∨ H5 = upd H4 D (.lst ws') → Inv0 (i + 1) H5) := by
      intro F4 r4 n4 H4 acc' ws' sb4 R4 eD4 hz4 hI4 H5 h5
      have nD4 : ¬ owned (wipeD r4 vs) (L2.wipe s vs) D := fun z => by
        have q := (R4.own z).2.1
        rw [kD] at q; cases q
      have fD4 : F4 D = none := by
        cases q : F4 D with
        | none => rfl
        | some o =>
          have z := R4.bas.new D o fD2 q (R4.bas.und.ntup q eD4 fun _ z => by cases z)
          rw [kD] at z; cases z
      have Rb := R2.back R4
      have stb : ∀ a o, H1 a = some o → (∀ ps, o ≠ .tbl ps) → ¬ InS g.S a → ¬ owned r1 s a → H4 a = some o := fun a o e1 e2 e3 e4 => by
        have e5 := st2 a o (st a o e1 e2 e3 e4)
        refine R4.bas.fr a o ?_ e2 e3
        show strip r (L2.wipe s vs) H' a = _
        rw [strip_not fun z => e4 (ow a o e1 e2 e3 z)]
        exact e5
      have owb : ∀ a o, H1 a = some o → (∀ ps, o ≠ .tbl ps) → ¬ InS g.S a → owned (wipeD r4 vs) (L2.wipe s vs) a → owned r1 s a := fun a o e1 e2 e3 z => by
        rcases strip_none (show strip r (L2.wipe s vs) H' a = none from (R4.own z).2.1) with q | q
        · exact ow a o e1 e2 e3 q
        · apply Classical.byContradiction
          intro e4
          have e5 := st2 a o (st a o e1 e2 e3 e4)
          rw [q] at e5; cases e5
      have ne : ∀ a o, H1 a = some o → a ≠ D := fun a o e => ne_of_none e hD
      have nfb : ∀ a o, H1 a = some o → (∀ ps, o ≠ .tbl ps) → ¬ InS g.S a → ¬ owned r1 s a → (∀ xs, o ≠ .tup xs) → F1 a = none → F4 a = none := fun a o e1 e2 e3 e4 en e5 => by
        have h6 := st a o e1 e2 e3 e4
        have f2 := nf2 a o h6 (nf a o e1 e2 e3 e4 en e5)
        cases q : F4 a with
        | none => rfl
        | some u =>
          have z := R4.bas.new a u f2 q (R4.bas.und.ntup q (stb a o e1 e2 e3 e4) en)
          have z' : strip r (L2.wipe s vs) H' a = none := z
          rw [strip_not fun z => e4 (ow a o e1 e2 e3 z), st2 a o h6] at z'
          cases z'
      rcases h5 with ⟨rfl, rfl⟩ | rfl
      · exact ⟨F4, acc', _, n4, ws', sb.trans (sb2.trans sb4), Rb, eD4, fD4, hz4, nD4, hI4, stb, owb, nfb⟩
      · exact ⟨F4, acc', _, n4, ws', sb.trans (sb2.trans sb4), Rb.other eD4 fD4 hD0 hDS nD4, upd_same, fD4, hz4, nD4, hI4, fun a o e1 e2 e3 e4 => by rw [upd_ne (ne a o e1)]; exact stb a o e1 e2 e3 e4, owb, nfb⟩
    have keepD : ∀ {F4 : Hp} {r4 : DEnv} {n4 : Nat} {s4 : L2.St} {H4 : Hp}, Rel (g.inner F2 r (L2.wipe s vs) H') F4 r4 n4 s4 H4 → H4 D = some (.lst ws) := fun R4 => R4.bas.fr D _ kD (fun _ z => by cases z) hDS
    refine ⟨hw', g.inner F2 r (L2.wipe s vs) H', hg, F2, r', n, _, R3, hb, fun F3 q r3 n3 H3 sb3 R4 p3 => ?_⟩
    cases q with
    | true =>
      refine ⟨g.inner F2 r (L2.wipe s vs) H', hg, F3, r3, n3, _, R4, p3, fun F4 d r4 n4 v H4 sb4 R5 rv p4 => ?_⟩
      obtain ⟨pd, rfl, hl, hI4⟩ := p4
      have R6 := R5.wipe (vs := vs)
      rw [hw'] at R6
      refine ⟨ws, keepD R5, by rw [hz.length]; exact hl, fin (sb3.trans sb4) R6 (keepD R5) ((hz.mono (sb2.trans (sb3.trans sb4))).snoc rv) hI4 _ (.inr rfl)⟩
    | false =>
      have R6 := R4.wipe (vs := vs)
      rw [hw'] at R6
      exact fin sb3 R6 (keepD R4) (hz.mono (sb2.trans sb3)) p3 _ (.inl ⟨rfl, rfl⟩)
  · have e : i = ds.length := by omega
    subst e
    refine .inl ⟨sv.2.1 _ rfl, ?_⟩
    have R' := R.unwipe
    have nD2 : ¬ owned r s D := fun ⟨j, mv, e1, e2⟩ => by
      obtain ⟨v, k1, k2⟩ := R.slot j _ e1
      have k3 := (wipe_some k1).1
      rw [e2] at k3
      cases k3
      exact nD ⟨j, mv, e1, k1⟩
    refine hd F acc r n D H ws sb R' eD fD hz nD2 hD0 hDS hD hI fun a o e1 e2 e3 e4 => ⟨st a o e1 e2 e3 e4, fun ⟨j, mv, k1, k2⟩ => ?_, fun en k => nf a o e1 e2 e3 e4 en k⟩
    obtain ⟨v, q1, q2⟩ := R.slot j _ k1
    have k3 := (wipe_some q1).1
    rw [k2] at k3
    cases k3
    exact e4 (ow a o e1 e2 e3 ⟨j, mv, k1, q1⟩)
/-- the new list is data at once -/
theorem lcD_core {g : G} {c : Cst} (hg : g.c = c) {b : Bnd} {K : PySem.W.Frag} {tt : TTD} {te : TED} {vs : List Nat} (hvs : ∀ i ∈ b.slots, i ∈ vs) {J : It} {V : Hp → Hp → Prop} {ds : List PD} (hV : SrcV V J ds)
    {F1 H1 : Hp} {r1 : DEnv} {n1 : Nat} {s : L2.St} (R1 : Rel g F1 r1 n1 s H1)
    (hk : ∀ F H, SubH F1 F → (∀ a o, H1 a = some o → (∀ ps, o ≠ .tbl ps) → ¬ InS g.S a → ¬ owned r1 s a → H a = some o) → V F H)
    (I : Nat → List PD → DEnv → Nat → Prop) (h0 : I 0 [] (wipeD r1 vs) n1) (hs : TurnD b tt te vs ds I) {Q : VK}
    (hd : ∀ F acc r n D H, SubH F1 F → Rel g F r n s H → Dz F (.ref D) (.list acc) → I ds.length acc r n → (∀ a o, H1 a = some o → (∀ ps, o ≠ .tbl ps) → ¬ InS g.S a → ¬ owned r1 s a → H a = some o ∧ ¬ owned r s a ∧ ((∀ xs, o ≠ .tup xs) → F1 a = none → F a = none)) → Q (.ref D) H) :
    ∀ D, H1 D = none → ∃ W : Nat → Nat → Hp → Prop, (∃ m, W 0 m (upd H1 D (.lst []))) ∧ ∀ i m H, W i m H →
      (J.stop i H ∧ Q (.ref D) H) ∨ (J.go i H ∧ ∃ Nx : Hp → Prop, (∀ H', Nx H' → ∃ m', m' < m ∧ W (i + 1) m' H') ∧ ∀ x H', J.yld i H x H' → b.tg K x (L2.wipe s vs) H' fun s2 H2 => L2.wipe s2 vs = L2.wipe s vs ∧ liftTX c tt s2 H2 fun q H3 =>
        if q = true then liftX c te s2 H3 fun y H4 => ∃ acc, H4 D = some (.lst acc) ∧ acc.length < sizeLine ∧ Nx (upd H4 D (.lst (acc ++ [y]))) else Nx H3) :=
  lcD_core0 hg hvs hV R1 hk I h0 hs fun F acc r n D H ws sb R eD fD hz nD h0D hS nH1 hI fr => hd _ acc r n D H (sb.trans (.new fD)) (R.freeze eD fD h0D hS nD) (.lst upd_same (hz.mono (.new fD))) hI fun a o e1 e2 e3 e4 => by
    obtain ⟨k1, k2, k3⟩ := fr a o e1 e2 e3 e4
    exact ⟨k1, k2, fun en k => by rw [upd_ne (ne_of_none e1 nH1)]; exact k3 en k⟩

def tLcD (b : Bnd) (src : TSrc) (tt : TTD) (te : TED) (vs : List Nat) : TED := fun r n P => src r n fun ds r1 n1 => ∃ I : Nat → List PD → DEnv → Nat → Prop, I 0 [] (wipeD r1 vs) n1 ∧ TurnD b tt te vs ds I ∧ ∀ acc r n, I ds.length acc r n → P (.py (.list acc)) r n
/-- over a local list that its own slot holds (within, the slot is not there) -/
def tLcM (i : Nat) (b : Bnd) (tt : TTD) (te : TED) (vs : List Nat) : TED := fun r n P => ∃ ds, r[i]? = some (some (.mu (.lst ds))) ∧ ∃ I : Nat → List PD → DEnv → Nat → Prop, I 0 [] (wipeD (r.set i none) vs) n ∧ TurnD b tt te vs ds I ∧ ∀ acc r n, I ds.length acc r n → P (.py (.list acc)) (r.set i (some (.mu (.lst ds)))) n
section
variable {X : Cx} {c : Cst} {elt tg iter : Expr} {ifs : List Expr} {scope : Scope} {own : List (Str × Nat)} {pos : Pos} {src : TSrc} {tt : TTD} {te : TED}
theorem de_lc (b : Bnd) (hc : X.calm = true) (hN : X.N.Nodup) (hi : DI c X tg iter src) (ok : BlkOk X.N X.env.scope scope own)
    (hb : ∀ (s : Shared) (H : Hp) (C : Addr) (cl : List (Str × Addr)) (fp : List Addr), PG (X.blk s H scope (compEnvC scope cl C X.env) fp) tg (b.tg X.K)) (ht : ∀ (s : Shared) (H : Hp) (C : Addr) (cl : List (Str × Addr)) (fp : List Addr), DTs c (X.blk s H scope (compEnvC scope cl C X.env) fp) ifs tt)
    (he : ∀ (s : Shared) (H : Hp) (C : Addr) (cl : List (Str × Addr)) (fp : List Addr), DE c (X.blk s H scope (compEnvC scope cl C X.env) fp) elt te) (hbs : ∀ i ∈ b.slots, i ∈ own.map (·.2) := by decide) (hs : ∀ x, foldedSetIterable iter X.env x = pure x := by intro _; rfl) :
    DE c X (.ListComp elt [⟨tg, iter, ifs, 0⟩] scope pos) (tLcD b src tt te (own.map (·.2))) := ⟨fun g hg =>
  PE.imp (pe_lc hc hN (hi.run g hg) ok hb (fun s H C cl fp => (ht s H C cl fp).run) (fun s H C cl fp => (he s H C cl fp).x) hs) fun s H Q ⟨F, r, n, P, R, p, k⟩ =>
    ⟨F, r, n, _, R, p, fun F1 ds r1 n1 J H1 sb R1 sv ⟨I, h0, hs, hP⟩ => lcD_core hg hbs sv R1 (fun F2 H2 s2 st => ⟨s2, R1.undA' st⟩) I h0 hs fun F2 acc r2 n2 D H2 s2 R2 hz hI _ => CoE.py k (sb.trans s2) R2 hz (hP acc r2 n2 hI)⟩⟩
theorem de_lcM (i : Nat) (b : Bnd) (hc : X.calm = true) (hN : X.N.Nodup) {x : Str} {px : Pos} (hx : PE X (.Name x px) (tVar i)) (ok : BlkOk X.N X.env.scope scope own)
    (hb : ∀ (s : Shared) (H : Hp) (C : Addr) (cl : List (Str × Addr)) (fp : List Addr), PG (X.blk s H scope (compEnvC scope cl C X.env) fp) tg (b.tg X.K)) (ht : ∀ (s : Shared) (H : Hp) (C : Addr) (cl : List (Str × Addr)) (fp : List Addr), DTs c (X.blk s H scope (compEnvC scope cl C X.env) fp) ifs tt)
    (he : ∀ (s : Shared) (H : Hp) (C : Addr) (cl : List (Str × Addr)) (fp : List Addr), DE c (X.blk s H scope (compEnvC scope cl C X.env) fp) elt te) (hbs : ∀ i ∈ b.slots, i ∈ own.map (·.2) := by decide) (hs : ∀ y, foldedSetIterable (.Name x px) X.env y = pure y := by intro _; rfl) :
    DE c X (.ListComp elt [⟨tg, .Name x px, ifs, 0⟩] scope pos) (tLcM i b tt te (own.map (·.2))) := ⟨fun g hg =>
  PE.imp (pe_lc hc hN (pi_list hx) ok hb (fun s H C cl fp => (ht s H C cl fp).run) (fun s H C cl fp => (he s H C cl fp).x) hs) fun s H Q ⟨F, r, n, P, R, ⟨ds, e, I, h0, hs, hP⟩, k⟩ => by
    obtain ⟨p, es, h1, h2, h3, ws, h4, h5⟩ := R.mu e
    have lt : i < r.length := (List.getElem?_eq_some_iff.mp e).1
    have gone : ∀ {l : Nat} {z : Slot}, (r.set i none)[l]? = some (some z) → l ≠ i ∧ r[l]? = some (some z) := fun {l z} ez => by
      have hl : l ≠ i := fun hz => by
        subst hz
        rw [List.getElem?_set_self lt] at ez; cases ez
      rw [List.getElem?_set_ne (Ne.symm hl)] at ez
      exact ⟨hl, ez⟩
    have R1 : Rel g F (r.set i none) n s H := R.weak (by simp) rfl fun l z ez => ⟨(gone ez).2, rfl⟩
    have np : ¬ owned (r.set i none) s p := fun ⟨j, m, e1, e2⟩ => R.dis i j _ m p (Ne.symm (gone e1).1) e (gone e1).2 es e2
    refine ⟨.ref p, es, p, rfl, ⟨ws, .of h4⟩, ?_⟩
    refine lcD_core (V := fun F2 H2 => SubH F F2 ∧ H2 p = some (.lst ws)) hg hbs (ds := ds) (fun F2 H2 hV u => ?_) R1 (fun F2 H2 s2 st => ⟨s2, st p _ h4 (fun _ z => by cases z) h3 np⟩) I h0 hs fun F2 acc r2 n2 D H2 s2 R2 hz hI st => ?_
    · obtain ⟨sb, ep⟩ := hV
      have hq : SqL X.K H2 p ws := .of ep
      have hl := h5.length
      refine ⟨fun j hj => ⟨ws, ws[j]'(by omega), hq, List.getElem?_eq_getElem _⟩, fun j hj => ⟨ws, hq, by omega⟩, fun j x H' d hd y => .inl ?_⟩
      obtain ⟨rfl, y⟩ := y
      obtain ⟨v, q1, q2⟩ := h5.get hd
      have := y ws hq
      rw [q1] at this
      cases this
      exact ⟨rfl, q2.mono sb⟩
    · obtain ⟨q1, q2, q3⟩ := st p _ h4 (fun _ z => by cases z) h3 np
      have R3 := R2.setM (i := i) (p := p) (m := .lst ds) (q3 (fun _ z => by cases z) h1) h2 h3 ⟨ws, q1, h5.mono s2⟩ fun j m e1 e2 => q2 ⟨j, m, e1, e2⟩
      have es2 : s.set i (some (.ref p)) = s := by
        apply List.ext_getElem?
        intro j
        by_cases hj : i = j
        · subst hj
          rw [List.getElem?_set_self (List.getElem?_eq_some_iff.mp es).1, es]
        · rw [List.getElem?_set_ne hj]
      rw [es2] at R3
      exact CoE.py k s2 R3 hz (hP acc r2 n2 hI)⟩
end

/-! ### statements -/
section
variable {X : Cx} {c : Cst} {e tg iter cc : Expr} {st : Stmt} {rest body : List Stmt} {te : TED} {tt : TTD} {t u : TSD} {src : TSrc} {pos : Pos}
@[simp] def sNext : TSD := fun E r n => E.nx r n
@[simp] def sSeq (t u : TSD) : TSD := fun E r n => t { E with nx := u E } r n
theorem dss_nil : DSs c X [] sNext := ⟨fun g _ => PSs.imp pss_nil fun D s H ⟨F, r, n, E, R, p, k⟩ => k.nx F r n s H (.refl F) R p⟩
theorem dss_cons (h1 : DS c X st t) (h2 : DSs c X rest u) : DSs c X (st :: rest) (sSeq t u) := ⟨fun g hg => PSs.imp (pss_cons (h1.run g hg) (h2.run g hg)) fun D s H ⟨F, r, n, E, R, p, k⟩ =>
  ⟨F, r, n, _, R, p, ⟨fun F1 r1 n1 s1 H1 R1 p1 => ⟨F1, r1, n1, E, R1, p1, k.to⟩, k.rt0, k.bk0, k.ct0⟩⟩⟩
theorem DSs.x {bd : List Stmt} (h : DSs c X bd t) : PSs X bd (liftSX c t) := ⟨fun pins s σ H D I ⟨g, hg, q⟩ => (h.run g hg).run pins s σ H D I q⟩
theorem dss_one (h1 : DS c X st t) : DSs c X [st] t := ⟨fun g hg => pss_one (h1.run g hg)⟩
@[simp] def sRet (te : TED) : TSD := fun E r n => te r n fun d _ n1 => plainD d = true ∧ E.rt d n1
theorem ds_ret (h : DE c X e te) : DS c X (.Return (some e) pos) (sRet te) := ⟨fun g hg => PS.imp (ps_ret (h.run g hg)) fun D s H ⟨F, r, n, E, R, p, k⟩ =>
  ⟨F, r, n, _, R, p, fun F1 d r1 n1 v H1 sb R1 rv p1 => k.rt F1 d n1 v H1 sb R1.bas rv p1.1 p1.2⟩⟩
@[simp] def sSet (i : Nat) (te : TED) : TSD := fun E r n => te r n fun d r1 n1 => E.nx (r1.set i (some (.dat d))) n1
theorem ds_set {i : Nat} {x : Str} {pos' : Pos} (hN : X.N.Nodup) (hi : X.N[i]? = some x) (hx : Loc X.env.scope x) (h : DE c X e te) (hs : swapsWith e (some (.Name x pos')) pos.line X.env = pure false := by rfl) (hf : X.fn x = true ∨ X.env.scope.names.lookup x = some .local := by first | exact .inl rfl | exact .inr rfl | assumption) :
    DS c X (.Assign [.Name x pos'] e pos) (sSet i te) := ⟨fun g hg => PS.imp (ps_set hN hi hx (h.run g hg) hs hf) fun D s H ⟨F, r, n, E, R, p, k⟩ =>
  ⟨F, r, n, _, R, p, fun F1 d r1 n1 v H1 sb R1 rv p1 => k.nx F1 _ n1 _ H1 sb (R1.set rv) p1⟩⟩
@[simp] def sExpr (te : TED) : TSD := fun E r n => te r n fun _ r1 n1 => E.nx r1 n1
theorem ds_expr (h : DE c X e te) (hs : swapsWith e none pos.line X.env = pure false := by rfl) : DS c X (.Expr e pos) (sExpr te) := ⟨fun g hg => PS.imp (ps_expr (h.run g hg) hs) fun D s H ⟨F, r, n, E, R, p, k⟩ =>
  ⟨F, r, n, _, R, p, fun F1 d r1 n1 v H1 sb R1 rv p1 => k.nx F1 _ n1 s H1 sb R1 p1⟩⟩
@[simp] def sIf (tt : TTD) (t u : TSD) : TSD := fun E r n => tt r n fun b r1 n1 => if b = true then t E r1 n1 else u E r1 n1
theorem ds_if {a b : List Stmt} (hc : DT c X cc tt) (ha : DSs c X a t) (hb : DSs c X b u) : DS c X (.If cc a b pos) (sIf tt t u) := ⟨fun g hg => PS.imp (ps_if (hc.run g hg) (ha.run g hg) (hb.run g hg)) fun D s H ⟨F, r, n, E, R, p, k⟩ =>
  ⟨F, r, n, _, R, p, fun F1 b r1 n1 H1 sb R1 p1 => by
    cases b with
    | true => exact ⟨F1, r1, n1, E, R1, p1, k.mono sb⟩
    | false => exact ⟨F1, r1, n1, E, R1, p1, k.mono sb⟩⟩⟩
@[simp] def sNever : TSD := fun _ _ _ => False
theorem ds_never : DS c X st sNever := ⟨fun g _ => PS.imp ps_never fun D s H ⟨F, r, n, E, R, p, k⟩ => p⟩
theorem dss_never {sts : List Stmt} : DSs c X sts sNever := ⟨fun g _ => PSs.imp pss_never fun D s H ⟨F, r, n, E, R, p, k⟩ => p⟩
/-- for -/
def sFor (b : Bnd) (src : TSrc) (t : TSD) : TSD := fun E r n => src r n fun ds r1 n1 => ∃ I : Nat → DEnv → Nat → Prop, I 0 r1 n1 ∧
  (∀ k d r n, ds[k]? = some d → I k r n → b.bind d r fun r => t { E with nx := I (k + 1), ct := I (k + 1), bk := E.nx } r n) ∧ ∀ r n, I ds.length r n → E.nx r n
theorem ds_for (b : Bnd) (hp : PassesOwn (model X.prog X.w) X.A X.env X.xe) (hc : X.calm = true) (hi : DI c X tg iter src) (hb : PG X tg (b.tg X.K)) (ht : DSs c X body t) (hs : ∀ x, foldedSetIterable iter X.env x = pure x := by intro _; rfl) : DS c X (.For tg iter body [] pos) (sFor b src t) := ⟨fun g hg =>
  PS.imp (ps_for hp hc (hi.run g hg) hb ht.x hs) fun D s H ⟨F, r, n, E, R, p, k⟩ => ⟨F, r, n, _, R, p, fun F1 ds r1 n1 J H1 sb R1 sv ⟨I, h0, hs, hd⟩ => by
    have J0 := R1.into
    refine ⟨fun i m s' H' => m = ds.length - i ∧ i ≤ ds.length ∧ ∃ F r' n, Rel (g.inner F1 r1 s H1) F r' n s' H' ∧ I i r' n, ⟨ds.length, by simp, Nat.zero_le _, F1, r1, n1, J0, h0⟩, ?_⟩
    rintro i m s' H ⟨rfl, hi, F2, r2, n2, R2, hI⟩
    have svi := sv F2 H ⟨R2.bas.gro, R2.undA⟩ R2.bas.und
    by_cases hlt : i < ds.length
    · refine .inr ⟨svi.1 i hlt, fun s'' H' => ∃ F r n, Rel (g.inner F1 r1 s H1) F r n s'' H' ∧ I (i + 1) r n, fun s'' H' h => ⟨ds.length - (i + 1), by omega, rfl, hlt, h⟩, fun x H' y => ?_⟩
      have hdi : ds[i]? = some ds[i] := List.getElem?_eq_getElem hlt
      obtain ⟨F3, sb3, R3, zx⟩ : ∃ F3, SubH F2 F3 ∧ Rel (g.inner F1 r1 s H1) F3 r2 n2 s' H' ∧ Dz F3 x ds[i] := by
        rcases svi.2.2 i x H' _ hdi y with ⟨rfl, hx⟩ | ⟨p, us, es, rfl, hp, rfl, hu, ed⟩
        · exact ⟨F2, .refl F2, R2, hx⟩
        · have fp := R2.bas.und.some hp
          exact ⟨upd F2 p (.tup us), .new fp, R2.laid hp (fun _ z => by cases z), by rw [ed]; exact .tup upd_same (hu.mono (.new fp))⟩
      refine Bnd.run R3 zx (hs i _ r2 n2 hdi hI) fun r' s'' R4 hb _ => ?_
      exact ⟨g.inner F1 r1 s H1, hg, F3, r', n2, _, R4, hb, ⟨fun F4 r4 n4 s4 H4 R5 q => ⟨F4, r4, n4, R5, q⟩, fun F4 d n4 v H4 b4 rv pl q => k.rt0 F4 d n4 v H4 (R1.backB b4) (RepD.inner.mp rv) pl q, fun F4 r4 n4 s4 H4 R5 q => k.nx0 F4 r4 n4 s4 H4 (R1.back R5) q, fun F4 r4 n4 s4 H4 R5 q => ⟨F4, r4, n4, R5, q⟩⟩⟩
    · have e : i = ds.length := by omega
      subst e
      exact .inl ⟨svi.2.1 _ rfl, k.nx0 F2 r2 n2 s' H (R1.back R2) (hd r2 n2 hI)⟩⟩⟩
/-- while -/
def sWhile (tt : TTD) (t : TSD) : TSD := fun E r n => ∃ I : Nat → DEnv → Nat → Prop, (∃ m, I m r n) ∧ ∀ m r n, I m r n →
  tt r n fun b r1 n1 => if b = true then t { E with nx := fun r n => ∃ m', m' < m ∧ I m' r n, ct := fun r n => ∃ m', m' < m ∧ I m' r n, bk := E.nx } r1 n1 else E.nx r1 n1
theorem ds_while (hp : PassesOwn (model X.prog X.w) X.A X.env X.xe) (hc : DT c X cc tt) (ht : DSs c X body t) : DS c X (.While cc body [] pos) (sWhile tt t) := ⟨fun g hg =>
  PS.imp (ps_while hp (hc.run g hg) (ht.run g hg)) fun D s H ⟨F, r, n, E, R, ⟨I, ⟨m, h0⟩, hs⟩, k⟩ => by
    refine ⟨fun m s H => ∃ F1 r n, Rel g F1 r n s H ∧ I m r n, ⟨m, F, r, n, R, h0⟩, ?_⟩
    rintro m s H ⟨F1, r1, n1, R1, hI⟩
    refine ⟨F1, r1, n1, _, R1, hs m r1 n1 hI, fun F2 b r2 n2 H2 s2 R2 p2 => ?_⟩
    cases b with
    | true =>
      refine ⟨fun s' H' => ∃ m', m' < m ∧ ∃ F1 r n, Rel g F1 r n s' H' ∧ I m' r n, fun s' H' h => h, F2, r2, n2, _, R2, p2, ⟨fun F3 r3 n3 s3 H3 R3 q => ?_, k.rt0, fun F3 r3 n3 s3 H3 R3 q => k.nx0 F3 r3 n3 s3 H3 R3 q, fun F3 r3 n3 s3 H3 R3 q => ?_⟩⟩
      · obtain ⟨m', hm, q⟩ := q
        exact ⟨m', hm, F3, r3, n3, R3, q⟩
      · obtain ⟨m', hm, q⟩ := q
        exact ⟨m', hm, F3, r3, n3, R3, q⟩
    | false => exact k.nx0 F2 r2 n2 s H2 R2 p2⟩
end
end K21

set_option Elab.async false
set_option linter.all false
set_option maxRecDepth 100000
set_option maxHeartbeats 4000000
/-! K21D: calls, subscripts, slices, attributes over data. -/
namespace K21
open PySem PySem.Spec PyProof.Rows L2

/-! ### built-ins called by name -/
abbrev KC := List DV → DEnv → Nat → (DV → DEnv → Nat → Prop) → Prop
def CallD (c : Cst) (rr : List V → Hp → VK → Prop) (k : KC) : Prop := ∀ (g : G) F r n s H vs ds P Q, g.c = c → Rel g F r n s H → RepAll g F vs ds → k ds r n P → CoE g F s P Q → rr vs H Q
@[simp] def dCB (k : KC) (ts : TAD) : TED := fun r n P => ts r n fun ds r1 n1 => k ds r1 n1 P
section
variable {X : Cx} {c : Cst} {x : Str} {bid T : String} {rr : List V → Hp → VK → Prop} {k : KC} {e a b : Expr} {es : List Expr} {tas : TAD} {te ta tb : TED} {p pos p2 : Pos}
theorem lift_cb (h : CallD c rr k) (g : G) (hg : g.c = c) {s : L2.St} {H : Hp} {Q : VK} : lift g (dCB k tas) s H Q → tCB rr (liftA g tas) s H Q := fun ⟨F, r, n, P, R, p, kk⟩ =>
  ⟨F, r, n, _, R, p, fun F1 ds r1 n1 vs H1 s1 R1 rs p1 => h g F1 r1 n1 s H1 vs ds P Q hg R1 rs p1 (kk.mono s1)⟩
theorem de_callB (hc : CallR X (.builtin bid) rr) (hk : CallD c rr k) (hg : Gl X x) (hm : X.mg x = none) (hv : bootBuiltins x = some (.builtin bid)) (ha : DA c X (e :: es) tas) (hn : x ≠ "__name__" := by decide) (hdb : (x == ("__debug__" : Str)) = false := by decide)
    (he : starEach (e :: es) X.env = (false, eval e X.env) :: starEach es X.env := by rfl) (hpl : (backTo pos (starEach es X.env)).any (·.1) = false := by rfl) : DE c X (.Call (.Name x p) (e :: es) [] pos) (dCB k tas) :=
  ⟨fun g hgc => PE.imp (pe_callB hc hg hm hv (ha.run g hgc) hn hdb he hpl) fun _ _ _ => lift_cb hk g hgc⟩
theorem de_callTy (hc : CallR X (.type T) rr) (hk : CallD c rr k) (hg : Gl X x) (hm : X.mg x = none) (hv : bootBuiltins x = some (.type T)) (ha : DA c X (e :: es) tas) (hn : x ≠ "__name__" := by decide) (hdb : (x == ("__debug__" : Str)) = false := by decide)
    (he : starEach (e :: es) X.env = (false, eval e X.env) :: starEach es X.env := by rfl) (hpl : (backTo pos (starEach es X.env)).any (·.1) = false := by rfl) : DE c X (.Call (.Name x p) (e :: es) [] pos) (dCB k tas) :=
  ⟨fun g hgc => PE.imp (pe_callTy hc hg hm hv (ha.run g hgc) hn hdb he hpl) fun _ _ _ => lift_cb hk g hgc⟩
/-- len -/
@[simp] def lenD : DV → Option Nat
  | .py (.list ds) => some ds.length
  | .py (.tuple ds) => some ds.length
  | _ => none
@[simp] def kLen : KC := fun ds r n P => ∃ d m, ds = [d] ∧ lenD d = some m ∧ P (.py (.int m)) r n
theorem cd_len : CallD c (fun xs H Q => ∃ p ys, xs = [.ref p] ∧ (SqL X.K H p ys ∨ SqT X.K H p ys) ∧ Q (.int ys.length) H) kLen := fun g F r n s H vs ds P Q _ R rs h k => by
  obtain ⟨d, m, rfl, hm, p⟩ := h
  cases rs with
  | cons a t =>
    cases t
    cases d with
    | py d =>
      cases a <;> simp [lenD] at hm
      case lst e1 e2 =>
        subst hm
        refine ⟨_, _, rfl, .inl (.of (R.bas.und.lst e1)), k.py (.refl F) R ?_ p⟩
        rw [e2.length]; exact .int _
      case tup e1 e2 =>
        subst hm
        refine ⟨_, _, rfl, .inr (.of (R.bas.und.tup e1)), k.py (.refl F) R ?_ p⟩
        rw [e2.length]; exact .int _
    | _ => simp [lenD] at hm
theorem de_len (hg : Gl X "len") (hm : X.mg "len" = none) (ha : DE c X a te) (hs : starEach [a] X.env = (false, eval a X.env) :: starEach [] X.env := by rfl) (hpl : (backTo pos (starEach [] X.env)).any (·.1) = false := by rfl) :
    DE c X (.Call (.Name "len" p) [a] [] pos) (dCB kLen (dCons te dNil)) := de_callB call_len_seq cd_len hg hm PySem.boot_len (da_cons ha da_nil hs) (he := hs) (hpl := hpl)
@[simp] def kLenS : KC := fun ds r n P => ∃ z, ds = [.py (.str z)] ∧ z.length ≤ sizeLine ∧ P (.py (.int z.length)) r n
theorem cd_lenS : CallD c (fun xs H Q => ∃ z, xs = [.str z] ∧ z.length ≤ sizeLine ∧ Q (.int z.length) H) kLenS := fun g F r n s H vs ds P Q _ R rs h k => by
  obtain ⟨z, rfl, hz, p⟩ := h
  cases rs with
  | cons a t =>
    cases t
    cases a
    exact ⟨z, rfl, hz, k.py (.refl F) R (.int _) p⟩
theorem de_lenS (hg : Gl X "len") (hm : X.mg "len" = none) (ha : DE c X a te) (hs : starEach [a] X.env = (false, eval a X.env) :: starEach [] X.env := by rfl) (hpl : (backTo pos (starEach [] X.env)).any (·.1) = false := by rfl) :
    DE c X (.Call (.Name "len" p) [a] [] pos) (dCB kLenS (dCons te dNil)) := de_callB call_len_str cd_lenS hg hm PySem.boot_len (da_cons ha da_nil hs) (he := hs) (hpl := hpl)
/-- all, any of a list of truth values -/
@[simp] def kAll (f : List Bool → Bool) : KC := fun ds r n P => ∃ bs : List Bool, ds = [.py (.list (bs.map PyData.bool))] ∧ P (.py (.bool (f bs))) r n
theorem cd_all {f : List Bool → Bool} : CallD c (fun vs H Q => ∃ (a : Addr) (bs : List Bool), vs = [V.ref a] ∧ SqL X.K H a (bs.map V.bl) ∧ Q (.bl (f bs)) H) (kAll f) := fun g F r n s H vs ds P Q _ R rs h k => by
  obtain ⟨bs, rfl, p⟩ := h
  cases rs with
  | cons a t =>
    cases t
    cases a with
    | @lst a xs _ e1 e2 =>
      have := e2.of_bools
      subst this
      exact ⟨a, bs, rfl, .of (R.bas.und.lst e1), k.py (.refl F) R (.bl _) p⟩
theorem de_all (hc : X.calm = true) (hg : Gl X "all") (hm : X.mg "all" = none) (ha : DE c X a te) (hs : starEach [a] X.env = (false, eval a X.env) :: starEach [] X.env := by rfl) (hpl : (backTo pos (starEach [] X.env)).any (·.1) = false := by rfl) :
    DE c X (.Call (.Name "all" p) [a] [] pos) (dCB (kAll fun bs => bs.all (fun b => b)) (dCons te dNil)) := de_callB (cr_all hc) cd_all hg hm (by decide +kernel) (da_cons ha da_nil hs) (he := hs) (hpl := hpl)
theorem de_any (hc : X.calm = true) (hg : Gl X "any") (hm : X.mg "any" = none) (ha : DE c X a te) (hs : starEach [a] X.env = (false, eval a X.env) :: starEach [] X.env := by rfl) (hpl : (backTo pos (starEach [] X.env)).any (·.1) = false := by rfl) :
    DE c X (.Call (.Name "any" p) [a] [] pos) (dCB (kAll fun bs => bs.any (fun b => b)) (dCons te dNil)) := de_callB (cr_any hc) cd_all hg hm (by decide +kernel) (da_cons ha da_nil hs) (he := hs) (hpl := hpl)
/-- list(x), tuple(x) -/
@[simp] def seqOf : DV → Option (List PD)
  | .py (.list ds) => some ds
  | .py (.tuple ds) => some ds
  | _ => none
@[simp] def kList : KC := fun ds r n P => ∃ d es, ds = [d] ∧ seqOf d = some es ∧ P (.py (.list es)) r n
@[simp] def kTuple : KC := fun ds r n P => ∃ d es, ds = [d] ∧ seqOf d = some es ∧ P (.py (.tuple es)) r n
theorem cd_list : CallD c (fun xs H Q => ∃ p ys, xs = [.ref p] ∧ (SqL X.K H p ys ∨ SqT X.K H p ys) ∧ ∀ l, H l = none → Q (.ref l) (upd H l (.lst ys))) kList := fun g F r n s H vs ds P Q _ R rs h k => by
  obtain ⟨d, m, rfl, hm, p⟩ := h
  cases rs with
  | cons a t =>
    cases t
    cases d with
    | py d =>
      cases a <;> simp [seqOf] at hm
      case lst e1 e2 =>
        subst hm
        refine ⟨_, _, rfl, .inl (.of (R.bas.und.lst e1)), fun l hl => k.py (.new (R.bas.und.some hl)) (R.laid hl fun _ z => by cases z) (.lst upd_same (e2.mono (.new (R.bas.und.some hl)))) p⟩
      case tup e1 e2 =>
        subst hm
        refine ⟨_, _, rfl, .inr (.of (R.bas.und.tup e1)), fun l hl => k.py (.new (R.bas.und.some hl)) (R.laid hl fun _ z => by cases z) (.lst upd_same (e2.mono (.new (R.bas.und.some hl)))) p⟩
    | _ => simp [seqOf] at hm
theorem cd_tuple : CallD c (fun xs H Q => ∃ p ys, xs = [.ref p] ∧ ((SqL X.K H p ys ∧ ∀ l, H l = none → Q (.ref l) (upd H l (.tup ys))) ∨ (SqT X.K H p ys ∧ Q (.ref p) H))) kTuple := fun g F r n s H vs ds P Q _ R rs h k => by
  obtain ⟨d, m, rfl, hm, p⟩ := h
  cases rs with
  | cons a t =>
    cases t
    cases d with
    | py d =>
      cases a <;> simp [seqOf] at hm
      case lst e1 e2 =>
        subst hm
        exact ⟨_, _, rfl, .inl ⟨.of (R.bas.und.lst e1), fun l hl => k.py (.new (R.bas.und.some hl)) (R.laid hl fun _ z => by cases z) (.tup upd_same (e2.mono (.new (R.bas.und.some hl)))) p⟩⟩
      case tup e1 e2 =>
        subst hm
        exact ⟨_, _, rfl, .inr ⟨.of (R.bas.und.tup e1), k.py (.refl F) R (.tup e1 e2) p⟩⟩
    | _ => simp [seqOf] at hm
theorem de_listOf (hg : Gl X "list") (hm : X.mg "list" = none) (ha : DE c X a te) (hs : starEach [a] X.env = (false, eval a X.env) :: starEach [] X.env := by rfl) (hpl : (backTo pos (starEach [] X.env)).any (·.1) = false := by rfl) :
    DE c X (.Call (.Name "list" p) [a] [] pos) (dCB kList (dCons te dNil)) := de_callTy call_list_of cd_list hg hm (by decide +kernel) (da_cons ha da_nil hs) (he := hs) (hpl := hpl)
theorem de_tupleOf (hg : Gl X "tuple") (hm : X.mg "tuple" = none) (ha : DE c X a te) (hs : starEach [a] X.env = (false, eval a X.env) :: starEach [] X.env := by rfl) (hpl : (backTo pos (starEach [] X.env)).any (·.1) = false := by rfl) :
    DE c X (.Call (.Name "tuple" p) [a] [] pos) (dCB kTuple (dCons te dNil)) := de_callTy call_tuple_of cd_tuple hg hm (by decide +kernel) (da_cons ha da_nil hs) (he := hs) (hpl := hpl)
/-- int(n), int(flag) -/
@[simp] def intOf : DV → Option Int
  | .py (.int i) => some i
  | .py (.bool b) => some (if b then 1 else 0)
  | _ => none
@[simp] def kInt : KC := fun ds r n P => ∃ d i, ds = [d] ∧ intOf d = some i ∧ P (.py (.int i)) r n
theorem cd_int : CallD c (fun xs H Q => (∃ i, xs = [.int i] ∧ Q (.int i) H) ∨ ∃ k, xs = [.bl k] ∧ Q (.int (if k then 1 else 0)) H) kInt := fun g F r n s H vs ds P Q _ R rs h k => by
  obtain ⟨d, m, rfl, hm, p⟩ := h
  cases rs with
  | cons a t =>
    cases t
    cases d with
    | py d =>
      cases a <;> simp [intOf] at hm
      case int i => subst hm; exact .inl ⟨i, rfl, k.py (.refl F) R (.int _) p⟩
      case bl b => subst hm; exact .inr ⟨b, rfl, k.py (.refl F) R (.int _) p⟩
    | _ => simp [intOf] at hm
theorem de_intOf (hg : Gl X "int") (hm : X.mg "int" = none) (ha : DE c X a te) (hs : starEach [a] X.env = (false, eval a X.env) :: starEach [] X.env := by rfl) (hpl : (backTo pos (starEach [] X.env)).any (·.1) = false := by rfl) :
    DE c X (.Call (.Name "int" p) [a] [] pos) (dCB kInt (dCons te dNil)) := de_callTy call_int1 cd_int hg hm (by decide +kernel) (da_cons ha da_nil hs) (he := hs) (hpl := hpl)
/-- str(n) -/
@[simp] def kStr : KC := fun ds r n P => ∃ i : Int, ds = [.py (.int i)] ∧ i.natAbs.log2 < 1920 ∧ P (.py (.str (toString i))) r n
theorem strOk_int (i : Int) : PyData.strOk (toString i : String) = true := by
  show PyData.strOk (Str.ofString (toString i)) = true
  rw [Str.ofString_eq_toList]
  unfold PyData.strOk
  rw [List.all_toArray, List.all_eq_true]
  intro j hj
  obtain ⟨c, _, rfl⟩ := List.mem_map.mp hj
  have h := c.valid
  have : c.toNat = c.val.toNat := rfl
  rw [decide_eq_true_eq]
  rcases h with h | h <;> omega
theorem cd_str : CallD c (fun xs H Q => ∃ i, xs = [.int i] ∧ i.natAbs.log2 < 1920 ∧ Q (.str (toString i)) H) kStr := fun g F r n s H vs ds P Q _ R rs h k => by
  obtain ⟨i, rfl, hm, p⟩ := h
  cases rs with
  | cons a t =>
    cases t
    cases a
    exact ⟨i, rfl, hm, k.py (.refl F) R (.str _ (strOk_int i)) p⟩
theorem de_strOf (hg : Gl X "str") (hm : X.mg "str" = none) (ha : DE c X a te) (hs : starEach [a] X.env = (false, eval a X.env) :: starEach [] X.env := by rfl) (hpl : (backTo pos (starEach [] X.env)).any (·.1) = false := by rfl) :
    DE c X (.Call (.Name "str" p) [a] [] pos) (dCB kStr (dCons te dNil)) := de_callTy call_str_int cd_str hg hm (by decide +kernel) (da_cons ha da_nil hs) (he := hs) (hpl := hpl)

/-! ### isinstance -/
def tyName : PD → String
  | .none => "NoneType"
  | .bool _ => "bool"
  | .int _ => "int"
  | .str _ => "str"
  | .list _ => "list"
  | .tuple _ => "tuple"
  | .dict _ => "dict"
theorem Dz.ty {K : PySem.W.Frag} {F H : Hp} (u : Under F H) {v : V} {d : PD} (h : Dz F v d) : TyX K H v (.type (tyName d)) := by
  cases h with
  | non => exact .base .non
  | bl b => exact .base (.bl b)
  | int i => exact .base (.int i)
  | str x _ => exact .base (.str x)
  | lst e _ => exact .base (.lst (u.lst e))
  | tup e _ => exact .base (.tup (u.tup e))
  | d0 e =>
    rcases u.dK e with h | ⟨o, h⟩
    · exact .base (.dK h)
    · exact .fDict h
/-- whether the built-in class b takes data of the class a -/
def subTy (a b : String) : Bool := a == b || (a == "bool" && b == "int")
def isiD (d : PD) (ts : List String) : Bool := ts.any (subTy (tyName d))
theorem kit_all : ∀ a ∈ ["NoneType", "bool", "int", "str", "list", "tuple", "dict"], ∀ b ∈ ["str", "int", "bool", "list", "tuple", "dict"], kitB a b = some (subTy a b) := by decide +kernel
theorem tyName_mem (d : PD) : tyName d ∈ ["NoneType", "bool", "int", "str", "list", "tuple", "dict"] := by cases d <;> simp [tyName]
theorem kit_subTy {K : PySem.W.Frag} (d : PD) {b : String} (hb : b = "str" ∨ b = "int" ∨ b = "bool" ∨ b = "list" ∨ b = "tuple" ∨ b = "dict") : PySem.W.kitOne K (.type (tyName d)) (.type b) = some (subTy (tyName d) b) :=
  kit_ty (kit_all _ (tyName_mem d) _ (by simp only [List.mem_cons]; rcases hb with h | h | h | h | h | h <;> simp [h]))
def okTy (b : String) : Prop := b = "str" ∨ b = "int" ∨ b = "bool" ∨ b = "list" ∨ b = "tuple" ∨ b = "dict"
theorem kit_anyTy {K : PySem.W.Frag} (d : PD) : ∀ {ts : List String}, (∀ b ∈ ts, okTy b) → PySem.W.kitAny K (.type (tyName d)) (ts.map Value.type) = some (isiD d ts)
  | [], _ => kitAny_nil
  | b :: ts, h => by
    have ih := kit_anyTy (K := K) d (ts := ts) fun b hb => h b (by simp [hb])
    have h1 := kit_subTy (K := K) d (h b (by simp))
    refine kitAny_cons h1 (fun e => ?_) (fun e => ?_)
    · rw [ih]; simp [isiD, e]
    · simp [isiD, e]
@[simp] def dIsi (ts : List String) (te : TED) : TED := fun r n P => te r n fun d r1 n1 => ∃ q, d = .py q ∧ P (.py (.bool (isiD q ts))) r1 n1
/-- isinstance(e, T) -/
theorem de_isi {y : Str} {t : String} (hg : Gl X "isinstance") (hm : X.mg "isinstance" = none) (ha : DE c X a te) (hgy : Gl X y) (hmy : X.mg y = none) (hvy : bootBuiltins y = some (.type t)) (ok : okTy t) (hny : y ≠ "__name__" := by decide) (hdy : (y == ("__debug__" : Str)) = false := by decide)
    (he : starEach (a :: [.Name y p2]) X.env = (false, eval a X.env) :: starEach [.Name y p2] X.env := by rfl) (he2 : starEach (.Name y p2 :: []) X.env = (false, eval (.Name y p2) X.env) :: starEach [] X.env := by rfl) (hpl : (backTo pos (starEach [.Name y p2] X.env)).any (·.1) = false := by rfl) :
    DE c X (.Call (.Name "isinstance" p) [a, .Name y p2] [] pos) (dIsi [t] te) := ⟨fun g hgc =>
  PE.imp (pe_callB call_isi hg hm (by decide +kernel) (pa_cons (ha.run g hgc) (pa_cons (pe_bltn (v := .ty t) hgy hmy hvy rfl hny hdy) pa_nil he2) he) (he := he) (hpl := hpl)) fun s H Q ⟨F, r, n, P, R, p, k⟩ =>
    ⟨F, r, n, _, R, p, fun F1 d r1 n1 v H1 s1 R1 rv ⟨q, ed, p1⟩ => by
      subst ed
      have := kit_subTy (K := X.K) q ok
      refine ⟨v, .ty t, _, _, _, rfl, .ty t, Dz.ty R1.bas.und rv, this, ?_⟩
      have e : subTy (tyName q) t = isiD q [t] := by simp [isiD]
      rw [e]
      exact k.py s1 R1 (.bl _) p1⟩⟩
def tyNames : List (Str × String) → List Expr := fun _ => []
/-- the tuple of classes (T1, T2, ..) -/
inductive TyArgs (X : Cx) : List Expr → List String → Prop
  | nil : TyArgs X [] []
  | cons {y : Str} {t : String} {py : Pos} {es : List Expr} {ts : List String} (h : PE X (.Name y py) (tC (.ty t))) (hs : starEach (.Name y py :: es) X.env = (false, eval (.Name y py) X.env) :: starEach es X.env) (ok : okTy t) (r : TyArgs X es ts) : TyArgs X (.Name y py :: es) (t :: ts)
def tTys (ts : List String) : TA := fun _ H Q => Q (ts.map V.ty) H
theorem TyArgs.pa : ∀ {es : List Expr} {ts : List String}, TyArgs X es ts → PA X es (tTys ts)
  | _, _, .nil => PA.imp pa_nil fun _ _ _ h => h
  | _, _, .cons h hs _ r => PA.imp (pa_cons h r.pa hs) fun _ _ _ h => h
theorem TyArgs.ok : ∀ {es : List Expr} {ts : List String}, TyArgs X es ts → ∀ b ∈ ts, okTy b
  | _, _, .nil => fun _ h => by cases h
  | _, _, .cons _ _ o r => fun b h => by
    rcases List.mem_cons.mp h with e | e
    · rw [e]; exact o
    · exact r.ok b e
theorem paired_cls : ∀ ts : List String, Paired ClsV (ts.map V.ty) (ts.map Value.type)
  | [] => .nil
  | t :: ts => .cons (.ty t) (paired_cls ts)
theorem de_isiT {ts : List String} {xt : Nat} {pt : Pos} (hg : Gl X "isinstance") (hm : X.mg "isinstance" = none) (ha : DE c X a te) (hT : TyArgs X es ts) (hl : ts.length ≤ sizeLine)
    (he : starEach (a :: [.Tuple es xt pt]) X.env = (false, eval a X.env) :: starEach [.Tuple es xt pt] X.env := by rfl) (he2 : starEach (.Tuple es xt pt :: []) X.env = (false, eval (.Tuple es xt pt) X.env) :: starEach [] X.env := by rfl) (hpl : (backTo pos (starEach [.Tuple es xt pt] X.env)).any (·.1) = false := by rfl) :
    DE c X (.Call (.Name "isinstance" p) [a, .Tuple es xt pt] [] pos) (dIsi ts te) := ⟨fun g hgc =>
  PE.imp (pe_callB call_isiT hg hm (by decide +kernel) (pa_cons (ha.run g hgc) (pa_cons (pe_tup hT.pa) pa_nil he2) he) (he := he) (hpl := hpl)) fun s H Q ⟨F, r, n, P, R, p, k⟩ =>
    ⟨F, r, n, _, R, p, fun F1 d r1 n1 v H1 s1 R1 rv ⟨q, ed, p1⟩ => by
      subst ed
      refine ⟨by rw [List.length_map]; exact hl, fun tp htp => ?_⟩
      have ftp := R1.bas.und.some htp
      have R2 := R1.laid (o := .tup (ts.map V.ty)) htp fun _ z => by cases z
      refine ⟨v, tp, _, _, _, _, rfl, upd_same, paired_cls ts, Dz.ty R2.bas.und (Dz.mono (.new ftp) rv), kit_anyTy q hT.ok, ?_⟩
      exact k.py (s1.trans (.new ftp)) R2 (.bl _) p1⟩⟩

/-! ### sorted -/
def sortD (ds : List PD) : List PD := ds.mergeSort (PySem.W.dataLe false id)
@[simp] def kSort : KC := fun ds r n P => ∃ es, ds = [.py (.list es)] ∧ PySem.W.AllAlike es ∧ PySem.W.Sortable es ∧ es.length ≤ sizeLine ∧ (∀ d ∈ es, layD d = true ∧ d.depth ≤ 60) ∧ P (.py (.list (sortD es))) r n
def rSortD (K : PySem.W.Frag) : List V → Hp → VK → Prop := fun vs H Q => ∃ a xs ds, vs = [V.ref a] ∧ SqL K H a xs ∧ DpAll K H xs ds ∧ PySem.W.AllAlike ds ∧ PySem.W.Sortable ds ∧ ds.length ≤ sizeLine ∧ (∀ d ∈ ds, d.depth ≤ 60) ∧
  ∀ p ys, H p = none → ys.length = xs.length → PySem.W.EachIs (fun y d => ∃ i : Nat, xs[i]? = some y ∧ ds[i]? = some d) ys (sortD ds) → Q (.ref p) (upd H p (.lst ys))
end
section
variable {X : Cx}
theorem each_reads {pins : List (Addr × Obj)} {s : L2.St} {H : Hp} {sh : Shared} (I : Inv X pins s H sh) : ∀ {xs : List V} {ds : List PD} {us : List Value}, DpAll X.K H xs ds → Vals xs us → PySem.W.EachIs (fun v b => ∃ as, Reads sh.heap v (id b) as) us ds
  | _, _, _, .nil, .nil => .nil
  | _, _, _, .cons h t, .cons r rt => .cons (Dp.reads I _ _ _ h r) (each_reads I t rt)
theorem each_ix : ∀ {xs : List V} {ds : List PD} {us : List Value} (j : Nat) (xs0 : List V) (ds0 : List PD), xs.length = ds.length → Vals xs us → (∀ i, xs[i]? = xs0[i + j]?) → (∀ i, ds[i]? = ds0[i + j]?) →
    PySem.W.EachIs (fun u d => ∃ (i : Nat) (y : V), RelV y u ∧ xs0[i]? = some y ∧ ds0[i]? = some d) us ds
  | [], [], _, _, _, _, _, .nil, _, _ => .nil
  | x :: xs, d :: ds, _, j, xs0, ds0, hl, .cons r rt, h1, h2 => .cons ⟨j, x, r, by have := h1 0; simpa using this.symm, by have := h2 0; simpa using this.symm⟩
      (each_ix (j + 1) xs0 ds0 (by simpa using hl) rt (fun i => by have := h1 (i + 1); rw [List.getElem?_cons_succ] at this; rw [this]; congr 1; omega) (fun i => by have := h2 (i + 1); rw [List.getElem?_cons_succ] at this; rw [this]; congr 1; omega))
  | [], _ :: _, _, _, _, _, hl, _, _, _ => by simp at hl
  | _ :: _, [], _, _, _, _, hl, _, _, _ => by simp at hl
theorem each_vals {xs0 : List V} {ds0 : List PD} : ∀ {us : List Value} {es : List PD}, PySem.W.EachIs (fun u d => ∃ (i : Nat) (y : V), RelV y u ∧ xs0[i]? = some y ∧ ds0[i]? = some d) us es → ∃ ys, Vals ys us ∧ ys.length = es.length ∧ PySem.W.EachIs (fun y d => ∃ i : Nat, xs0[i]? = some y ∧ ds0[i]? = some d) ys es
  | _, _, .nil => ⟨[], .nil, rfl, .nil⟩
  | _, _, .cons ⟨i, y, r, e1, e2⟩ t => by
    obtain ⟨ys, h1, h2, h3⟩ := each_vals t
    exact ⟨y :: ys, .cons r h1, by simp [h2], .cons ⟨i, e1, e2⟩ h3⟩
theorem DpAll.length {K : PySem.W.Frag} {H : Hp} : ∀ {vs : List V} {ds : List PyData}, DpAll K H vs ds → vs.length = ds.length
  | _, _, .nil => rfl
  | _, _, .cons _ t => congrArg (· + 1) (DpAll.length t)
theorem cr_sortD (hu : X.A.units + 64 < cLine) : CallR X (.builtin "sorted") (rSortD X.K) := by
  intro pins s σ H vs us Q I r h
  obtain ⟨a, xs, ds, rfl, hs, hz, hal, hso, hl, hdp, q⟩ := h
  obtain rfl := Vals.ref1 r
  obtain ⟨its, rv, pl, hsz⟩ := I.list hs
  have hlen := DpAll.length hz
  refine PySem.W.sorted_data (enc := id) (R := fun u d => ∃ (i : Nat) (y : V), RelV y u ∧ xs[i]? = some y ∧ ds[i]? = some d) pl.isList (each_ix 0 xs ds hlen rv (fun i => rfl) fun i => rfl) (each_reads I hz rv) (by rw [List.map_id]; exact hal) (by rw [List.map_id]; exact hso) hl (fun b hb => ?_) fun out ho he => ?_
  · have := hdp b hb
    show X.A.units + 2 + PyData.depth b < cLine
    omega
  · obtain ⟨ys, k1, k2, k3⟩ := each_vals he
    obtain ⟨ep, he'⟩ := PyProof.Rows.sortedAll_at s.heap its out.toArray
    have hyl : ys.length = xs.length := by rw [k1.length, ho, hlen]
    refine ⟨.ref _, upd H (s.heap.objs.size + 1) (.lst ys), I.laid (t' := s.toks) (fun _ _ => PyProof.Rows.sortedAll_old) (Nat.le_succ _) ⟨by rw [hyl]; exact hsz, _, ep, k1, by simpa using he'⟩, rfl, q _ _ (I.hok.fresh (Nat.le_succ _)) hyl k3⟩
end
section
variable {X : Cx} {c : Cst} {a : Expr} {te : TED} {p pos : Pos}
theorem each_dz {F : Hp} {xs : List V} {ds : List PD} (h : DzAll F xs ds) : ∀ {ys : List V} {es : List PD}, PySem.W.EachIs (fun y d => ∃ i : Nat, xs[i]? = some y ∧ ds[i]? = some d) ys es → DzAll F ys es
  | _, _, .nil => .nil
  | _, _, .cons ⟨i, e1, e2⟩ t => by
    obtain ⟨v, h1, h2⟩ := h.get e2
    rw [e1] at h1
    cases h1
    exact .cons h2 (each_dz h t)
theorem layAll_of : ∀ {ds : List PD}, (∀ d ∈ ds, layD d = true) → layD.layDAll ds = true
  | [], _ => by simp [layD.layDAll]
  | d :: ds, h => by
    simp only [layD.layDAll, Bool.and_eq_true]
    exact ⟨h d (by simp), layAll_of fun d hd => h d (by simp [hd])⟩
theorem cd_sort : CallD c (rSortD X.K) kSort := fun g F r n s H vs ds P Q _ R rs h k => by
  obtain ⟨es, rfl, h1, h2, h3, h4, p⟩ := h
  cases rs with
  | cons a t =>
    cases t
    cases a with
    | @lst a xs _ e1 e2 =>
      refine ⟨a, xs, es, rfl, .of (R.bas.und.lst e1), DzAll.dp R.bas.und e2 (DzAll.lay e2 (layAll_of fun d hd => (h4 d hd).1)), h1, h2, h3, fun d hd => (h4 d hd).2, fun q ys hq _ he => ?_⟩
      have sb : SubH F (upd F q (.lst ys)) := .new (R.bas.und.some hq)
      exact k.py sb (R.laid hq fun _ z => by cases z) (.lst upd_same ((each_dz e2 he).mono sb)) p
theorem de_sorted (hu : X.A.units + 64 < cLine) (hg : Gl X "sorted") (hm : X.mg "sorted" = none) (ha : DE c X a te) (hs : starEach [a] X.env = (false, eval a X.env) :: starEach [] X.env := by rfl) (hpl : (backTo pos (starEach [] X.env)).any (·.1) = false := by rfl) :
    DE c X (.Call (.Name "sorted" p) [a] [] pos) (dCB kSort (dCons te dNil)) := de_callB (cr_sortD hu) cd_sort hg hm (by decide +kernel) (da_cons ha da_nil hs) (he := hs) (hpl := hpl)
end

/-! ### subscripts and slices -/
section
variable {X : Cx} {c : Cst} {a b : Expr} {ta tb : TED} {pos p2 : Pos}
theorem DzAll.atI {F : Hp} {vs : List V} {ds : List PD} {i : Int} {d : PD} (h : DzAll F vs ds) (e : L2.atI ds i = some d) : ∃ v, L2.atI vs i = some v ∧ Dz F v d := by
  unfold L2.atI at e ⊢
  rw [h.length]
  cases q : ixN ds.length i with
  | none => rw [q] at e; cases e
  | some j =>
    rw [q] at e
    obtain ⟨v, h1, h2⟩ := h.get (show ds[j]? = some d from e)
    exact ⟨v, h1, h2⟩
@[simp] def kIx : KB := fun x y r n P => ∃ ds i d, seqOf x = some ds ∧ y = .py (.int i) ∧ L2.atI ds i = some d ∧ P (.py d) r n
theorem ob_ix : OpB c (rIx X.K) kIx := fun g F r n s H x y a b P Q _ R ra rb h k => by
  obtain ⟨ds, i, d, e1, rfl, e2, p⟩ := h
  cases rb
  cases a with
  | py a =>
    cases ra <;> simp [seqOf] at e1
    case lst f1 f2 =>
      subst e1
      obtain ⟨v, q1, q2⟩ := f2.atI e2
      exact .inl ⟨_, _, i, v, rfl, rfl, .of (R.bas.und.lst f1), q1, k.py (.refl F) R q2 p⟩
    case tup f1 f2 =>
      subst e1
      obtain ⟨v, q1, q2⟩ := f2.atI e2
      exact .inr (.inl ⟨_, _, i, v, rfl, rfl, .of (R.bas.und.tup f1), q1, k.py (.refl F) R q2 p⟩)
  | _ => simp [seqOf] at e1
theorem de_ix (h1 : DE c X a ta) (h2 : DE c X b tb) (hs : PlainIx b := by intro _ _; rfl) : DE c X (.Subscript a b pos) (tOpD kIx ta tb) :=
  ⟨fun g hg => PE.imp (pe_ix ix_seq (h1.run g hg) (h2.run g hg) hs) fun _ _ _ => lift_op ob_ix g hg⟩
@[simp] def kIxS : KB := fun x y r n P => ∃ z i q, x = .py (.str z) ∧ y = .py (.int i) ∧ z.length ≤ sizeLine ∧ L2.atI z.cps.toList i = some q ∧ P (.py (.str ⟨#[q]⟩)) r n
theorem strOk_mem {z : Str} {q : Nat} (h : PyData.strOk z = true) (hq : q ∈ z.cps.toList) : PyData.strOk ⟨#[q]⟩ = true := by
  unfold PyData.strOk at *
  rw [Array.all_eq_true'] at h
  have := h q (by simpa using hq)
  simpa using this
theorem strOk_sign {z : Str} {q : Nat} {i : Int} (h : PyData.strOk z = true) (e : L2.atI z.cps.toList i = some q) : PyData.strOk ⟨#[q]⟩ = true := by
  obtain ⟨j, _, e2, _⟩ := atI_get e
  exact strOk_mem h (List.mem_of_getElem? e2)
theorem ob_ixS : OpB c rIxS kIxS := fun g F r n s H x y a b P Q _ R ra rb h k => by
  obtain ⟨z, i, q, rfl, rfl, hz, e2, p⟩ := h
  cases ra; cases rb
  exact ⟨z, i, q, rfl, rfl, hz, e2, k.py (.refl F) R (.str _ (strOk_sign (by assumption) e2)) p⟩
theorem de_ixS (h1 : DE c X a ta) (h2 : DE c X b tb) (hs : PlainIx b := by intro _ _; rfl) : DE c X (.Subscript a b pos) (tOpD kIxS ta tb) :=
  ⟨fun g hg => PE.imp (pe_ix ix_str (h1.run g hg) (h2.run g hg) hs) fun _ _ _ => lift_op ob_ixS g hg⟩
/-- slices without a step -/
abbrev TOD := DEnv → Nat → (Option Int → DEnv → Nat → Prop) → Prop
def liftO (g : G) (t : TOD) : TO := fun s H Q => ∃ F r n P, Rel g F r n s H ∧ t r n P ∧ ∀ F' i r' n' H', SubH F F' → Rel g F' r' n' s H' → P i r' n' → Q i H'
structure DO (c : Cst) (X : Cx) (e : Option Expr) (t : TOD) : Prop where
  run : ∀ g : G, g.c = c → PO X e (liftO g t)
theorem PO.imp {e : Option Expr} {t t' : TO} (h : PO X e t) (w : ∀ s H Q, t' s H Q → t s H Q) : PO X e t' := ⟨fun pins s σ H Q I q => h.run pins s σ H Q I (w _ _ _ q)⟩
@[simp] def oNo : TOD := fun r n P => P none r n
@[simp] def oSome (t : TED) : TOD := fun r n P => t r n fun d r1 n1 => ∃ i, d = .py (.int i) ∧ P (some i) r1 n1
theorem do_none : DO c X none oNo := ⟨fun g _ => PO.imp po_none fun s H Q ⟨F, r, n, P, R, p, k⟩ => k F _ r n H (.refl F) R p⟩
theorem do_some (h : DE c X a ta) : DO c X (some a) (oSome ta) := ⟨fun g hg => PO.imp (po_some (h.run g hg)) fun s H Q ⟨F, r, n, P, R, p, k⟩ => ⟨F, r, n, _, R, p, fun F1 d r1 n1 v H1 s1 R1 rv ⟨i, e, p1⟩ => by
  subst e
  cases rv
  exact ⟨i, rfl, k F1 _ r1 n1 H1 s1 R1 p1⟩⟩⟩
def cutD (xs : List PD) (lo hi : Option Int) : List PD := (xs.drop (HT.sIx xs.length 0 lo)).take (HT.sIx xs.length xs.length hi - HT.sIx xs.length 0 lo)
@[simp] def dCut (te : TED) (tl th : TOD) : TED := fun r n P => te r n fun d r1 n1 => tl r1 n1 fun l r2 n2 => th r2 n2 fun h r3 n3 =>
  (∃ ds, d = .py (.list ds) ∧ P (.py (.list (cutD ds l h))) r3 n3) ∨ ∃ ds, d = .py (.tuple ds) ∧ ¬ (HT.sIx ds.length 0 l = 0 ∧ HT.sIx ds.length ds.length h = ds.length) ∧ P (.py (.tuple (cutD ds l h))) r3 n3
variable {lo hi : Option Expr} {tl th : TOD}
theorem DzAll.cut {F : Hp} {vs : List V} {ds : List PD} (h : DzAll F vs ds) (l u : Option Int) : DzAll F (cutV vs l u) (cutD ds l u) := by
  unfold cutV cutD
  rw [h.length]
  exact (h.drop _).take _
theorem de_cut (h1 : DE c X a ta) (h2 : DO c X lo tl) (h3 : DO c X hi th) : DE c X (.Subscript a (.Slice lo hi none p2) pos) (dCut ta tl th) := ⟨fun g hg => PE.imp (pe_slice (sl_list.or sl_tup) (h1.run g hg) (h2.run g hg) (h3.run g hg)) fun s H Q ⟨F, r, n, P, R, p, k⟩ =>
  ⟨F, r, n, _, R, p, fun F1 d r1 n1 v H1 s1 R1 rv p1 => ⟨F1, r1, n1, _, R1, p1, fun F2 l r2 n2 H2 s2 R2 p2 => ⟨F2, r2, n2, _, R2, p2, fun F3 u r3 n3 H3 s3 R3 p3 => by
    rcases p3 with ⟨ds, rfl, p3⟩ | ⟨ds, rfl, hne, p3⟩
    · have rv3 : Dz F3 v (.list ds) := Dz.mono (s2.trans s3) rv
      cases rv3 with
      | @lst a xs _ e1 e2 =>
        refine .inl ⟨a, xs, rfl, .of (R3.bas.und.lst e1), fun q hq => ?_⟩
        have sb : SubH F3 (upd F3 q (.lst (cutV xs l u))) := .new (R3.bas.und.some hq)
        exact k.py (s1.trans (s2.trans (s3.trans sb))) (R3.laid hq fun _ z => by cases z) (.lst upd_same ((e2.cut l u).mono sb)) p3
    · have rv3 : Dz F3 v (.tuple ds) := Dz.mono (s2.trans s3) rv
      cases rv3 with
      | @tup a xs _ e1 e2 =>
        refine .inr ⟨a, xs, rfl, .of (R3.bas.und.tup e1), ?_, fun q hq => ?_⟩
        · rw [e2.length]; exact hne
        · have sb : SubH F3 (upd F3 q (.tup (cutV xs l u))) := .new (R3.bas.und.some hq)
          exact k.py (s1.trans (s2.trans (s3.trans sb))) (R3.laid hq fun _ z => by cases z) (.tup upd_same ((e2.cut l u).mono sb)) p3⟩⟩⟩⟩
/-- xs[::-1] -/
@[simp] def dRev (te : TED) : TED := fun r n P => te r n fun d r1 n1 => ∃ ds, d = .py (.list ds) ∧ P (.py (.list ds.reverse)) r1 n1
theorem de_rev {k0 : Nat} {q1 q2 q3 : Pos} (h : DE c X a ta) : DE c X (.Subscript a (.Slice none none (some (.UnaryOp .USub (.Constant (.int 1) k0 q1) q2)) q3) pos) (dRev ta) := ⟨fun g hg => PE.imp (pe_revL (h.run g hg)) fun s H Q ⟨F, r, n, P, R, p, k⟩ =>
  ⟨F, r, n, _, R, p, fun F1 d r1 n1 v H1 s1 R1 rv ⟨ds, e, p1⟩ => by
    subst e
    cases rv with
    | @lst a xs _ e1 e2 =>
      refine ⟨a, xs, rfl, .of (R1.bas.und.lst e1), fun q hq => ?_⟩
      have sb : SubH F1 (upd F1 q (.lst xs.reverse)) := .new (R1.bas.und.some hq)
      exact k.py (s1.trans sb) (R1.laid hq fun _ z => by cases z) (.lst upd_same (e2.reverse.mono sb)) p1⟩⟩
end
end K21

set_option Elab.async false
set_option linter.all false
set_option maxRecDepth 100000
set_option maxHeartbeats 4000000
/-! K21E: fields, dicts, promises, calls of defs, local objects over data. -/
namespace K21
open PySem PySem.Spec PyProof.Rows L2

/-! ### fields of a debate -/
def fldD (D : Deb) (f : Str) : Option DV :=
  if f = "own_statements" then some (.py (.list (sts D.ns))) else if f = "own_objections" then some (.py (.list (D.ps.map pairD)))
  else if f = "own_objectors" then some (.dct (objectorsD D)) else if f = "own_objected" then some (.dct (objectedD D)) else none
@[simp] def dFld (te : TED) (f : Str) : TED := fun r n P => te r n fun d r1 n1 => ∃ D v, d = .deb D ∧ fldD D f = some v ∧ P v r1 n1
section
variable {X : Cx} {c : Cst} {e a b : Expr} {es : List Expr} {te ta tb : TED} {tas : TAD} {f : Str} {pos p2 : Pos}
theorem de_fld (hC : Cls X.K c.C) (hn : NoAttr X.K c.C f) (h : DE c X e te) (hb : attributeBase e f X.env (eval e X.env) = eval e X.env := by rfl) : DE c X (.Attribute e f pos) (dFld te f) := ⟨fun g hg => PE.imp (pe_fld (h.run g hg) hb) fun s H Q ⟨F, r, n, P, R, p, k⟩ =>
  ⟨F, r, n, _, R, p, fun F1 d r1 n1 v H1 s1 R1 rv ⟨D, w, ed, ef, p1⟩ => by
    subst ed
    obtain ⟨a, dx, fs, v1, v2, v3, v4, rfl, h0, l1, h1, l2, h2, l3, h3, l4, h4⟩ := rv
    rw [hg] at h0
    have e0 := R1.bas.und.ins h0
    unfold fldD at ef
    split at ef
    · rename_i q; subst q; cases ef
      exact ⟨a, c.C, dx, fs, v1, rfl, e0, hC, hn, l1, k F1 (.py (.list (sts D.ns))) r1 n1 _ H1 s1 R1 h1 p1⟩
    · split at ef
      · rename_i q; subst q; cases ef
        exact ⟨a, c.C, dx, fs, v2, rfl, e0, hC, hn, l2, k F1 (.py (.list (D.ps.map pairD))) r1 n1 _ H1 s1 R1 h2 p1⟩
      · split at ef
        · rename_i q; subst q; cases ef
          exact ⟨a, c.C, dx, fs, v3, rfl, e0, hC, hn, l3, k F1 (.dct (objectorsD D)) r1 n1 _ H1 s1 R1 h3 p1⟩
        · split at ef
          · rename_i q; subst q; cases ef
            exact ⟨a, c.C, dx, fs, v4, rfl, e0, hC, hn, l4, k F1 (.dct (objectedD D)) r1 n1 _ H1 s1 R1 h4 p1⟩
          · cases ef⟩⟩

/-! ### dicts that stand still -/
def lookD (kvs : List (Str × PD)) (x : Str) : Option PD := (kvs.find? fun p => decide (p.1 = x)).map (·.2)
theorem PairK.look {F : Hp} {x : Str} : ∀ {kv : List (Key × V)} {kvs : List (Str × PD)}, PairK F kv kvs → (∀ d, lookD kvs x = some d → ∃ v, valV kv (Sum.inr x) = some v ∧ Dz F v d) ∧ (lookD kvs x = none → valV kv (Sum.inr x) = none)
  | _, _, .nil => ⟨fun d h => by simp [lookD] at h, fun _ => rfl⟩
  | _, _, .cons (a := p) (b := q) h t => by
    have ih := PairK.look (x := x) t
    obtain ⟨⟨h1, _⟩, h2⟩ := h
    by_cases hq : q.1 = x
    · subst hq
      have e1 : ∀ r, lookD (q :: r) q.1 = some q.2 := fun r => by simp [lookD, List.find?_cons]
      rw [e1, valV_pos h1]
      exact ⟨fun d h => by cases h; exact ⟨_, rfl, h2⟩, fun h => by cases h⟩
    · have e1 : ∀ r, lookD (q :: r) x = lookD r x := fun r => by simp [lookD, List.find?_cons, hq]
      rw [e1, valV_neg (fun z => hq (Sum.inr.inj (h1.symm.trans z)))]
      exact ih
theorem PairK.isSome {F : Hp} {x : Str} {kv : List (Key × V)} {kvs : List (Str × PD)} (h : PairK F kv kvs) : (valV kv (Sum.inr x)).isSome = (lookD kvs x).isSome := by
  obtain ⟨h1, h2⟩ := h.look (x := x)
  cases q : lookD kvs x with
  | none => rw [h2 q]; rfl
  | some d => obtain ⟨v, e, _⟩ := h1 d q; rw [e]; rfl
/-- d[x] -/
@[simp] def dGet (td tx : TED) : TED := fun r n P => td r n fun d r1 n1 => tx r1 n1 fun x r2 n2 => ∃ kvs k v, d = .dct kvs ∧ x = .py (.str k) ∧ lookD kvs k = some v ∧ P (.py v) r2 n2
theorem de_get (hu : X.A.units + 1 < cLine) (h1 : DE c X a ta) (h2 : DE c X b tb) (hs : NoSl b := by intro _ _; rfl) : DE c X (.Subscript a b pos) (dGet ta tb) := ⟨fun g hg => PE.imp (pe_dget hu (h1.run g hg) (h2.run g hg) hs) fun s H Q ⟨F, r, n, P, R, p, k⟩ =>
  ⟨F, r, n, _, R, p, fun F1 d r1 n1 v H1 s1 R1 rv p1 => ⟨F1, r1, n1, _, R1, p1, fun F2 d2 r2 n2 v2 H2 s2 R2 rv2 ⟨kvs, x, w, e1, e2, e3, p3⟩ => by
    subst e1 e2
    cases rv2
    obtain ⟨q, kv, rfl, f1, f2⟩ := DctR.mono s2 rv
    obtain ⟨u, g1, g2⟩ := (f2.look (x := x)).1 w e3
    exact ⟨q, u, rfl, .inl ⟨kv, Sum.inr x, R2.bas.und.dK f1, rfl, g1.symm⟩, k.py (s1.trans s2) R2 g2 p3⟩⟩⟩⟩
/-- x in d, x not in d -/
@[simp] def kInD (neg : Bool) : KB := fun x d r n P => ∃ kvs k, d = .dct kvs ∧ x = .py (.str k) ∧ P (.py (.bool (if neg then !(lookD kvs k).isSome else (lookD kvs k).isSome))) r n
theorem lift_din (neg : Bool) (g : G) {s : L2.St} {H : Hp} {Q : VK} : lift g (tOpD (kInD neg) ta tb) s H Q → lift g ta s H fun y H1 => lift g tb s H1 fun x H2 => ∃ a o, x = .ref a ∧ DGet H2 a y o ∧ Q (.bl (if neg then !o.isSome else o.isSome)) H2 := fun ⟨F, r, n, P, R, p, k⟩ =>
  ⟨F, r, n, _, R, p, fun F1 d r1 n1 v H1 s1 R1 rv p1 => ⟨F1, r1, n1, _, R1, p1, fun F2 d2 r2 n2 v2 H2 s2 R2 rv2 ⟨kvs, x, e1, e2, p3⟩ => by
    subst e1 e2
    have rv' := RepD.mono s2 rv
    cases rv'
    obtain ⟨q, kv, rfl, f1, f2⟩ := rv2
    refine ⟨q, valV kv (Sum.inr x), rfl, .inl ⟨kv, Sum.inr x, R2.bas.und.dK f1, rfl, rfl⟩, ?_⟩
    rw [f2.isSome]
    exact k.py (s1.trans s2) R2 (.bl _) p3⟩⟩
theorem de_dIn (hu : X.A.units + 1 < cLine) (h1 : DE c X a ta) (h2 : DE c X b tb) (hm : behindInMarks .In b = false := by rfl) : DE c X (.Compare a [.In] [b] pos) (tOpD (kInD false) ta tb) := ⟨fun g hg => PE.imp (pe_cmp (pc_din hu (h1.run g hg) (h2.run g hg)) hm) fun _ _ _ h => lift_din false g h⟩
theorem de_dNotIn (hu : X.A.units + 1 < cLine) (h1 : DE c X a ta) (h2 : DE c X b tb) (hm : behindInMarks .NotIn b = false := by rfl) : DE c X (.Compare a [.NotIn] [b] pos) (tOpD (kInD true) ta tb) := ⟨fun g hg => PE.imp (pe_cmp (pc_dnotin hu (h1.run g hg) (h2.run g hg)) hm) fun _ _ _ h => lift_din true g h⟩
theorem lift_dinT (neg : Bool) (g : G) {s : L2.St} {H : Hp} {Q : Bool → Hp → Prop} (h : liftT g (tBD (tOpD (kInD neg) ta tb)) s H Q) : lift g ta s H fun y H1 => lift g tb s H1 fun x H2 => ∃ a o, x = .ref a ∧ DGet H2 a y o ∧ ∃ k, V.bl (if neg then !o.isSome else o.isSome) = .bl k ∧ Q k H2 := lift_din neg g (lift_tb g h)
theorem dt_dIn (hu : X.A.units + 1 < cLine) (h1 : DE c X a ta) (h2 : DE c X b tb) (hm : behindInMarks .In b = false := by rfl) : DT c X (.Compare a [.In] [b] pos) (tBD (tOpD (kInD false) ta tb)) := ⟨fun g hg => PT.imp (pt_cmp (pc_din hu (h1.run g hg) (h2.run g hg)) hm) fun _ _ _ h => lift_dinT false g h⟩
theorem dt_dNotIn (hu : X.A.units + 1 < cLine) (h1 : DE c X a ta) (h2 : DE c X b tb) (hm : behindInMarks .NotIn b = false := by rfl) : DT c X (.Compare a [.NotIn] [b] pos) (tBD (tOpD (kInD true) ta tb)) := ⟨fun g hg => PT.imp (pt_cmp (pc_dnotin hu (h1.run g hg) (h2.run g hg)) hm) fun _ _ _ h => lift_dinT true g h⟩
/-- for k in d: the expression stands under a lock -/
def iKeysD (t : TED) : TSrc := fun r n P => t r n fun d r1 n1 => ∃ kvs : List (Str × PD), d = .dct kvs ∧ P (kvs.map fun p => .str p.1) r1 n1
end

/-! ### promises -/
def prom (c : Cst) (pre : List DV → Nat → Prop) (post : List DV → Nat → DV → Nat → Prop) : Sp := fun vs H Q _ => ∃ g ds n, g.c = c ∧ g.H0 = H ∧ g.A = g.F0 ∧ Bas g g.F0 n H ∧ RepAll g g.F0 vs ds ∧ pre ds n ∧
  ∀ F' d n' v H', Bas g F' n' H' → RepD g F' v d → plainD d = true → post ds n d n' → Q v H'
def startD (N : List Str) (ds : List DV) : DEnv := ds.map (fun d => some (.dat d)) ++ List.replicate (N.length - ds.length) none
theorem rel_start {g : G} {n : Nat} {H : Hp} {N : List Str} {vs : List V} {ds : List DV} (b : Bas g g.F0 n H) (rs : RepAll g g.F0 vs ds) : Rel g g.F0 (startD N ds) n (L2.start N vs) H := by
  have hl : vs.length = ds.length := Paired.length rs
  have gt : ∀ (i : Nat) z, (startD N ds)[i]? = some (some z) → ∃ d, z = .dat d ∧ ds[i]? = some d := fun i z e => by
    unfold startD at e
    by_cases hi : i < ds.length
    · rw [List.getElem?_append_left (by simpa using hi), List.getElem?_map, List.getElem?_eq_getElem hi] at e
      cases e
      exact ⟨_, rfl, List.getElem?_eq_getElem hi⟩
    · rw [List.getElem?_append_right (by simp; omega)] at e
      have := List.mem_of_getElem? e
      rw [List.mem_replicate] at this
      exact absurd this.2.symm (by simp)
  refine ⟨b, ?_, fun i z e => ?_, fun i j m m' p _ e1 => ?_⟩
  · unfold startD L2.start
    simp [hl]
  · obtain ⟨d, rfl, e1⟩ := gt i z e
    obtain ⟨v, h1, h2⟩ : ∃ v, vs[i]? = some v ∧ RepD g g.F0 v d := by
      have : ∀ {vs : List V} {ds : List DV} {i : Nat}, RepAll g g.F0 vs ds → ds[i]? = some d → ∃ v, vs[i]? = some v ∧ RepD g g.F0 v d := by
        intro vs ds i r
        induction r generalizing i with
        | nil => intro e; simp at e
        | cons h t ih =>
          intro e
          cases i with
          | zero => simp at e; subst e; exact ⟨_, rfl, h⟩
          | succ i => obtain ⟨v, q1, q2⟩ := ih (i := i) (by simpa using e); exact ⟨v, by simpa using q1, q2⟩
      exact this rs e1
    refine ⟨v, ?_, h2⟩
    unfold L2.start
    have hi := (List.getElem?_eq_some_iff.mp h1).1
    rw [List.getElem?_append_left (by simpa using hi), List.getElem?_map, h1]
    rfl
  · obtain ⟨d, q, _⟩ := gt i _ e1
    cases q
theorem ok_of {P : Program} {w : World} {K : PySem.W.Frag} {mg : Str → Option Value} {base : Heap} {c : Cst} {pre : List DV → Nat → Prop} {post : List DV → Nat → DV → Nat → Prop} {x qual : Str} {st : Stmt} {f : Addr} {fd : FuncData} {N ps : List Str} {k : Nat}
    (F : Fun K x qual st f fd) (S : FnScope N ps (defScope st)) (hlen : ∀ ds n, pre ds n → ds.length = ps.length)
    (hbody : ∀ (cdv : Value) (A : Around) (outer : List Env) (s : Shared) (H : Hp) (E : XK), Room k (A.deeper (envOfC qual (defScope st) s.heap.objs.size f cdv)) →
      ∃ t, DSs c (cxOf CX0 P w K mg base N qual (defScope st) f cdv A outer s H E).nox (defBody st) t ∧ ∀ ds n, pre ds n → t { nx := fun _ n' => post ds n (.py .none) n', rt := fun d n' => post ds n d n' } (startD N ds) n) :
    FnOk P w K mg base CX0 (k + 1) f fd ps (prom c pre post) := by
  refine F.ok S (fun vs H Q E h => ?_) (fun cdv A outer s H vs Q E hr h => ?_)
  · obtain ⟨g, ds, n, _, _, _, _, rs, hp, _⟩ := h
    rw [Paired.length rs]; exact hlen ds n hp
  · obtain ⟨g, ds, n, hg, hH, _, b, rs, hp, q⟩ := h
    obtain ⟨t, ht, hb⟩ := hbody cdv A outer s H E hr
    exact ⟨_, ht.run g hg, g.F0, startD N ds, n, _, rel_start b rs, hb ds n hp, ⟨fun F' r' n' s' H' R hx => q F' (.py .none) n' .non H' R.bas Dz.non rfl hx, fun F' d n' v H' b' rv pl hx => q F' d n' v H' b' rv pl hx, fun _ _ _ _ _ _ z => z.elim, fun _ _ _ _ _ _ z => z.elim⟩⟩
/-- the callee's part -/
def G.call (g : G) (F H : Hp) : G := { g with F0 := F, H0 := H, A := F }
theorem Bas.call {g : G} {F H : Hp} {n : Nat} (b : Bas g F n H) : Bas (g.call F H) F n H :=
  ⟨b.und, .refl F, fun a o h1 h2 _ => absurd (h2.symm.trans h1) (Option.some_ne_none _), fun a o e _ _ => e, fun a ps e => ⟨ps, e⟩, b.ntb, b.tab, b.str, b.strF, fun a o e => ⟨b.und a o e, fun z => (by have e' : F a = some o := e; rw [b.strF a z] at e'; cases e'), fun ps z => b.ntb a ps (by rw [← z]; exact e)⟩⟩
theorem Rel.called {g : G} {F F' H H' : Hp} {r : DEnv} {n n' : Nat} {s : L2.St} (R : Rel g F r n s H) (b : Bas (g.call F H) F' n' H') : Rel g F' r n' s H' := by
  have k : ∀ a o, H a = some o → (∀ ps, o ≠ .tbl ps) → ¬ InS g.S a → H' a = some o := fun a o e h1 h2 => b.fr a o e h1 h2
  refine ⟨⟨b.und, R.bas.gro.trans b.gro, fun a u h1 h2 h3 => ?_, fun a o e h1 h2 => k a o (R.bas.fr a o e h1 h2) h1 h2, fun a ps e => ?_, b.ntb, b.tab, b.str, b.strF, R.bas.anc⟩, R.len, fun i z e => ?_, R.dis⟩
  · cases q : F a with
    | none => exact R.bas.free0 (b.new a u q h2 h3)
    | some o => exact R.bas.new a o h1 q (by have := b.gro a o q; rw [h2] at this; cases this; exact h3)
  · obtain ⟨ps', q⟩ := R.bas.frt a ps e
    exact b.frt a ps' q
  · obtain ⟨v, e1, h⟩ := R.slot i z e
    refine ⟨v, e1, ?_⟩
    cases z with
    | dat d => exact RepD.mono b.gro h
    | mu m =>
      obtain ⟨p, rfl, h1, h2, h3, h4⟩ := h
      refine ⟨p, rfl, ?_, h2, h3, (h4.mono b.gro).at fun o q ht => k p o q ht h3⟩
      cases q : F' p with
      | none => rfl
      | some o =>
        obtain ⟨u, hu, ut, un⟩ := h4.obj
        have z := b.new p o h1 q (b.und.ntup q (k p u hu ut h3) un)
        have z' : H p = none := z
        rw [hu] at z'; cases z'
/-- data as an argument -/
@[simp] def argD : DV → DV
  | .ancP d => .py d
  | .ancB D => .deb D
  | .nw ws => .py (.list (sts ws))
  | d => d
@[simp] def okArg : DV → Bool
  | .oldB _ => false
  | _ => true
theorem dz_sts {F : Hp} : ∀ {ws : List Str}, (∀ x ∈ ws, PyData.strOk x = true) → DzAll F (ws.map V.str) (sts ws)
  | [], _ => .nil
  | w :: ws, h => .cons (.str w (h w (by simp))) (dz_sts fun x hx => h x (by simp [hx]))
theorem RepD.arg {g : G} {F H : Hp} {v : V} {d : DV} (h : RepD g F v d) (ok : okArg d = true) : RepD (g.call F H) F v (argD d) := by
  cases d with
  | oldB D => cases ok
  | ancP d => exact Dz.mono h.1 h.2
  | ancB D => exact DebR.mono h.1 h.2
  | nw ws => obtain ⟨p, rfl, h1, _, h2⟩ := h; exact Dz.lst h1 (dz_sts h2)
  | _ => exact h
theorem RepD.ret {g : G} {F F' H H' : Hp} {r : DEnv} {n n' : Nat} {s : L2.St} {v : V} {d : DV} (R : Rel g F r n s H) (b : Bas (g.call F H) F' n' H') (h : RepD (g.call F H) F' v d) (pl : plainD d = true) : RepD g F' v d := by
  cases d with
  | oldB D => cases pl
  | ancP d => cases pl
  | ancB D => cases pl
  | nw ws =>
    obtain ⟨p, rfl, h1, h2, h3⟩ := h
    refine ⟨p, rfl, h1, ?_, h3⟩
    have z : H p = none := b.new p _ h2 h1 (fun _ z => by cases z)
    cases q : g.A p with
    | none => rfl
    | some o =>
      obtain ⟨⟨hs, _⟩, _⟩ := R.ancS p o q
      rcases hs with hs | ⟨_, _, _, hs⟩ <;> have := (strip_some hs).2 <;> rw [z] at this <;> cases this
  | _ => exact h
theorem rep_args {g : G} {F H : Hp} : ∀ {vs : List V} {ds : List DV}, RepAll g F vs ds → ds.all okArg = true → RepAll (g.call F H) F vs (ds.map argD)
  | _, _, .nil, _ => .nil
  | _, _, .cons a t, ok => by
    rw [List.all_cons, Bool.and_eq_true] at ok
    exact .cons (RepD.arg a ok.1) (rep_args t ok.2)
@[simp] def dCall (pre : List DV → Nat → Prop) (post : List DV → Nat → DV → Nat → Prop) (ts : TAD) : TED := fun r n P => ts r n fun ds r1 n1 => (ds.all okArg = true) ∧ pre (ds.map argD) n1 ∧ ∀ d n2, post (ds.map argD) n1 d n2 → P d r1 n2
section
variable {X : Cx} {c : Cst} {pre : List DV → Nat → Prop} {post : List DV → Nat → DV → Nat → Prop} {k : Nat} {f : Addr} {fd : FuncData} {ps : List Str} {x : Str} {p pos : Pos} {e : Expr} {es : List Expr} {tas : TAD} {CX : CXT} {E : XK}
theorem lift_call (g : G) (hg : g.c = c) {s : L2.St} {H : Hp} {Q : VK} : lift g (dCall pre post tas) s H Q → tCall (prom c pre post) [] E (liftA g tas) s H Q := fun ⟨F, r, n, P, R, q, kk⟩ =>
  ⟨F, r, n, _, R, q, fun F1 ds r1 n1 vs H1 s1 R1 rs ⟨ok, hp, hq⟩ => by
    refine ⟨g.call F1 H1, ds.map argD, n1, hg, rfl, rfl, R1.bas.call, ?_, hp, fun F' d n' v H' b rv pl hx => ?_⟩
    · rw [List.append_nil]
      exact rep_args rs ok
    · have sb : SubH F1 F' := b.gro
      exact kk F' d r1 n' v H' (s1.trans sb) (R1.called b) (rv.ret R1 b pl) (hq d n' hx)⟩
theorem de_call (Fn : FnOk X.prog X.w X.K X.mg X.base CX k f fd ps (prom c pre post)) (hr : Room k X.A) (hg : Gl X x) (hm : X.mg x = some (.ref f)) (hk : PySem.W.keepIn X.K (.ref f) = true) (hb : Binds X.K fd ps []) (hx : Passes CX X E)
    (ha : DA c X (e :: es) tas) (hdb : (x == ("__debug__" : Str)) = false := by decide) (he : starEach (e :: es) X.env = (false, eval e X.env) :: starEach es X.env := by rfl) (hpl : (backTo pos (starEach es X.env)).any (·.1) = false := by rfl) :
    DE c X (.Call (.Name x p) (e :: es) [] pos) (dCall pre post tas) := ⟨fun g hgc => PE.imp (pe_call Fn hr hg hm hk hb .nil hx (ha.run g hgc) hdb he hpl) fun _ _ _ h => lift_call g hgc h⟩
end
end K21

set_option Elab.async false
set_option linter.all false
set_option maxRecDepth 100000
set_option maxHeartbeats 4000000
/-! K21F: local lists and dicts, assignments of several names. -/
namespace K21
open PySem PySem.Spec PyProof.Rows L2

theorem set_same {α : Type} {s : List α} {i : Nat} {v : α} (e : s[i]? = some v) : s.set i v = s := by
  apply List.ext_getElem?
  intro j
  by_cases hj : i = j
  · subst hj
    rw [List.getElem?_set_self (List.getElem?_eq_some_iff.mp e).1, e]
  · rw [List.getElem?_set_ne hj]
section
variable {g : G} {F H : Hp} {r : DEnv} {n : Nat} {s : L2.St}
/-- a new local object takes a name -/
theorem Rel.newM (R : Rel g F r n s H) {i : Nat} {p : Addr} {m : MV} {o : HO} (hp : H p = none) (hm : MutR F (upd H p o) p m) : Rel g F (r.set i (some (.mu m))) n (s.set i (some (.ref p))) (upd H p o) := by
  refine (R.laidM hp).setM (R.bas.und.some hp) (R.bas.free0 hp) (R.bas.notS hp) hm fun j m' e es => ?_
  obtain ⟨q, eq, _, _, _, h4⟩ := R.mu e
  rw [es] at eq
  have := V.ref.inj (Option.some.inj (Option.some.inj eq))
  subst this
  obtain ⟨u, hu⟩ := h4.some
  rw [hp] at hu; cases hu
end
section
variable {X : Cx} {c : Cst} {e a b tg : Expr} {es : List Expr} {te ta tb : TED} {tas : TAD} {x y z : Str} {pos p2 pos' px py pz pt : Pos} {i j l : Nat}
/-! ### new local objects -/
@[simp] def sNewL (i : Nat) (ts : TAD) : TSD := fun E r n => ts r n fun ds r1 n1 => ∃ ps, pys ds = some ps ∧ ps.length ≤ sizeLine ∧ E.nx (r1.set i (some (.mu (.lst ps)))) n1
theorem ds_newL {q : Pos} (hN : X.N.Nodup) (hi : X.N[i]? = some x) (hx : Loc X.env.scope x) (h : DA c X es tas) (hs : swapsWith (.List es q) (some (.Name x pos')) pos.line X.env = pure false := by rfl) (hf : X.fn x = true ∨ X.env.scope.names.lookup x = some .local := by first | exact .inl rfl | exact .inr rfl | assumption) :
    DS c X (.Assign [.Name x pos'] (.List es q) pos) (sNewL i tas) := ⟨fun g hg => PS.imp (ps_set hN hi hx (pe_lst (h.run g hg)) hs hf) fun D s H ⟨F, r, n, E, R, p, k⟩ =>
  ⟨F, r, n, _, R, p, fun F1 ds r1 n1 vs H1 sb R1 rs ⟨ps, e1, e2, p1⟩ => by
    have hz := pys_rep e1 rs
    exact ⟨by rw [hz.length]; exact e2, fun q hq => k.nx F1 _ n1 _ _ sb (R1.newM (m := .lst ps) hq ⟨vs, upd_same, hz⟩) p1⟩⟩⟩
@[simp] def sNewK (i : Nat) : TSD := fun E r n => E.nx (r.set i (some (.mu (.dK [])))) n
theorem ds_newK {q : Pos} (hN : X.N.Nodup) (hi : X.N[i]? = some x) (hx : Loc X.env.scope x) (hs : swapsWith (.Dict [] [] q) (some (.Name x pos')) pos.line X.env = pure false := by rfl) (hf : X.fn x = true ∨ X.env.scope.names.lookup x = some .local := by first | exact .inl rfl | exact .inr rfl | assumption) :
    DS c X (.Assign [.Name x pos'] (.Dict [] [] q) pos) (sNewK i) := ⟨fun g hg => PS.imp (ps_set hN hi hx pe_dnewK hs hf) fun D s H ⟨F, r, n, E, R, p, k⟩ =>
  fun q hq => k.nx F _ n _ _ (.refl F) (R.newM (m := .dK []) hq ⟨[], upd_same, .nil⟩) p⟩
@[simp] def sNewT (i : Nat) : TSD := fun E r n => E.nx (r.set i (some (.mu (.dT [])))) n
theorem ds_newT {q : Pos} (hN : X.N.Nodup) (hi : X.N[i]? = some x) (hx : Loc X.env.scope x) (hs : swapsWith (.Dict [] [] q) (some (.Name x pos')) pos.line X.env = pure false := by rfl) (hf : X.fn x = true ∨ X.env.scope.names.lookup x = some .local := by first | exact .inl rfl | exact .inr rfl | assumption) :
    DS c X (.Assign [.Name x pos'] (.Dict [] [] q) pos) (sNewT i) := ⟨fun g hg => PS.imp (ps_set hN hi hx pe_dnewT hs hf) fun D s H ⟨F, r, n, E, R, p, k⟩ =>
  fun q hq => k.nx F _ n _ _ (.refl F) (R.newM (m := .dT []) hq ⟨[], upd_same, .nil⟩) p⟩

/-! ### methods of a local list -/
@[simp] def dAppend (i : Nat) (te : TED) : TED := fun r n P => (∃ ds, r[i]? = some (some (.mu (.lst ds)))) ∧ te r n fun d r1 n1 => ∃ ds w, r1[i]? = some (some (.mu (.lst ds))) ∧ d = .py w ∧ ds.length < sizeLine ∧ P (.py .none) (r1.set i (some (.mu (.lst (ds ++ [w]))))) n1
theorem de_append (i : Nat) {apos cpos : Pos} (ho : PE X (.Name x px) (tVar i)) (ha : DE c X e te)
    (hbase : attributeBase (.Name x px) "append" X.env (eval (.Name x px) X.env) = eval (.Name x px) X.env := by rfl)
    (hfew : ((backTo cpos (starEach (e :: []) X.env)).all (fun x => !x.1) && (backToKw cpos (keywordEach [] X.env)).all (fun x => x.1.isSome) && decide ((e :: []).length + ([] : List Keyword).length + (if ([] : List Keyword).isEmpty then 0 else 1) < 30)) = true := by rfl)
    (hline : (apos.endLine == cpos.line) = true := by rfl) (hs : starEach (e :: []) X.env = (false, eval e X.env) :: starEach [] X.env := by rfl) (hplain : (backTo cpos (starEach [] X.env)).any (·.1) = false := by rfl) :
    DE c X (.Call (.Attribute (.Name x px) "append" apos) [e] [] cpos) (dAppend i te) := ⟨fun g hg =>
  PE.imp (pe_bm PySem.F.plainAttrs_list PySem.F.slot_list_append PySem.F.type_list_append mt_append ho (pa_cons (ha.run g hg) pa_nil hs) hbase hfew hline hs hplain) fun s H Q ⟨F, r, n, P, R, ⟨⟨ds0, e0⟩, p⟩, k⟩ => by
    obtain ⟨q, eq, _, _, _, vs0, h40, h50⟩ := R.mu e0
    refine ⟨.ref q, eq, .inl ⟨rfl, vs0, .of h40⟩, F, r, n, _, R, p, fun F1 d r1 n1 v H1 sb R1 rv ⟨ds, w, e1, ed, hl, p1⟩ => ?_⟩
    subst ed
    obtain ⟨q', eq', _, _, _, vs, h4, h5⟩ := R1.mu e1
    rw [eq] at eq'
    have := V.ref.inj (Option.some.inj (Option.some.inj eq'))
    subst this
    exact ⟨q, vs, v, rfl, rfl, h4, by rw [h5.length]; exact hl, CoE.py k sb (R1.write (m' := .lst (ds ++ [w])) e1 eq ⟨_, upd_same, h5.snoc rv⟩) .non p1⟩⟩
@[simp] def dExtend (i : Nat) (te : TED) : TED := fun r n P => (∃ ds, r[i]? = some (some (.mu (.lst ds)))) ∧ te r n fun d r1 n1 => ∃ ds ws, r1[i]? = some (some (.mu (.lst ds))) ∧ d = .py (.list ws) ∧ ds.length + ws.length ≤ sizeLine ∧ P (.py .none) (r1.set i (some (.mu (.lst (ds ++ ws))))) n1
theorem de_extend (i : Nat) {apos cpos : Pos} (ho : PE X (.Name x px) (tVar i)) (ha : DE c X e te)
    (hbase : attributeBase (.Name x px) "extend" X.env (eval (.Name x px) X.env) = eval (.Name x px) X.env := by rfl)
    (hfew : ((backTo cpos (starEach (e :: []) X.env)).all (fun x => !x.1) && (backToKw cpos (keywordEach [] X.env)).all (fun x => x.1.isSome) && decide ((e :: []).length + ([] : List Keyword).length + (if ([] : List Keyword).isEmpty then 0 else 1) < 30)) = true := by rfl)
    (hline : (apos.endLine == cpos.line) = true := by rfl) (hs : starEach (e :: []) X.env = (false, eval e X.env) :: starEach [] X.env := by rfl) (hplain : (backTo cpos (starEach [] X.env)).any (·.1) = false := by rfl) :
    DE c X (.Call (.Attribute (.Name x px) "extend" apos) [e] [] cpos) (dExtend i te) := ⟨fun g hg =>
  PE.imp (pe_bm PySem.F.plainAttrs_list PySem.F.slot_list_extend PySem.F.type_list_extend mt_extend ho (pa_cons (ha.run g hg) pa_nil hs) hbase hfew hline hs hplain) fun s H Q ⟨F, r, n, P, R, ⟨⟨ds0, e0⟩, p⟩, k⟩ => by
    obtain ⟨q, eq, _, _, _, vs0, h40, h50⟩ := R.mu e0
    refine ⟨.ref q, eq, .inl ⟨rfl, vs0, .of h40⟩, F, r, n, _, R, p, fun F1 d r1 n1 v H1 sb R1 rv ⟨ds, w, e1, ed, hl, p1⟩ => ?_⟩
    subst ed
    cases rv with
    | @lst b ws _ f1 f2 =>
      obtain ⟨q', eq', _, _, _, vs, h4, h5⟩ := R1.mu e1
      rw [eq] at eq'
      have := V.ref.inj (Option.some.inj (Option.some.inj eq'))
      subst this
      exact ⟨q, b, vs, ws, rfl, rfl, h4, R1.bas.und.lst f1, by rw [h5.length, f2.length]; exact hl, CoE.py k sb (R1.write (m' := .lst (ds ++ w)) e1 eq ⟨_, upd_same, h5.append f2⟩) .non p1⟩⟩
/-- x.pop(k) -/
@[simp] def dPop (i : Nat) (te : TED) : TED := fun r n P => (∃ ds, r[i]? = some (some (.mu (.lst ds)))) ∧ te r n fun d r1 n1 => ∃ ds k w, r1[i]? = some (some (.mu (.lst ds))) ∧ d = .py (.int (k : Nat)) ∧ k < 2 ^ 62 ∧ ds[k]? = some w ∧ P (.py w) (r1.set i (some (.mu (.lst (ds.eraseIdx k))))) n1
theorem seqIndex_nat {k n : Nat} (h : k < n) : seqIndex? (k : Int) n = some k := by
  have : ixN n (k : Int) = some k := by unfold ixN; simp [h]
  exact (ixN_seq this).1
theorem de_pop (i : Nat) {apos cpos : Pos} (ho : PE X (.Name x px) (tVar i)) (ha : DE c X e te)
    (hbase : attributeBase (.Name x px) "pop" X.env (eval (.Name x px) X.env) = eval (.Name x px) X.env := by rfl)
    (hfew : ((backTo cpos (starEach (e :: []) X.env)).all (fun x => !x.1) && (backToKw cpos (keywordEach [] X.env)).all (fun x => x.1.isSome) && decide ((e :: []).length + ([] : List Keyword).length + (if ([] : List Keyword).isEmpty then 0 else 1) < 30)) = true := by rfl)
    (hline : (apos.endLine == cpos.line) = true := by rfl) (hs : starEach (e :: []) X.env = (false, eval e X.env) :: starEach [] X.env := by rfl) (hplain : (backTo cpos (starEach [] X.env)).any (·.1) = false := by rfl) :
    DE c X (.Call (.Attribute (.Name x px) "pop" apos) [e] [] cpos) (dPop i te) := ⟨fun g hg =>
  PE.imp (pe_bm PySem.F.plainAttrs_list PySem.F.slot_list_pop PySem.F.type_list_pop mt_popAt ho (pa_cons (ha.run g hg) pa_nil hs) hbase hfew hline hs hplain) fun s H Q ⟨F, r, n, P, R, ⟨⟨ds0, e0⟩, p⟩, k⟩ => by
    obtain ⟨q, eq, _, _, _, vs0, h40, h50⟩ := R.mu e0
    refine ⟨.ref q, eq, .inl ⟨rfl, vs0, .of h40⟩, F, r, n, _, R, p, fun F1 d r1 n1 v H1 sb R1 rv ⟨ds, kk, w, e1, ed, hk, hw, p1⟩ => ?_⟩
    subst ed
    cases rv
    obtain ⟨q', eq', _, _, _, vs, h4, h5⟩ := R1.mu e1
    rw [eq] at eq'
    have := V.ref.inj (Option.some.inj (Option.some.inj eq'))
    subst this
    obtain ⟨u, hu, hz⟩ := h5.get hw
    have hlt : kk < vs.length := (List.getElem?_eq_some_iff.mp hu).1
    exact ⟨q, vs, kk, kk, u, rfl, rfl, h4, by omega, by omega, seqIndex_nat hlt, hu, CoE.py k sb (R1.write (m' := .lst (ds.eraseIdx kk)) e1 eq ⟨_, upd_same, h5.eraseIdx kk⟩) hz p1⟩⟩
/-- x[k] = v -/
@[simp] def sSetL (i : Nat) (te tk : TED) : TSD := fun E r n => te r n fun d r1 n1 => (∃ ds, r1[i]? = some (some (.mu (.lst ds)))) ∧ tk r1 n1 fun kd r2 n2 => ∃ ds k w, r2[i]? = some (some (.mu (.lst ds))) ∧ d = .py w ∧ kd = .py (.int (k : Nat)) ∧ k < ds.length ∧ E.nx (r2.set i (some (.mu (.lst (ds.set k w))))) n2
theorem ds_setL (i : Nat) (ho : PE X (.Name x px) (tVar i)) (h : DE c X e te) (hk : DE c X a ta) (hs : swapsWithSole [.Subscript (.Name x px) a p2] e pos.line X.env = pure false := by rfl) (hw : swappedStores [.Subscript (.Name x px) a p2] e X.env = pure none := by rfl)
    (h1 : (assignEach [.Subscript (.Name x px) a p2] X.env).map (·.2) = [assign (.Subscript (.Name x px) a p2) X.env] := by rfl)
    (hq : PG X (.Subscript (.Name x px) a p2) (gSub (tVar i) (liftX c ta) rSetL)) : DS c X (.Assign [.Subscript (.Name x px) a p2] e pos) (sSetL i te ta) := ⟨fun g hg =>
  PS.imp (ps_asg (h.run g hg) hq hs hw h1) fun D s H ⟨F, r, n, E, R, p, k⟩ => ⟨F, r, n, _, R, p, fun F1 d r1 n1 v H1 sb R1 rv ⟨⟨ds0, e0⟩, p1⟩ => by
    obtain ⟨q, eq, _⟩ := R1.mu e0
    refine ⟨.ref q, eq, g, hg, F1, r1, n1, _, R1, p1, fun F2 kd r2 n2 kv H2 s2 R2 rk ⟨ds, kk, w, e1, ed, ek, hl, p2⟩ => ?_⟩
    subst ed ek
    cases rk
    obtain ⟨q', eq', _, _, _, vs, h4, h5⟩ := R2.mu e1
    rw [eq] at eq'
    have := V.ref.inj (Option.some.inj (Option.some.inj eq'))
    subst this
    have hlt : kk < vs.length := by rw [h5.length]; exact hl
    exact ⟨q, vs, kk, kk, rfl, rfl, h4, by unfold ixN; simp [hlt], k.nx F2 _ n2 _ _ (sb.trans s2) (R2.write (m' := .lst (ds.set kk w)) e1 eq ⟨_, upd_same, h5.set (Dz.mono s2 rv) kk⟩) p2⟩⟩⟩

/-! ### a local list asked -/
@[simp] def dInM (i : Nat) (neg : Bool) (te : TED) : TED := fun r n P => te r n fun d r1 n1 => ∃ ds w, r1[i]? = some (some (.mu (.lst ds))) ∧ d = .py w ∧ shapeD w = true ∧ shapeD (.list ds) = true ∧ P (.py (.bool (if neg then !inD w ds else inD w ds))) r1 n1
theorem de_notInM (i : Nat) (hu : X.A.units + 65 < cLine) (h1 : DE c X a ta) (ho : PE X (.Name x px) (tVar i)) (hm : behindInMarks .NotIn (.Name x px) = false := by rfl) : DE c X (.Compare a [.NotIn] [.Name x px] pos) (dInM i true ta) := ⟨fun g hg =>
  PE.imp (pe_cmpR (op_notInD hu) (h1.run g hg) ho hm) fun s H Q ⟨F, r, n, P, R, p, k⟩ => ⟨F, r, n, _, R, p, fun F1 d r1 n1 v H1 sb R1 rv ⟨ds, w, e1, ed, h1, h2, p1⟩ => by
    subst ed
    obtain ⟨q, eq, _, _, _, vs, h4, h5⟩ := R1.mu e1
    have h1 := Dz.shaped rv h1
    have h2 := DzAll.shaped h5 h2
    exact ⟨.ref q, eq, w, ds, Dz.dp R1.bas.und rv (SeqAt.canLay_of_shaped h1), .lst (.of h4) (DzAll.dp R1.bas.und h5 (by have := SeqAt.canLay_of_shaped h2; simpa [PyData.canLay0] using this)), h1, h2, k.py sb R1 (.bl _) p1⟩⟩⟩
theorem de_inM (i : Nat) (hu : X.A.units + 65 < cLine) (h1 : DE c X a ta) (ho : PE X (.Name x px) (tVar i)) (hm : behindInMarks .In (.Name x px) = false := by rfl) : DE c X (.Compare a [.In] [.Name x px] pos) (dInM i false ta) := ⟨fun g hg =>
  PE.imp (pe_cmpR (op_inD hu) (h1.run g hg) ho hm) fun s H Q ⟨F, r, n, P, R, p, k⟩ => ⟨F, r, n, _, R, p, fun F1 d r1 n1 v H1 sb R1 rv ⟨ds, w, e1, ed, h1, h2, p1⟩ => by
    subst ed
    obtain ⟨q, eq, _, _, _, vs, h4, h5⟩ := R1.mu e1
    have h1 := Dz.shaped rv h1
    have h2 := DzAll.shaped h5 h2
    exact ⟨.ref q, eq, w, ds, Dz.dp R1.bas.und rv (SeqAt.canLay_of_shaped h1), .lst (.of h4) (DzAll.dp R1.bas.und h5 (by have := SeqAt.canLay_of_shaped h2; simpa [PyData.canLay0] using this)), h1, h2, k.py sb R1 (.bl _) p1⟩⟩⟩
/-- a comparison with a local list, as a test -/
theorem dt_notInM (i : Nat) (hu : X.A.units + 65 < cLine) (h1 : DE c X a ta) (ho : PE X (.Name x px) (tVar i)) (hm : behindInMarks .NotIn (.Name x px) = false := by rfl) : DT c X (.Compare a [.NotIn] [.Name x px] pos) (tBD (dInM i true ta)) := ⟨fun g hg =>
  PT.imp (pt_cmpR (op_notInD hu) (h1.run g hg) ho hm) fun s H Q h => by
    obtain ⟨F, r, n, P, R, p, k⟩ := lift_tb (t := dInM i true ta) g h
    exact ⟨F, r, n, _, R, p, fun F1 d r1 n1 v H1 sb R1 rv ⟨ds, w, e1, ed, h1, h2, p1⟩ => by
      subst ed
      obtain ⟨q, eq, _, _, _, vs, h4, h5⟩ := R1.mu e1
      have h1 := Dz.shaped rv h1
      have h2 := DzAll.shaped h5 h2
      exact ⟨.ref q, eq, w, ds, Dz.dp R1.bas.und rv (SeqAt.canLay_of_shaped h1), .lst (.of h4) (DzAll.dp R1.bas.und h5 (by have := SeqAt.canLay_of_shaped h2; simpa [PyData.canLay0] using this)), h1, h2, k F1 (.py (.bool _)) _ _ _ _ sb R1 (Dz.bl _) p1⟩⟩⟩
@[simp] def dLenM (i : Nat) : TED := fun r n P => ∃ ds, r[i]? = some (some (.mu (.lst ds))) ∧ P (.py (.int ds.length)) r n
theorem de_lenM (i : Nat) {p : Pos} (hg : Gl X "len") (hm : X.mg "len" = none) (ho : PE X (.Name x px) (tVar i)) (hs : starEach [.Name x px] X.env = (false, eval (.Name x px) X.env) :: starEach [] X.env := by rfl) (hpl : (backTo pos (starEach [] X.env)).any (·.1) = false := by rfl) :
    DE c X (.Call (.Name "len" p) [.Name x px] [] pos) (dLenM i) := ⟨fun g hgc => PE.imp (pe_callB call_len_seq hg hm PySem.boot_len (pa_cons ho pa_nil hs) (he := hs) (hpl := hpl)) fun s H Q ⟨F, r, n, P, R, ⟨ds, e, p⟩, k⟩ => by
  obtain ⟨q, eq, _, _, _, vs, h4, h5⟩ := R.mu e
  refine ⟨.ref q, eq, q, vs, rfl, .inl (.of h4), k.py (.refl F) R ?_ p⟩
  rw [h5.length]; exact .int _⟩

/-! ### several names at once -/
section
variable {st : Stmt}
/-- the two ways in which such an assignment is done, as one: from a rule for the values' reading, the rule for the statement -/
structure Par2 (X : Cx) (st : Stmt) (es : List Expr) (i j : Nat) : Prop where
  run : ∀ t : TA, PA X es t → PS X st (fun D s H => t s H fun vs H1 => ∃ v w, vs = [v, w] ∧ D.nx ((s.set i (some v)).set j (some w)) H1) ∨
    PS X st (tAsg (tTup t) (gTup X.K 2 (gCons (gName i) (gCons (gName j) gNil))))
theorem par2_S {k1 k2 : Nat} {q2 : Pos} (hc : X.calm = true) (hN : X.N.Nodup) (hi : X.N[i]? = some x) (hj : X.N[j]? = some y) (hij : i ≠ j) (hx : X.env.scope.names.lookup x = some .local) (hy : X.env.scope.names.lookup y = some .local)
    (hw : swappedStores [.Tuple [.Name x px, .Name y py] k1 pt] (.Tuple [a, b] k2 q2) X.env = pure (some [x, y])) (hs : swapsWithSole [.Tuple [.Name x px, .Name y py] k1 pt] (.Tuple [a, b] k2 q2) pos.line X.env = pure false := by rfl) :
    Par2 X (.Assign [.Tuple [.Name x px, .Name y py] k1 pt] (.Tuple [a, b] k2 q2) pos) [a, b] i j := ⟨fun t ht => .inl (ps_par hc hN hi hj hij hx hy ht hw hs)⟩
theorem par2_G {k2 : Nat} {q2 : Pos} (hg : PG X tg (gTup X.K 2 (gCons (gName i) (gCons (gName j) gNil)))) (hs : swapsWithSole [tg] (.Tuple [a, b] k2 q2) pos.line X.env = pure false := by rfl) (hw : swappedStores [tg] (.Tuple [a, b] k2 q2) X.env = pure none := by rfl)
    (h1 : (assignEach [tg] X.env).map (·.2) = [assign tg X.env] := by rfl) : Par2 X (.Assign [tg] (.Tuple [a, b] k2 q2) pos) [a, b] i j := ⟨fun t ht => .inr (ps_asg (pe_tup ht) hg hs hw h1)⟩
structure Par3 (X : Cx) (st : Stmt) (es : List Expr) (i j l : Nat) : Prop where
  run : ∀ t : TA, PA X es t → PS X st (tAsg (tTup t) (gTup X.K 3 (gCons (gName i) (gCons (gName j) (gCons (gName l) gNil)))))
theorem par3_G {d : Expr} {k2 : Nat} {q2 : Pos} (hg : PG X tg (gTup X.K 3 (gCons (gName i) (gCons (gName j) (gCons (gName l) gNil))))) (hs : swapsWithSole [tg] (.Tuple [a, b, d] k2 q2) pos.line X.env = pure false := by rfl) (hw : swappedStores [tg] (.Tuple [a, b, d] k2 q2) X.env = pure none := by rfl)
    (h1 : (assignEach [tg] X.env).map (·.2) = [assign tg X.env] := by rfl) : Par3 X (.Assign [tg] (.Tuple [a, b, d] k2 q2) pos) [a, b, d] i j l := ⟨fun t ht => ps_asg (pe_tup ht) hg hs hw h1⟩
/-- both data -/
@[simp] def sPar (i j : Nat) (ta tb : TED) : TSD := fun E r n => ta r n fun d1 r1 n1 => tb r1 n1 fun d2 r2 n2 => E.nx ((r2.set i (some (.dat d1))).set j (some (.dat d2))) n2
theorem ds_par (hp : Par2 X st [a, b] i j) (h1 : DE c X a ta) (h2 : DE c X b tb) (hs : starEach (a :: [b]) X.env = (false, eval a X.env) :: starEach [b] X.env := by rfl) (hs2 : starEach (b :: []) X.env = (false, eval b X.env) :: starEach [] X.env := by rfl) : DS c X st (sPar i j ta tb) := ⟨fun g hg => by
  rcases hp.run _ (pa_cons (h1.run g hg) (pa_cons (h2.run g hg) pa_nil hs2) hs) with hq | hq
  · refine PS.imp hq fun D s H ⟨F, r, n, E, R, p, k⟩ => ⟨F, r, n, _, R, p, fun F1 d1 r1 n1 v1 H1 s1 R1 rv1 p1 => ⟨F1, r1, n1, _, R1, p1, fun F2 d2 r2 n2 v2 H2 s2 R2 rv2 p2 => ?_⟩⟩
    exact ⟨v1, v2, rfl, k.nx F2 _ n2 _ H2 (s1.trans s2) ((R2.set (rv1.mono s2)).set rv2) p2⟩
  · refine PS.imp hq fun D s H ⟨F, r, n, E, R, p, k⟩ => ⟨F, r, n, _, R, p, fun F1 d1 r1 n1 v1 H1 s1 R1 rv1 p1 => ⟨F1, r1, n1, _, R1, p1, fun F2 d2 r2 n2 v2 H2 s2 R2 rv2 p2 => ?_⟩⟩
    refine ⟨by show 2 ≤ sizeLine; decide, fun q hq => ⟨q, _, rfl, .of upd_same, rfl, v1, _, rfl, v2, _, rfl, rfl, ?_⟩⟩
    exact k.nx F2 _ n2 _ _ (s1.trans s2) (((R2.laidM hq).set (rv1.mono s2)).set rv2) p2⟩
/-- data, and a new list -/
@[simp] def sParL (i j : Nat) (ta : TED) (ts : TAD) : TSD := fun E r n => ta r n fun d1 r1 n1 => ts r1 n1 fun ds r2 n2 => ∃ ps, pys ds = some ps ∧ ps.length ≤ sizeLine ∧ E.nx ((r2.set i (some (.dat d1))).set j (some (.mu (.lst ps)))) n2
theorem Rel.newM2 {g : G} {F H : Hp} {r : DEnv} {n : Nat} {s : L2.St} (R : Rel g F r n s H) {i j : Nat} {v : V} {d : DV} {p : Addr} {m : MV} {o : HO} (hp : H p = none) (hm : MutR F (upd H p o) p m) (hv : RepD g F v d) :
    Rel g F ((r.set i (some (.dat d))).set j (some (.mu m))) n ((s.set i (some v)).set j (some (.ref p))) (upd H p o) := (R.set hv).newM hp hm
theorem ds_parL {q0 : Pos} (hp : Par2 X st [a, .List es q0] i j) (h1 : DE c X a ta) (h2 : DA c X es tas) (hs : starEach (a :: [.List es q0]) X.env = (false, eval a X.env) :: starEach [.List es q0] X.env := by rfl) (hs2 : starEach (.List es q0 :: []) X.env = (false, eval (.List es q0) X.env) :: starEach [] X.env := by rfl) : DS c X st (sParL i j ta tas) := ⟨fun g hg => by
  rcases hp.run _ (pa_cons (h1.run g hg) (pa_cons (pe_lst (h2.run g hg)) pa_nil hs2) hs) with hq | hq
  · refine PS.imp hq fun D s H ⟨F, r, n, E, R, p, k⟩ => ⟨F, r, n, _, R, p, fun F1 d1 r1 n1 v1 H1 s1 R1 rv1 p1 => ⟨F1, r1, n1, _, R1, p1, fun F2 ds r2 n2 vs H2 s2 R2 rs ⟨ps, e1, e2, p2⟩ => ?_⟩⟩
    have hz := pys_rep e1 rs
    refine ⟨by rw [hz.length]; exact e2, fun q hq => ⟨v1, .ref q, rfl, ?_⟩⟩
    exact k.nx F2 _ n2 _ _ (s1.trans s2) (R2.newM2 (m := .lst ps) hq ⟨vs, upd_same, hz⟩ (rv1.mono s2)) p2
  · refine PS.imp hq fun D s H ⟨F, r, n, E, R, p, k⟩ => ⟨F, r, n, _, R, p, fun F1 d1 r1 n1 v1 H1 s1 R1 rv1 p1 => ⟨F1, r1, n1, _, R1, p1, fun F2 ds r2 n2 vs H2 s2 R2 rs ⟨ps, e1, e2, p2⟩ => ?_⟩⟩
    have hz := pys_rep e1 rs
    refine ⟨by rw [hz.length]; exact e2, fun q hq => ⟨by show 2 ≤ sizeLine; decide, fun q' hq' => ⟨q', _, rfl, .of upd_same, rfl, v1, _, rfl, .ref q, _, rfl, rfl, ?_⟩⟩⟩
    exact k.nx F2 _ n2 _ _ (s1.trans s2) ((R2.newM2 (m := .lst ps) hq ⟨vs, upd_same, hz⟩ (rv1.mono s2)).laidM hq') p2⟩
/-- data, and a new dict -/
@[simp] def sParK (i j : Nat) (ta : TED) : TSD := fun E r n => ta r n fun d1 r1 n1 => E.nx ((r1.set i (some (.dat d1))).set j (some (.mu (.dK [])))) n1
theorem ds_parK {q0 : Pos} (hp : Par2 X st [a, .Dict [] [] q0] i j) (h1 : DE c X a ta) (hs : starEach (a :: [.Dict [] [] q0]) X.env = (false, eval a X.env) :: starEach [.Dict [] [] q0] X.env := by rfl) (hs2 : starEach (.Dict [] [] q0 :: []) X.env = (false, eval (.Dict [] [] q0) X.env) :: starEach [] X.env := by rfl) : DS c X st (sParK i j ta) := ⟨fun g hg => by
  rcases hp.run _ (pa_cons (h1.run g hg) (pa_cons pe_dnewK pa_nil hs2) hs) with hq | hq
  · refine PS.imp hq fun D s H ⟨F, r, n, E, R, p, k⟩ => ⟨F, r, n, _, R, p, fun F1 d1 r1 n1 v1 H1 s1 R1 rv1 p1 => fun q hq => ⟨v1, .ref q, rfl, ?_⟩⟩
    exact k.nx F1 _ n1 _ _ s1 (R1.newM2 (m := .dK []) hq ⟨[], upd_same, .nil⟩ rv1) p1
  · refine PS.imp hq fun D s H ⟨F, r, n, E, R, p, k⟩ => ⟨F, r, n, _, R, p, fun F1 d1 r1 n1 v1 H1 s1 R1 rv1 p1 => fun q hq => ⟨by show 2 ≤ sizeLine; decide, fun q' hq' => ⟨q', _, rfl, .of upd_same, rfl, v1, _, rfl, .ref q, _, rfl, rfl, ?_⟩⟩⟩
    exact k.nx F1 _ n1 _ _ s1 ((R1.newM2 (m := .dK []) hq ⟨[], upd_same, .nil⟩ rv1).laidM hq') p1⟩
/-- two data, and a new list -/
@[simp] def sPar3L (i j l : Nat) (ta tb : TED) (ts : TAD) : TSD := fun E r n => ta r n fun d1 r1 n1 => tb r1 n1 fun d2 r2 n2 => ts r2 n2 fun ds r3 n3 => ∃ ps, pys ds = some ps ∧ ps.length ≤ sizeLine ∧ E.nx (((r3.set i (some (.dat d1))).set j (some (.dat d2))).set l (some (.mu (.lst ps)))) n3
theorem ds_par3L {q0 : Pos} (hp : Par3 X st [a, b, .List es q0] i j l) (h1 : DE c X a ta) (h2 : DE c X b tb) (h3 : DA c X es tas) (hs : starEach (a :: [b, .List es q0]) X.env = (false, eval a X.env) :: starEach [b, .List es q0] X.env := by rfl) (hs1 : starEach (b :: [.List es q0]) X.env = (false, eval b X.env) :: starEach [.List es q0] X.env := by rfl) (hs2 : starEach (.List es q0 :: []) X.env = (false, eval (.List es q0) X.env) :: starEach [] X.env := by rfl) :
    DS c X st (sPar3L i j l ta tb tas) := ⟨fun g hg => by
  refine PS.imp (hp.run _ (pa_cons (h1.run g hg) (pa_cons (h2.run g hg) (pa_cons (pe_lst (h3.run g hg)) pa_nil hs2) hs1) hs)) fun D s H ⟨F, r, n, E, R, p, k⟩ => ⟨F, r, n, _, R, p, fun F1 d1 r1 n1 v1 H1 s1 R1 rv1 p1 => ⟨F1, r1, n1, _, R1, p1, fun F2 d2 r2 n2 v2 H2 s2 R2 rv2 p2 => ⟨F2, r2, n2, _, R2, p2, fun F3 ds r3 n3 vs H3 s3 R3 rs ⟨ps, e1, e2, p3⟩ => ?_⟩⟩⟩
  have hz := pys_rep e1 rs
  refine ⟨by rw [hz.length]; exact e2, fun q hq => ⟨by show 3 ≤ sizeLine; decide, fun q' hq' => ⟨q', _, rfl, .of upd_same, rfl, v1, _, rfl, v2, _, rfl, .ref q, _, rfl, rfl, ?_⟩⟩⟩
  exact k.nx F3 _ n3 _ _ (s1.trans (s2.trans s3)) ((((R3.set (rv1.mono (s2.trans s3))).set (rv2.mono s3)).newM (m := .lst ps) hq ⟨vs, upd_same, hz⟩).laidM hq') p3⟩
/-- a, b = e, a tuple of data -/
@[simp] def sUnp (i j : Nat) (te : TED) : TSD := fun E r n => te r n fun d r1 n1 => ∃ x y, d = .py (.tuple [x, y]) ∧ E.nx ((r1.set i (some (.dat (.py x)))).set j (some (.dat (.py y)))) n1
theorem ds_unp (h : DE c X e te) (hg : PG X tg (gTup X.K 2 (gCons (gName i) (gCons (gName j) gNil)))) (hs : swapsWithSole [tg] e pos.line X.env = pure false := by rfl) (hw : swappedStores [tg] e X.env = pure none := by rfl)
    (h1 : (assignEach [tg] X.env).map (·.2) = [assign tg X.env] := by rfl) : DS c X (.Assign [tg] e pos) (sUnp i j te) := ⟨fun g hgc => PS.imp (ps_asg (h.run g hgc) hg hs hw h1) fun D s H ⟨F, r, n, E, R, p, k⟩ =>
  ⟨F, r, n, _, R, p, fun F1 d r1 n1 v H1 sb R1 rv ⟨x, y, ed, p1⟩ => by
    subst ed
    have := Bnd.run (b := .two i j) (K := X.K) (k := fun r => E.nx r n1) (Q := D.nx) R1 rv ⟨x, y, rfl, p1⟩ fun r' s' R' q _ => k.nx F1 r' n1 s' H1 sb R' q
    exact this⟩⟩
end
end

/-! ### dicts of their own, written and asked -/
section
variable {X : Cx} {c : Cst} {e a b : Expr} {te ta tb : TED} {x : Str} {pos p2 px : Pos} {i : Nat}
def putD (kvs : List (Str × PD)) (k : Str) (v : PD) : List (Str × PD) := if (lookD kvs k).isSome then kvs.map fun p => if p.1 = k then (p.1, v) else p else kvs ++ [(k, v)]
theorem PairK.put {F : Hp} {kv : List (Key × V)} {kvs : List (Str × PD)} (h : PairK F kv kvs) {k : Str} (hk : PyData.strOk k = true) {v : V} {d : PD} (hv : Dz F v d) : PairK F (putK kv (Sum.inr k) v) (putD kvs k d) := by
  unfold putK putD
  rw [valV_any, h.isSome]
  cases q : (lookD kvs k).isSome with
  | false =>
    simp only [Bool.false_eq_true, if_false]
    have : ∀ {kv : List (Key × V)} {kvs : List (Str × PD)}, PairK F kv kvs → PairK F (kv ++ [(Sum.inr k, v)]) (kvs ++ [(k, d)]) := by
      intro kv kvs h
      induction h with
      | nil => exact .cons ⟨⟨rfl, hk⟩, hv⟩ .nil
      | cons a t ih => exact .cons a ih
    exact this h
  | true =>
    simp only [if_true]
    have : ∀ {kv : List (Key × V)} {kvs : List (Str × PD)}, PairK F kv kvs → PairK F (kv.map fun p => if p.1 = Sum.inr k then (p.1, v) else p) (kvs.map fun p => if p.1 = k then (p.1, d) else p) := by
      intro kv kvs h
      induction h with
      | nil => exact .nil
      | @cons p q _ _ a t ih =>
        refine .cons ?_ ih
        obtain ⟨a1, a2⟩ := a
        dsimp only
        by_cases hq : q.1 = k
        · rw [if_pos (show p.1 = Sum.inr k by rw [a1.1, hq]), if_pos hq]
          exact ⟨a1, hv⟩
        · rw [if_neg (fun z => hq (Sum.inr.inj (a1.1.symm.trans z))), if_neg hq]
          exact ⟨a1, a2⟩
    exact this h
/-- d[k] = v, a local dict whose keys are texts -/
@[simp] def sPutK (i : Nat) (tv tk : TED) : TSD := fun E r n => tv r n fun v r1 n1 => (∃ kvs, r1[i]? = some (some (.mu (.dK kvs)))) ∧ tk r1 n1 fun kd r2 n2 => ∃ kvs w k, r2[i]? = some (some (.mu (.dK kvs))) ∧ v = .py w ∧ kd = .py (.str k) ∧ kvs.length < sizeLine ∧ E.nx (r2.set i (some (.mu (.dK (putD kvs k w))))) n2
theorem ds_putK (i : Nat) (hu : X.A.units + 1 < cLine) (ho : PE X (.Name x px) (tVar i)) (hv : DE c X e te) (hk : DE c X a ta) (hs : swapsWith e (some (.Subscript (.Name x px) a p2)) pos.line X.env = pure false := by rfl) :
    DS c X (.Assign [.Subscript (.Name x px) a p2] e pos) (sPutK i te ta) := ⟨fun g hg => PS.imp (ps_dput hu ho (hk.run g hg) (hv.run g hg) hs) fun D s H ⟨F, r, n, E, R, p, k⟩ =>
  ⟨F, r, n, _, R, p, fun F1 d r1 n1 v H1 sb R1 rv ⟨⟨kv0, e0⟩, p1⟩ => by
    obtain ⟨q, eq, _⟩ := R1.mu e0
    refine ⟨.ref q, eq, F1, r1, n1, _, R1, p1, fun F2 kd r2 n2 kv H2 s2 R2 rk ⟨kvs, w, kk, e1, ed, ek, hl, p2⟩ => ?_⟩
    subst ed ek
    have hkk := Dz.strOk rk
    cases rk
    obtain ⟨q', eq', _, _, _, vs, h4, h5⟩ := R2.mu e1
    rw [eq] at eq'
    have := V.ref.inj (Option.some.inj (Option.some.inj eq'))
    subst this
    have hln : vs.length = kvs.length := Paired.length h5
    exact ⟨q, _, rfl, .inl ⟨vs, Sum.inr kk, h4, rfl, by rw [hln]; exact hl, rfl⟩, k.nx F2 _ n2 _ _ (sb.trans s2) (R2.write (m' := .dK (putD kvs kk w)) e1 eq ⟨_, upd_same, h5.put hkk (Dz.mono s2 rv)⟩) p2⟩⟩⟩
/-- tuple keys -/
@[simp] def keyOf : PD → Option Key
  | .int i => some (Sum.inl i)
  | .str x => some (Sum.inr x)
  | _ => none
@[simp] def keysOf : List PD → Option (List Key)
  | [] => some []
  | d :: r => (keyOf d).bind fun k => (keysOf r).map (k :: ·)
theorem keysOf_dz {F : Hp} : ∀ {vs : List V} {ds : List PD} {ks : List Key}, DzAll F vs ds → keysOf ds = some ks → vs = ks.map kV
  | _, _, _, .nil, h => by cases h; rfl
  | _, _, _, .cons (d := d) (ds := r) a t, h => by
    cases q : keysOf r with
    | none => simp [keysOf, q] at h
    | some ks =>
      rw [keysOf_dz t q]
      cases a <;> simp [keysOf, keyOf, q] at h <;> subst h <;> rfl
def lookT (kvs : List (List Key × PD)) (k : List Key) : Option PD := (kvs.find? fun p => decide (p.1 = k)).map (·.2)
theorem PairT.look {F : Hp} {x : List Key} : ∀ {kv : List (List Key × V)} {kvs : List (List Key × PD)}, PairT F kv kvs → (∀ d, lookT kvs x = some d → ∃ v, valV kv x = some v ∧ Dz F v d) ∧ (lookT kvs x = none → valV kv x = none)
  | _, _, .nil => ⟨fun d h => by simp [lookT] at h, fun _ => rfl⟩
  | _, _, .cons (a := p) (b := q) h t => by
    have ih := PairT.look (x := x) t
    obtain ⟨h1, h2⟩ := h
    by_cases hq : q.1 = x
    · have e1 : ∀ r, lookT (q :: r) x = some q.2 := fun r => by simp [lookT, List.find?_cons, hq]
      rw [e1, valV_pos (h1.trans hq)]
      exact ⟨fun d h => by cases h; exact ⟨_, rfl, h2⟩, fun h => by cases h⟩
    · have e1 : ∀ r, lookT (q :: r) x = lookT r x := fun r => by simp [lookT, List.find?_cons, hq]
      rw [e1, valV_neg (fun z => hq (h1.symm.trans z))]
      exact ih
theorem PairT.isSome {F : Hp} {x : List Key} {kv : List (List Key × V)} {kvs : List (List Key × PD)} (h : PairT F kv kvs) : (valV kv x).isSome = (lookT kvs x).isSome := by
  obtain ⟨h1, h2⟩ := h.look (x := x)
  cases q : lookT kvs x with
  | none => rw [h2 q]; rfl
  | some d => obtain ⟨v, e, _⟩ := h1 d q; rw [e]; rfl
def putT (kvs : List (List Key × PD)) (k : List Key) (v : PD) : List (List Key × PD) := if (lookT kvs k).isSome then kvs.map fun p => if p.1 = k then (p.1, v) else p else kvs ++ [(k, v)]
theorem PairT.put {F : Hp} {kv : List (List Key × V)} {kvs : List (List Key × PD)} (h : PairT F kv kvs) {k : List Key} {v : V} {d : PD} (hv : Dz F v d) : PairT F (putK kv k v) (putT kvs k d) := by
  unfold putK putT
  rw [valV_any, h.isSome]
  cases q : (lookT kvs k).isSome with
  | false =>
    simp only [Bool.false_eq_true, if_false]
    have : ∀ {kv : List (List Key × V)} {kvs : List (List Key × PD)}, PairT F kv kvs → PairT F (kv ++ [(k, v)]) (kvs ++ [(k, d)]) := by
      intro kv kvs h
      induction h with
      | nil => exact .cons ⟨rfl, hv⟩ .nil
      | cons a t ih => exact .cons a ih
    exact this h
  | true =>
    simp only [if_true]
    have : ∀ {kv : List (List Key × V)} {kvs : List (List Key × PD)}, PairT F kv kvs → PairT F (kv.map fun p => if p.1 = k then (p.1, v) else p) (kvs.map fun p => if p.1 = k then (p.1, d) else p) := by
      intro kv kvs h
      induction h with
      | nil => exact .nil
      | @cons p q _ _ a t ih =>
        refine .cons ?_ ih
        obtain ⟨a1, a2⟩ := a
        dsimp only
        by_cases hq : q.1 = k
        · rw [if_pos (a1.trans hq), if_pos hq]
          exact ⟨a1, hv⟩
        · rw [if_neg (fun z => hq (a1.symm.trans z)), if_neg hq]
          exact ⟨a1, a2⟩
    exact this h
/-- the value is a tuple of numbers and texts: a key -/
theorem Dz.tupKey {F H : Hp} (u : Under F H) {v : V} {ds : List PD} {ks : List Key} (h : Dz F v (.tuple ds)) (e : keysOf ds = some ks) : ∃ b, v = .ref b ∧ H b = some (.tup (ks.map kV)) := by
  cases h with
  | @tup a xs _ e1 e2 =>
    have := keysOf_dz e2 e
    subst this
    exact ⟨a, rfl, u.tup e1⟩
@[simp] def sPutT (i : Nat) (tv tk : TED) : TSD := fun E r n => tv r n fun v r1 n1 => (∃ kvs, r1[i]? = some (some (.mu (.dT kvs)))) ∧ tk r1 n1 fun kd r2 n2 => ∃ kvs w ds k, r2[i]? = some (some (.mu (.dT kvs))) ∧ v = .py w ∧ kd = .py (.tuple ds) ∧ keysOf ds = some k ∧ kvs.length < sizeLine ∧ E.nx (r2.set i (some (.mu (.dT (putT kvs k w))))) n2
theorem ds_putT (i : Nat) (hu : X.A.units + 1 < cLine) (ho : PE X (.Name x px) (tVar i)) (hv : DE c X e te) (hk : DE c X a ta) (hs : swapsWith e (some (.Subscript (.Name x px) a p2)) pos.line X.env = pure false := by rfl) :
    DS c X (.Assign [.Subscript (.Name x px) a p2] e pos) (sPutT i te ta) := ⟨fun g hg => PS.imp (ps_dput hu ho (hk.run g hg) (hv.run g hg) hs) fun D s H ⟨F, r, n, E, R, p, k⟩ =>
  ⟨F, r, n, _, R, p, fun F1 d r1 n1 v H1 sb R1 rv ⟨⟨kv0, e0⟩, p1⟩ => by
    obtain ⟨q, eq, _⟩ := R1.mu e0
    refine ⟨.ref q, eq, F1, r1, n1, _, R1, p1, fun F2 kd r2 n2 kv H2 s2 R2 rk ⟨kvs, w, ds, kk, e1, ed, ek, eks, hl, p2⟩ => ?_⟩
    subst ed ek
    obtain ⟨b, rfl, hb⟩ := Dz.tupKey R2.bas.und rk eks
    obtain ⟨q', eq', _, _, _, vs, h4, h5⟩ := R2.mu e1
    rw [eq] at eq'
    have := V.ref.inj (Option.some.inj (Option.some.inj eq'))
    subst this
    have hln : vs.length = kvs.length := Paired.length h5
    exact ⟨q, _, rfl, .inr ⟨vs, kk, b, h4, rfl, hb, by rw [hln]; exact hl, rfl⟩, k.nx F2 _ n2 _ _ (sb.trans s2) (R2.write (m' := .dT (putT kvs kk w)) e1 eq ⟨_, upd_same, h5.put (Dz.mono s2 rv)⟩) p2⟩⟩⟩
/-- k in d, a local dict with tuple keys -/
@[simp] def dInT (i : Nat) (neg : Bool) (tk : TED) : TED := fun r n P => tk r n fun kd r1 n1 => ∃ kvs ds k, r1[i]? = some (some (.mu (.dT kvs))) ∧ kd = .py (.tuple ds) ∧ keysOf ds = some k ∧ P (.py (.bool (if neg then !(lookT kvs k).isSome else (lookT kvs k).isSome))) r1 n1
theorem lift_inT (neg : Bool) (g : G) {s : L2.St} {H : Hp} {Q : VK} : lift g (dInT i neg ta) s H Q → lift g ta s H fun y H1 => tVar i s H1 fun x H2 => ∃ a o, x = .ref a ∧ DGet H2 a y o ∧ Q (.bl (if neg then !o.isSome else o.isSome)) H2 := fun ⟨F, r, n, P, R, p, k⟩ =>
  ⟨F, r, n, _, R, p, fun F1 d r1 n1 v H1 s1 R1 rv ⟨kvs, ds, kk, e1, ed, ek, p3⟩ => by
    subst ed
    obtain ⟨b, rfl, hb⟩ := Dz.tupKey R1.bas.und rv ek
    obtain ⟨q, eq, _, _, _, vs, h4, h5⟩ := R1.mu e1
    refine ⟨.ref q, eq, q, valV vs kk, rfl, .inr ⟨vs, kk, b, .inl h4, rfl, hb, rfl⟩, ?_⟩
    rw [h5.isSome]
    exact k.py s1 R1 (.bl _) p3⟩
theorem dt_inT (i : Nat) (hu : X.A.units + 1 < cLine) (h1 : DE c X a ta) (ho : PE X (.Name x px) (tVar i)) (hm : behindInMarks .In (.Name x px) = false := by rfl) : DT c X (.Compare a [.In] [.Name x px] pos) (tBD (dInT i false ta)) := ⟨fun g hg => PT.imp (pt_cmp (pc_din hu (h1.run g hg) ho) hm) fun _ _ _ h => lift_inT false g (lift_tb g h)⟩
theorem dt_notInT (i : Nat) (hu : X.A.units + 1 < cLine) (h1 : DE c X a ta) (ho : PE X (.Name x px) (tVar i)) (hm : behindInMarks .NotIn (.Name x px) = false := by rfl) : DT c X (.Compare a [.NotIn] [.Name x px] pos) (tBD (dInT i true ta)) := ⟨fun g hg => PT.imp (pt_cmp (pc_dnotin hu (h1.run g hg) ho) hm) fun _ _ _ h => lift_inT true g (lift_tb g h)⟩
/-- d[k] of such a dict -/
@[simp] def dGetT (i : Nat) (tk : TED) : TED := fun r n P => (∃ kvs, r[i]? = some (some (.mu (.dT kvs)))) ∧ tk r n fun kd r1 n1 => ∃ kvs ds k w, r1[i]? = some (some (.mu (.dT kvs))) ∧ kd = .py (.tuple ds) ∧ keysOf ds = some k ∧ lookT kvs k = some w ∧ P (.py w) r1 n1
theorem de_getT (i : Nat) (hu : X.A.units + 1 < cLine) (ho : PE X (.Name x px) (tVar i)) (h2 : DE c X b tb) (hs : NoSl b := by intro _ _; rfl) : DE c X (.Subscript (.Name x px) b pos) (dGetT i tb) := ⟨fun g hg => PE.imp (pe_dget hu ho (h2.run g hg) hs) fun s H Q ⟨F, r, n, P, R, ⟨⟨kv0, e0⟩, p⟩, k⟩ => by
  obtain ⟨q, eq, _⟩ := R.mu e0
  refine ⟨.ref q, eq, F, r, n, _, R, p, fun F1 d r1 n1 v H1 s1 R1 rv ⟨kvs, ds, kk, w, e1, ed, ek, hl, p3⟩ => ?_⟩
  subst ed
  obtain ⟨b, rfl, hb⟩ := Dz.tupKey R1.bas.und rv ek
  obtain ⟨q', eq', _, _, _, vs, h4, h5⟩ := R1.mu e1
  rw [eq] at eq'
  have := V.ref.inj (Option.some.inj (Option.some.inj eq'))
  subst this
  obtain ⟨u, g1, g2⟩ := (h5.look (x := kk)).1 w hl
  exact ⟨q, u, rfl, .inr ⟨vs, kk, b, .inl h4, rfl, hb, g1.symm⟩, k.py s1 R1 g2 p3⟩⟩
/-- d.get(k) -/
@[simp] def dGet1T (i : Nat) (tk : TED) : TED := fun r n P => (∃ kvs, r[i]? = some (some (.mu (.dT kvs)))) ∧ tk r n fun kd r1 n1 => ∃ kvs ds k, r1[i]? = some (some (.mu (.dT kvs))) ∧ kd = .py (.tuple ds) ∧ keysOf ds = some k ∧ P (.py ((lookT kvs k).getD .none)) r1 n1
theorem de_get1T (i : Nat) {apos cpos : Pos} (hu : X.A.units + 1 < cLine) (ho : PE X (.Name x px) (tVar i)) (h2 : DE c X b tb) (m : M1 X (.Name x px) "get" apos b cpos) : DE c X (.Call (.Attribute (.Name x px) "get" apos) [b] [] cpos) (dGet1T i tb) := ⟨fun g hg => PE.imp (pe_dget1 hu ho (h2.run g hg) m) fun s H Q ⟨F, r, n, P, R, ⟨⟨kv0, e0⟩, p⟩, k⟩ => by
  obtain ⟨q, eq, _, _, _, vs0, h40, _⟩ := R.mu e0
  refine ⟨.ref q, eq, q, rfl, .inr ⟨vs0, .inl h40⟩, F, r, n, _, R, p, fun F1 d r1 n1 v H1 s1 R1 rv ⟨kvs, ds, kk, e1, ed, ek, p3⟩ => ?_⟩
  subst ed
  obtain ⟨b, rfl, hb⟩ := Dz.tupKey R1.bas.und rv ek
  obtain ⟨q', eq', _, _, _, vs, h4, h5⟩ := R1.mu e1
  rw [eq] at eq'
  have := V.ref.inj (Option.some.inj (Option.some.inj eq'))
  subst this
  refine ⟨valV vs kk, .inr ⟨vs, kk, b, .inl h4, rfl, hb, rfl⟩, ?_⟩
  cases hl : lookT kvs kk with
  | none =>
    rw [(h5.look (x := kk)).2 hl]
    rw [hl] at p3
    exact k.py s1 R1 .non p3
  | some w =>
    obtain ⟨u, g1, g2⟩ := (h5.look (x := kk)).1 w hl
    rw [g1]
    rw [hl] at p3
    exact k.py s1 R1 g2 p3⟩
end
end K21

set_option Elab.async false
set_option linter.all false
set_option maxRecDepth 100000
set_option maxHeartbeats 4000000
/-! K21G: the text by places, what is known of a def. -/
namespace K21
open PySem PySem.Spec PyProof.Rows L2

def topS (i : Nat) : Stmt := PySem.Challenge.pw_objections_k21_whole_odd_rings.main.body.getD i (.Pass ⟨0, 0, 0, 0⟩)
/-- the def of the text st stands at its name -/
structure DefAt (K : PySem.W.Frag) (mg : Str → Option Value) (x : Str) (st : Stmt) : Prop where
  ex : ∃ f fd, Fun K x x st f fd ∧ mg x = some (.ref f)
/-- the built-ins' names are no one else's -/
structure Bn (mg : Str → Option Value) : Prop where
  len : mg "len" = none
  isinstance : mg "isinstance" = none
  sorted : mg "sorted" = none
  all : mg "all" = none
  any : mg "any" = none
  list : mg "list" = none
  tuple : mg "tuple" = none
  int : mg "int" = none
  str : mg "str" = none
  bool : mg "bool" = none
  dict : mg "dict" = none
  repr : mg "repr" = none
  set : mg "set" = none
  enumerate : mg "enumerate" = none
  zip : mg "zip" = none
  range : mg "range" = none
/-- the def keeps its promise -/
structure OkD (P : Program) (w : World) (K : PySem.W.Frag) (mg : Str → Option Value) (base : Heap) (c : Cst) (x : Str) (ps : List Str) (k : Nat) (pre : List DV → Nat → Prop) (post : List DV → Nat → DV → Nat → Prop) : Prop where
  ex : ∃ f fd, mg x = some (.ref f) ∧ PySem.W.keepIn K (.ref f) = true ∧ Binds K fd ps [] ∧ FnOk P w K mg base CX0 k f fd ps (prom c pre post)
theorem ok_def {P : Program} {w : World} {K : PySem.W.Frag} {mg : Str → Option Value} {base : Heap} {c : Cst} {pre : List DV → Nat → Prop} {post : List DV → Nat → DV → Nat → Prop} {x : Str} {st : Stmt} {N ps : List Str} {k : Nat} (D : DefAt K mg x st)
    (hb : ∀ (kV doc pm : Value) (an : Option Addr) (cdv ct : Value) (us : List Value), us.length = ps.length → bindArgs (PySem.W.fnOf x x (defArgs st) (defBody st) (defScope st) .none kV doc pm an cdv ct) ⟨us, []⟩ = pure (ps.zip us))
    (S : FnScope N ps (defScope st)) (hlen : ∀ ds n, pre ds n → ds.length = ps.length)
    (hbody : ∀ (f : Addr) (cdv : Value) (A : Around) (outer : List Env) (s : Shared) (H : Hp) (E : XK), Room k (A.deeper (envOfC x (defScope st) s.heap.objs.size f cdv)) →
      ∃ t, DSs c (cxOf CX0 P w K mg base N x (defScope st) f cdv A outer s H E).nox (defBody st) t ∧ ∀ ds n, pre ds n → t { nx := fun _ n' => post ds n (.py .none) n', rt := fun d n' => post ds n d n' } (startD N ds) n) :
    OkD P w K mg base c x ps (k + 1) pre post := by
  obtain ⟨f, fd, F, m⟩ := D.ex
  exact ⟨f, fd, m, F.kp, F.binds hb, ok_of F S hlen (hbody f)⟩
section
variable {X : Cx} {c : Cst} {pre : List DV → Nat → Prop} {post : List DV → Nat → DV → Nat → Prop} {k j : Nat} {ps : List Str} {x : Str} {p pos : Pos} {e : Expr} {es : List Expr} {tas : TAD}
theorem de_ok (O : OkD X.prog X.w X.K X.mg X.base c x ps k pre post) (hr : Room j X.A) (hj : k ≤ j) (hg : Gl X x) (ha : DA c X (e :: es) tas) (hdb : (x == ("__debug__" : Str)) = false := by decide) (he : starEach (e :: es) X.env = (false, eval e X.env) :: starEach es X.env := by rfl) (hpl : (backTo pos (starEach es X.env)).any (·.1) = false := by rfl) :
    DE c X (.Call (.Name x p) (e :: es) [] pos) (dCall pre post tas) := by
  obtain ⟨f, fd, m, kp, b, F⟩ := O.ex
  exact de_call F (hr.mono hj) hg m kp b pass0 ha hdb he hpl
end
/-- a promise of a value: the answer is what f says -/
def pv1 (f : List DV → DV) : List DV → Nat → DV → Nat → Prop := fun ds n d n' => d = f ds ∧ n' = n
theorem hu64 {k : Nat} {A : Around} (r : Room k A) : A.units + 64 < cLine := r.units
theorem hu65 {k : Nat} {A : Around} (r : Room k A) : A.units + 65 < cLine := by have := r.un; omega
theorem hu1 {k : Nat} {A : Around} (r : Room k A) : A.units + 1 < cLine := by have := r.un; omega
end K21

set_option Elab.async false
set_option linter.all false
set_option maxRecDepth 100000
set_option maxHeartbeats 4000000
/-! K21H: enumerate, zip, a text's signs, locked dicts; comprehensions that are stored; more tests. -/
namespace K21
open PySem PySem.Spec PyProof.Rows L2

/-! ### enumerate of a tuple -/
section
open AutoSeq1 (wpAny_loadPart')
theorem enumT_new (tp : Addr) (items : Array Value) (k : Nat) (dct : Option Addr) (sl : Array (Option Value)) :
    Meets (Builtin.«enumerate.__new__» ⟨[.type "enumerate", .ref tp], []⟩) (fun _ R sh => sh.heap.get? tp = some { cls := .type "tuple", dict := dct, data := .seq items k, slots := sl } ∧
      R (.ok (.ret (.ref (sh.heap.push { cls := .type "tuple_iterator", data := .fields #[.ref tp, .int 0 0] }).objs.size)))
        { sh with heap := (sh.heap.push { cls := .type "tuple_iterator", data := .fields #[.ref tp, .int 0 0] }).push { cls := .type "enumerate", data := .fields #[.none, .bool false, .ref sh.heap.objs.size, rawInt 0, .none, .none] } }) :=
  .of_wp fun prog w A R sh h => by
    obtain ⟨hq, gg, dd, tq, oo⟩ := sh
    obtain ⟨ht, h⟩ := h
    have hsb := sub_enumerate
    have hT : Heap.IsTuple (Shared.heap ⟨hq, gg, dd, tq, oo⟩) tp items := ⟨_, ht, rfl, k, rfl⟩
    wp_walk using wpAny_loadPart' ht
    refine wpAny_stack_any fun st => (wpAny_pure ?_)
    split
    · rename_i cc _ _ _ _ _
      cases (cc == Value.type "enumerate")
      · wp_walk using wpAny_loadPart' ht, wpAny_pyIter_tuple hT
        exact ⟨_, rfl, h⟩
      · wp_walk using wpAny_loadPart' ht, wpAny_pyIter_tuple hT
        exact ⟨_, rfl, h⟩
    · wp_walk using wpAny_loadPart' ht, wpAny_pyIter_tuple hT
      exact ⟨_, rfl, h⟩
theorem call_enumT {prog : Program} {w : World} {A : Around} {E : Value → Shared → Prop} {sh : Shared} {tp : Addr} {items : Array Value} {Q : Value → Shared → Prop} (ht : sh.heap.IsTuple tp items)
    (h : ∀ h', IsEnum h' (sh.heap.objs.size + 1) sh.heap.objs.size 0 .none → h'.IsTupleIter sh.heap.objs.size tp 0 → (∀ b o, sh.heap.get? b = some o → h'.get? b = some o) → Q (.ref (sh.heap.objs.size + 1)) { sh with heap := h' }) :
    wpAny (model prog w) A (call (.type "enumerate") [.ref tp]) Q E sh := by
  obtain ⟨⟨cc, dct, dt, sl⟩, hl, hc, k, hd⟩ := ht
  replace hc : cc = .type "tuple" := hc
  replace hd : dt = .seq items k := hd
  subst hc hd
  have hz : (sh.heap.push { cls := .type "tuple_iterator", data := .fields #[.ref tp, .int 0 0] }).objs.size = sh.heap.objs.size + 1 := Heap.size_push ..
  refine callType_new F.called_enumerate (by decide) (F.typeCall_enumerate_1 _) (F.newCall_enumerate_1 _) (fun ob => F.args_object_init_2 ob _) F.entry_enumerate_new (enumT_new tp items k dct sl) ⟨hl, ?_⟩
  show (_ : Prop) ∧ _
  rw [hz]
  have hen : IsEnum ((sh.heap.push { cls := .type "tuple_iterator", data := .fields #[.ref tp, .int 0 0] }).push { cls := .type "enumerate", data := .fields #[.none, .bool false, .ref sh.heap.objs.size, rawInt 0, .none, .none] }) (sh.heap.objs.size + 1) sh.heap.objs.size 0 .none := by
    have q := Heap.get?_push_size (sh.heap.push { cls := .type "tuple_iterator", data := .fields #[.ref tp, .int 0 0] }) (o := { cls := .type "enumerate", data := .fields #[.none, .bool false, .ref sh.heap.objs.size, rawInt 0, .none, .none] }) rfl
    rw [hz] at q
    exact q
  exact ⟨⟨_, hen, rfl⟩, h _ hen ⟨_, Heap.get?_push_of_some _ (Heap.get?_push_size _ rfl), rfl, rfl⟩ fun b o x => Heap.get?_push_of_some _ (Heap.get?_push_of_some _ x)⟩
end
/-- the tuple at a, each item in a new pair -/
def IteT (K : PySem.W.Frag) (a : Addr) : It :=
  ⟨fun i H => ∃ (xs : List V) (x : V), SqT K H a xs ∧ xs[i]? = some x, fun i H v H' => ∃ T x, v = .ref T ∧ H T = none ∧ H' = upd H T (.tup [.int (i : Nat), x]) ∧ ∀ xs, SqT K H a xs → xs[i]? = some x, fun i H => ∃ xs : List V, SqT K H a xs ∧ xs.length = i⟩
theorem turn_enumT {P : Program} {w : World} {K : PySem.W.Frag} {elts : List Expr} {kk : Nat} {tpos : Pos} (a en it : Addr) :
    Turn P w K (.Tuple elts kk tpos) (IteT K a) [en, it] en (fun i h => (∃ old, IsEnum h en it ((i : Nat) : Int) old) ∧ h.IsTupleIter it a i ∧ en ≠ it ∧ a ≠ it ∧ a ≠ en) where
  mem := List.mem_cons_self
  obj := fun i h ⟨⟨old, he⟩, ⟨o, ho, _, hd⟩, _⟩ b hb => by
    rcases (show b = en ∨ b = it by simpa using hb) with rfl | rfl
    · exact ⟨_, he, fun v z => by cases z⟩
    · exact ⟨o, ho, fun v z => by rw [hd] at z; cases z⟩
  keep := fun i h h' ⟨⟨old, he⟩, hi, ne⟩ kp => ⟨⟨old, kp en (by simp) _ he⟩, hi.at fun o q => kp it (by simp) o q, ne⟩
  item := by
    intro X hP hw hK hc i pins sh σ H E I hf st hg
    subst hP hw hK
    obtain ⟨⟨old, he⟩, hit, n1, n2, n3⟩ := st
    obtain ⟨xs, x, hq, hx⟩ := hg
    obtain ⟨us, rv, hT, _⟩ := I.tuple hq
    obtain ⟨u, hu, ru⟩ := rv.get hx
    have szE : en < sh.heap.objs.size := Heap.lt_size he
    have szI : it < sh.heap.objs.size := by
      obtain ⟨_, q, _⟩ := hit
      exact Heap.lt_size q
    have hlt : i < us.toArray.size := by
      have := (List.getElem?_eq_some_iff.mp hu).1
      simpa using this
    refine wpAny_pyNext_enum_itemD (Draws.tuple (A := X.A.in1) (I.ok.hd hc) it a n2 us.toArray) he ⟨hit, hT⟩ hlt n1 (by simp [n1, Ne.symm n3]) fun y h1 tk hy ho hit' ht hz kp => ?_
    have ey : y = u := by
      have hy' : us.toArray[i]? = some y := hy
      rw [show us.toArray[i]? = us[i]? by simp, hu] at hy'
      exact (Option.some.inj hy').symm
    subst ey
    refine ⟨_, rfl, wpAny_letOwnedTupleGo_enum (s := { sh with heap := h1, toks := tk + 1 }) ho fun h2 he2 sb => ?_⟩
    have ht2 : h2.get? sh.heap.objs.size = some { cls := .type "tuple", data := .seq #[.int i tk, y] } := (sb.2 _ (Nat.ne_of_gt szE)).trans ht
    have made : ObjOk X.prog X.w (upd H sh.heap.objs.size (.tup [.int (i : Nat), x])) h2 sh.heap.objs.size (.tup [.int (i : Nat), x]) :=
      ⟨(by decide : 2 ≤ sizeLine), [.int i tk, y], .cons ⟨tk, rfl⟩ (.cons ru .nil), ⟨_, ht2, rfl, _, rfl⟩⟩
    have I1 : Inv X pins σ (upd H sh.heap.objs.size (.tup [.int (i : Nat), x])) { sh with heap := h2, toks := tk + 1 } :=
      I.turnedNew (ch := [en, it]) (fun b ob nb q => (sb.2 b (fun z => nb (by simp [z]))).trans (kp b ob (fun z => nb (by simp [z])) (fun z => nb (by simp [z])) q)) hf (Nat.le_refl _) made
    refine ⟨.ref sh.heap.objs.size, _, I1, rfl, ⟨_, x, rfl, I.hok.fresh (Nat.le_refl _), rfl, fun ys hy => by rw [I.tuple_inj hy hq]; exact hx⟩, ⟨⟨y, ?_⟩, hit'.1.at fun o q => (sb.2 it (Ne.symm n1)).trans q, n1, n2, n3⟩, fun b hb => ?_⟩
    · have e1 : ((i + 1 : Nat) : Int) = (i : Int) + 1 := Int.natCast_succ i
      rw [e1]
      exact he2
    · have hlb : b < sh.heap.objs.size := by
        rcases (show b = en ∨ b = it by simpa using hb) with rfl | rfl
        · exact szE
        · exact szI
      rw [upd_ne (Nat.ne_of_lt hlb)]
      exact (hf b hb).1
  done := by
    intro X hP hw hK hc i pins sh σ H E I hf st hg
    subst hP hw hK
    obtain ⟨⟨old, he⟩, hit, n1, n2, n3⟩ := st
    obtain ⟨xs, hq, hx⟩ := hg
    obtain ⟨us, rv, hT, _⟩ := I.tuple hq
    obtain ⟨f0, f1, f2, f3, f4, f5⟩ := hf it (by simp)
    have hln := rv.length
    have szE : us.toArray.size = i := by simp only [List.size_toArray]; omega
    refine wpAny_pyNext_enum_endD (Draws.tuple (A := X.A.in1) (I.ok.hd hc) it a n2 us.toArray) he (by rw [szE]; exact ⟨hit, hT⟩) fun h1 eb => ⟨rfl, I.turned (t' := sh.toks) (fun b o nb q => eb b o nb q) f0 f1 f3 f4 f5⟩
  self := fun _ _ _ _ _ st h => wpAny_pyIter_enum st.1.choose_spec h
def iEnumA (K : PySem.W.Frag) (ta : TA) : TI := fun σ H R => ta σ H fun vs H1 => ∃ a xs, vs = [.ref a] ∧ ((SqL K H1 a xs ∧ R (Ite K a) H1) ∨ (SqT K H1 a xs ∧ R (IteT K a) H1))
theorem pi_enumA {X : Cx} {e : Expr} {ta : TA} {p pos tpos : Pos} {elts : List Expr} {kk : Nat} (hg : Gl X "enumerate") (hm : X.mg "enumerate" = none) (ha : PA X [e] ta) (hs : starEach [e] X.env = [(false, eval e X.env)] := by rfl) :
    PI X (.Tuple elts kk tpos) (.Call (.Name "enumerate" p) [e] [] pos) (iEnumA X.K ta) := by
  refine ⟨fun pins sh σ H R I h => ?_⟩
  refine Call_ (ld_blt I hg hm boot_enumerate (PyProof.Rows.callWith_type1 (thn (ha.run pos pins sh σ H _ I h) fun us s1 ⟨vs, H1, I1, rr, q1⟩ => ?_) hs rfl))
  obtain ⟨a, xs, ex, q⟩ := q1
  subst ex
  obtain rfl := Vals.ref1 rr
  have frs2 : ∀ b, b ∈ [s1.heap.objs.size + 1, s1.heap.objs.size] → FpOk X pins H1 b := fun b hb => by
    have hle : s1.heap.objs.size ≤ b := by
      rcases (show b = s1.heap.objs.size + 1 ∨ b = s1.heap.objs.size by simpa using hb) with z | z
      · rw [z]; exact Nat.le_succ _
      · rw [z]; exact Nat.le_refl _
    exact I1.fpOk hle (I1.hok.fresh hle)
  rcases q with ⟨hq, q⟩ | ⟨hq, q⟩
  · obtain ⟨us, rv, pl, _⟩ := I1.list hq
    refine call_enumerate_list pl.isList fun h2 he hit _ hk => wpAny_pyIter_enum he ?_
    have J : Inv X pins σ H1 { s1 with heap := h2 } := I1.kept (t' := s1.toks) hk
    exact ⟨s1.heap.objs.size + 1, [s1.heap.objs.size + 1, s1.heap.objs.size], _, _, H1, rfl, J, turn_enum a (s1.heap.objs.size + 1) s1.heap.objs.size, ⟨⟨Value.none, he⟩, hit, Nat.succ_ne_self _⟩, frs2, q⟩
  · obtain ⟨us, rv, ht, _⟩ := I1.tuple hq
    have hla : a < s1.heap.objs.size := ht.lt
    refine call_enumT (show s1.heap.IsTuple a us.toArray from ht) fun h2 he hit hk => wpAny_pyIter_enum he ?_
    have J : Inv X pins σ H1 { s1 with heap := h2 } := I1.kept (t' := s1.toks) hk
    exact ⟨s1.heap.objs.size + 1, [s1.heap.objs.size + 1, s1.heap.objs.size], _, _, H1, rfl, J, turn_enumT a (s1.heap.objs.size + 1) s1.heap.objs.size, ⟨⟨Value.none, he⟩, hit, Nat.succ_ne_self _, Nat.ne_of_lt hla, Nat.ne_of_lt (Nat.lt_succ_of_lt hla)⟩, frs2, q⟩

/-! ### sources -/
section
variable {X : Cx} {c : Cst} {e a b : Expr} {te ta tb : TED} {p pos tpos : Pos} {elts : List Expr} {kk : Nat}
def enumD (ds : List PD) : List PD := ds.mapIdx fun i d => .tuple [.int (i : Nat), d]
theorem enumD_get (ds : List PD) (i : Nat) : (enumD ds)[i]? = (ds[i]?).map fun d => .tuple [.int (i : Nat), d] := by simp [enumD]
@[simp] def iEnumD (t : TED) : TSrc := fun r n P => t r n fun d r1 n1 => ∃ ds, seqOf d = some ds ∧ P (enumD ds) r1 n1
theorem srcV_enum {K : PySem.W.Frag} {F0 : Hp} {a : Addr} {xs : List V} {ds : List PD} (e : F0 a = some (.lst xs)) (h : DzAll F0 xs ds) : SrcV (fun F2 _ => SubH F0 F2) (Ite K a) (enumD ds) := fun F H sb u => by
  have hq : SqL K H a xs := .of (u.lst (sb _ _ e))
  have hl := h.length
  have hl2 : (enumD ds).length = ds.length := by simp [enumD]
  refine ⟨fun i hi => ⟨xs, xs[i]'(by omega), hq, List.getElem?_eq_getElem _⟩, fun i hi => ⟨xs, hq, by omega⟩, fun i x H' d hd y => .inr ?_⟩
  obtain ⟨T, v, rfl, hT, rfl, y⟩ := y
  rw [enumD_get] at hd
  cases q : ds[i]? with
  | none => rw [q] at hd; cases hd
  | some d' =>
    rw [q] at hd
    cases hd
    obtain ⟨v', h1, h2⟩ := h.get q
    have := y xs hq
    rw [h1] at this
    cases this
    exact ⟨T, _, _, rfl, hT, rfl, .cons (.int _) (.cons (h2.mono sb) .nil), rfl⟩
theorem srcV_enumT {K : PySem.W.Frag} {F0 : Hp} {a : Addr} {xs : List V} {ds : List PD} (e : F0 a = some (.tup xs)) (h : DzAll F0 xs ds) : SrcV (fun F2 _ => SubH F0 F2) (IteT K a) (enumD ds) := fun F H sb u => by
  have hq : SqT K H a xs := .of (u.tup (sb _ _ e))
  have hl := h.length
  have hl2 : (enumD ds).length = ds.length := by simp [enumD]
  refine ⟨fun i hi => ⟨xs, xs[i]'(by omega), hq, List.getElem?_eq_getElem _⟩, fun i hi => ⟨xs, hq, by omega⟩, fun i x H' d hd y => .inr ?_⟩
  obtain ⟨T, v, rfl, hT, rfl, y⟩ := y
  rw [enumD_get] at hd
  cases q : ds[i]? with
  | none => rw [q] at hd; cases hd
  | some d' =>
    rw [q] at hd
    cases hd
    obtain ⟨v', h1, h2⟩ := h.get q
    have := y xs hq
    rw [h1] at this
    cases this
    exact ⟨T, _, _, rfl, hT, rfl, .cons (.int _) (.cons (h2.mono sb) .nil), rfl⟩
theorem di_enum (hg : Gl X "enumerate") (hm : X.mg "enumerate" = none) (h : DE c X e te) (hs : starEach [e] X.env = [(false, eval e X.env)] := by rfl) (hs2 : starEach (e :: []) X.env = (false, eval e X.env) :: starEach [] X.env := by rfl) : DI c X (.Tuple elts kk tpos) (.Call (.Name "enumerate" p) [e] [] pos) (iEnumD te) :=
  ⟨fun g hgc => PI.imp (pi_enumA hg hm (pa_cons (h.run g hgc) pa_nil hs2) hs) fun s H R ⟨F, r, n, P, Rl, q, k⟩ => ⟨F, r, n, _, Rl, q, fun F1 d r1 n1 v H1 s1 R1 rv ⟨ds, ed, p1⟩ => by
    cases d with
    | py d =>
      cases rv with
      | lst f1 f2 => cases ed; exact ⟨_, _, rfl, .inl ⟨.of (R1.bas.und.lst f1), k F1 _ r1 n1 _ H1 s1 R1 (srcV_enum f1 f2).wk p1⟩⟩
      | tup f1 f2 => cases ed; exact ⟨_, _, rfl, .inr ⟨.of (R1.bas.und.tup f1), k F1 _ r1 n1 _ H1 s1 R1 (srcV_enumT f1 f2).wk p1⟩⟩
      | _ => cases ed
    | _ => cases ed⟩⟩
def zipD : List PD → List PD → List PD
  | x :: xs, y :: ys => .tuple [x, y] :: zipD xs ys
  | _, _ => []
theorem zipD_get : ∀ (xs ys : List PD) (i : Nat), (zipD xs ys)[i]? = (xs[i]?).bind fun x => (ys[i]?).map fun y => .tuple [x, y]
  | [], _, i => by simp [zipD]
  | x :: xs, [], i => by simp [zipD]
  | x :: xs, y :: ys, 0 => by simp [zipD]
  | x :: xs, y :: ys, i + 1 => by simp only [zipD, List.getElem?_cons_succ]; exact zipD_get xs ys i
theorem zipD_len : ∀ xs ys : List PD, (zipD xs ys).length = min xs.length ys.length
  | [], _ => by simp [zipD]
  | x :: xs, [] => by simp [zipD]
  | x :: xs, y :: ys => by simp only [zipD, List.length_cons, zipD_len xs ys]; omega
/-- both lists, or both tuples -/
@[simp] def iZipD (t u : TED) : TSrc := fun r n P => t r n fun d r1 n1 => u r1 n1 fun d2 r2 n2 => ∃ xs ys, ((d = .py (.list xs) ∧ d2 = .py (.list ys)) ∨ (d = .py (.tuple xs) ∧ d2 = .py (.tuple ys))) ∧ P (zipD xs ys) r2 n2
theorem di_zip (hg : Gl X "zip") (hm : X.mg "zip" = none) (h1 : DE c X a ta) (h2 : DE c X b tb) (hs : starEach (a :: [b]) X.env = (false, eval a X.env) :: starEach [b] X.env := by rfl) (hs2 : starEach (b :: []) X.env = (false, eval b X.env) :: starEach [] X.env := by rfl) (hpl : (backTo pos (starEach [b] X.env)).any (·.1) = false := by rfl) :
    DI c X (.Tuple elts kk tpos) (.Call (.Name "zip" p) [a, b] [] pos) (iZipD ta tb) :=
  ⟨fun g hgc => PI.imp (RZ.pi_zipA hg hm (pa_cons (h1.run g hgc) (pa_cons (h2.run g hgc) pa_nil hs2) hs) hs hpl) fun s H R ⟨F, r, n, P, Rl, q, k⟩ => ⟨F, r, n, _, Rl, q, fun F1 d r1 n1 v H1 s1 R1 rv p1 => ⟨F1, r1, n1, _, R1, p1, fun F2 d2 r2 n2 v2 H2 s2 R2 rv2 ⟨xs, ys, ed, p2⟩ => by
    rcases ed with ⟨rfl, rfl⟩ | ⟨rfl, rfl⟩
    · have rv' : Dz F2 v (.list xs) := Dz.mono s2 rv
      cases rv' with
      | @lst a1 us _ e1 f1 =>
        cases rv2 with
        | @lst a2 ws _ e2 f2 =>
          refine ⟨a1, a2, us, ws, rfl, .inl ⟨.of (R2.bas.und.lst e1), .of (R2.bas.und.lst e2), k F2 _ r2 n2 _ H2 (s1.trans s2) R2 (SrcV.wk fun F H sb u => ?_) p2⟩⟩
          have q1 : SqL X.K H a1 us := .of (u.lst (sb _ _ e1))
          have q2 : SqL X.K H a2 ws := .of (u.lst (sb _ _ e2))
          have l1 := f1.length
          have l2 := f2.length
          have lz := zipD_len xs ys
          refine ⟨fun i hi => ⟨us, ws, us[i]'(by omega), ws[i]'(by omega), q1, q2, List.getElem?_eq_getElem _, List.getElem?_eq_getElem _⟩, fun i hi => ⟨us, ws, q1, q2, by omega⟩, fun i x H' d hd y => .inr ?_⟩
          obtain ⟨T, x1, x2, rfl, hT, rfl, y1, y2⟩ := y
          rw [zipD_get] at hd
          cases g1 : xs[i]? with
          | none => rw [g1] at hd; cases hd
          | some dx =>
            cases g2 : ys[i]? with
            | none => rw [g1, g2] at hd; cases hd
            | some dy =>
              rw [g1, g2] at hd
              cases hd
              obtain ⟨v1, k1, k2⟩ := f1.get g1
              obtain ⟨v2, k3, k4⟩ := f2.get g2
              have t1 := y1 us q1
              have t2 := y2 ws q2
              rw [k1] at t1
              rw [k3] at t2
              cases t1; cases t2
              exact ⟨T, _, _, rfl, hT, rfl, .cons (k2.mono sb) (.cons (k4.mono sb) .nil), rfl⟩
    · have rv' : Dz F2 v (.tuple xs) := Dz.mono s2 rv
      cases rv' with
      | @tup a1 us _ e1 f1 =>
        cases rv2 with
        | @tup a2 ws _ e2 f2 =>
          refine ⟨a1, a2, us, ws, rfl, .inr ⟨.of (R2.bas.und.tup e1), .of (R2.bas.und.tup e2), k F2 _ r2 n2 _ H2 (s1.trans s2) R2 (SrcV.wk fun F H sb u => ?_) p2⟩⟩
          have q1 : SqT X.K H a1 us := .of (u.tup (sb _ _ e1))
          have q2 : SqT X.K H a2 ws := .of (u.tup (sb _ _ e2))
          have l1 := f1.length
          have l2 := f2.length
          have lz := zipD_len xs ys
          refine ⟨fun i hi => ⟨us, ws, us[i]'(by omega), ws[i]'(by omega), q1, q2, List.getElem?_eq_getElem _, List.getElem?_eq_getElem _⟩, fun i hi => ⟨us, ws, q1, q2, by omega⟩, fun i x H' d hd y => .inr ?_⟩
          obtain ⟨T, x1, x2, rfl, hT, rfl, y1, y2⟩ := y
          rw [zipD_get] at hd
          cases g1 : xs[i]? with
          | none => rw [g1] at hd; cases hd
          | some dx =>
            cases g2 : ys[i]? with
            | none => rw [g1, g2] at hd; cases hd
            | some dy =>
              rw [g1, g2] at hd
              cases hd
              obtain ⟨v1, k1, k2⟩ := f1.get g1
              obtain ⟨v2, k3, k4⟩ := f2.get g2
              have t1 := y1 us q1
              have t2 := y2 ws q2
              rw [k1] at t1
              rw [k3] at t2
              cases t1; cases t2
              exact ⟨T, _, _, rfl, hT, rfl, .cons (k2.mono sb) (.cons (k4.mono sb) .nil), rfl⟩⟩⟩⟩
/-- the signs of a text -/
def signsD (x : Str) : List PD := x.cps.toList.map fun q => .str ⟨#[q]⟩
@[simp] def iStrD (t : TED) : TSrc := fun r n P => t r n fun d r1 n1 => ∃ x, d = .py (.str x) ∧ P (signsD x) r1 n1
theorem di_str {tg : Expr} (h : DE c X e te) : DI c X tg e (iStrD te) := ⟨fun g hg => PI.imp (pi_str (h.run g hg)) fun s H R ⟨F, r, n, P, Rl, p, k⟩ => ⟨F, r, n, _, Rl, p, fun F1 d r1 n1 v H1 s1 R1 rv p1 => by
  obtain ⟨x, rfl, p1⟩ := p1
  have hx := Dz.strOk rv
  cases rv
  refine ⟨x, rfl, k F1 _ r1 n1 _ H1 s1 R1 (SrcV.wk fun F H sb u => ⟨fun i hi => ?_, fun i hi => ?_, fun i v H' d hd y => .inl ?_⟩) p1⟩
  · show i < x.cps.size
    simpa [signsD] using hi
  · show x.cps.size ≤ i
    simp [signsD] at hi
    omega
  · obtain ⟨rfl, q, hq, rfl⟩ := y
    refine ⟨rfl, ?_⟩
    simp only [signsD, List.getElem?_map, Array.getElem?_toList, hq] at hd
    cases hd
    exact .str _ (strOk_mem hx (by have := Array.mem_of_getElem? hq; simpa using this))⟩⟩
/-- a list or a tuple -/
@[simp] def iSeq (t : TED) : TSrc := fun r n P => t r n fun d r1 n1 => ∃ ds, seqOf d = some ds ∧ P ds r1 n1
end
end K21

set_option Elab.async false
set_option linter.all false
set_option maxRecDepth 100000
set_option maxHeartbeats 4000000
/-! K21I: comprehensions over a locked dict, comprehensions that are stored, more tests and operators. -/
namespace K21
open PySem PySem.Spec PyProof.Rows L2

/-! ### for k in d, d a dict that stands still -/
theorem pe_lockOr {X : Cx} {e : Expr} {t : TE} (h : PE X e t) : PE X e (fun s H Q => tLockE t s H Q ∨ t s H Q) := ⟨fun pins sh s H Q I q => q.elim ((pe_lock h).run pins sh s H Q I) (h.run pins sh s H Q I)⟩
section
variable {g : G} {F F2 H H2 : Hp} {r r2 : DEnv} {n n2 : Nat} {s : L2.St} {d : Addr} {kv : List (Key × V)} {od : Obj}
noncomputable def G.locked (g : G) (F : Hp) (r : DEnv) (s : L2.St) (H : Hp) (d : Addr) (od : Obj) (kv : List (Key × V)) : G := { g with F0 := F, H0 := strip r s (upd H d (.frz od (.dK kv))) }
theorem Rel.lock (R : Rel g F r n s H) (hd : F d = some (.dK kv)) (hH : H d = some (.dK kv)) : Rel (g.locked F r s H d od kv) F r n s (upd H d (.frz od (.dK kv))) := by
  have up : ∀ a, a ≠ d → upd H d (.frz od (.dK kv)) a = H a := fun a h => upd_ne h
  refine ⟨⟨fun a o e => ?_, .refl F, fun a o h1 h2 _ => absurd (h2.symm.trans h1) (Option.some_ne_none _), fun a o e _ _ => (strip_some e).2, fun a ps e => ⟨ps, (strip_some e).2⟩, R.bas.ntb, fun q hq => ?_, R.bas.str.keep fun a o hs e => ?_, R.bas.strF, fun a o e => ?_⟩, R.len, fun i z e => ?_, R.dis⟩
  · by_cases ha : a = d
    · subst ha
      rw [hd] at e; cases e
      exact .inr ⟨od, kv, rfl, upd_same⟩
    · rw [up a ha]; exact R.bas.und a o e
  · obtain ⟨ps, e1, e2, e3⟩ := R.bas.tab q hq
    refine ⟨ps, ?_, e2, fun pos cv hcv => ?_⟩
    · rw [up _ fun z => by rw [z, hH] at e1; cases e1]; exact e1
    · obtain ⟨cc, f1, f2⟩ := e3 pos cv hcv
      refine ⟨cc, f1, ?_⟩
      rw [up _ fun z => by rw [z, hH] at f2; unfold LamX.CodeO at f2; cases f2]; exact f2
  · rw [up a fun z => by rw [z] at hs; rw [R.bas.strF d hs] at hd; cases hd]; exact e
  · obtain ⟨⟨q, q1, q2⟩, no⟩ := R.ancS a o e
    refine ⟨?_, q1, q2⟩
    show strip r s _ a = _ ∨ ∃ od kvs, o = .dK kvs ∧ strip r s _ a = _
    rw [strip_not no] at q ⊢
    by_cases ha : a = d
    · subst ha
      rw [hH] at q
      rw [upd_same]
      rcases q with q | ⟨_, _, _, q⟩
      · cases q; exact .inr ⟨od, kv, rfl, rfl⟩
      · cases q
    · rw [upd_ne ha]; exact q
  · obtain ⟨v, e1, h⟩ := R.slot i z e
    refine ⟨v, e1, ?_⟩
    cases z with
    | dat x => cases x <;> exact h
    | mu m =>
      obtain ⟨p, rfl, h1, h2, h3, h4⟩ := h
      have np : p ≠ d := fun z => by rw [z, hd] at h1; cases h1
      exact ⟨p, rfl, h1, strip_own ⟨i, m, e, e1⟩, h3, h4.at fun o q _ => by rw [up p np]; exact q⟩
theorem Rel.unlock (R : Rel g F r n s H) (hd : F d = some (.dK kv)) (hH : H d = some (.dK kv)) (R2 : Rel (g.locked F r s H d od kv) F2 r2 n2 s H2) : H2 d = some (.frz od (.dK kv)) ∧ Rel g F2 r2 n2 s (upd H2 d (.dK kv)) := by
  have nd : ¬ owned r s d := fun z => by rw [(R.own z).1] at hd; cases hd
  have nS : ¬ InS g.S d := fun z => by rw [R.bas.strF d z] at hd; cases hd
  have k0 : (g.locked F r s H d od kv).H0 d = some (.frz od (.dK kv)) := by
    show strip r s _ d = _
    rw [strip_not nd, upd_same]
  have eL : H2 d = some (.frz od (.dK kv)) := R2.bas.fr d _ k0 (fun _ z => by cases z) nS
  have f2d : F2 d = some (.dK kv) := R2.bas.gro d _ hd
  have up : ∀ a, a ≠ d → upd H2 d (.dK kv) a = H2 a := fun a h => upd_ne h
  have free0 : ∀ a, strip r s (upd H d (.frz od (.dK kv))) a = none → g.H0 a = none := fun a h => by
    rcases strip_none h with q | q
    · exact (R.own q).2.1
    · by_cases ha : a = d
      · subst ha; rw [upd_same] at q; cases q
      · rw [upd_ne ha] at q; exact R.bas.free0 q
  refine ⟨eL, ⟨fun a o e => ?_, R.bas.gro.trans R2.bas.gro, fun a u h1 h2 h3 => ?_, fun a o e h1 h2 => ?_, fun a ps e => ?_, R2.bas.ntb, fun q hq => ?_, R2.bas.str.keep fun a o hs e => ?_, R2.bas.strF, R.bas.anc⟩, R2.len, fun i z e => ?_, R2.dis⟩
  · by_cases ha : a = d
    · subst ha
      rw [f2d] at e; cases e
      exact .inl upd_same
    · rw [up a ha]; exact R2.bas.und a o e
  · cases q : F a with
    | none => exact free0 a (R2.bas.new a u q h2 h3)
    | some o => exact R.bas.new a o h1 q (by have := R2.bas.gro a o q; rw [h2] at this; cases this; exact h3)
  · have e1 := R.bas.fr a o e h1 h2
    by_cases ha : a = d
    · subst ha
      rw [hH] at e1; cases e1
      exact upd_same
    · rw [up a ha]
      refine R2.bas.fr a o ?_ h1 h2
      show strip r s _ a = _
      rw [strip_not (fun z => by rw [(R.own z).2.1] at e; cases e), upd_ne ha]
      exact e1
  · obtain ⟨ps', e1⟩ := R.bas.frt a ps e
    have ha : a ≠ d := fun z => by rw [z, hH] at e1; cases e1
    rw [up a ha]
    refine R2.bas.frt a ps' ?_
    show strip r s _ a = _
    rw [strip_not (fun z => by rw [(R.own z).2.1] at e; cases e), upd_ne ha]
    exact e1
  · obtain ⟨ps, e1, e2, e3⟩ := R2.bas.tab q hq
    refine ⟨ps, ?_, e2, fun pos cv hcv => ?_⟩
    · rw [up _ fun z => by rw [z, eL] at e1; cases e1]; exact e1
    · obtain ⟨cc, f1, f2⟩ := e3 pos cv hcv
      refine ⟨cc, f1, ?_⟩
      rw [up _ fun z => by rw [z, eL] at f2; unfold LamX.CodeO at f2; cases f2]; exact f2
  · rw [up a fun z => nS (z ▸ hs)]; exact e
  · obtain ⟨v, e1, h⟩ := R2.slot i z e
    refine ⟨v, e1, ?_⟩
    cases z with
    | dat x => cases x <;> exact h
    | mu m =>
      obtain ⟨p, rfl, h1, h2, h3, h4⟩ := h
      have np : p ≠ d := fun z => by rw [z, f2d] at h1; cases h1
      exact ⟨p, rfl, h1, free0 p h2, h3, h4.at fun o q _ => by rw [up p np]; exact q⟩
end
def keysD (kvs : List (Str × PD)) : List PD := kvs.map fun p => .str p.1
def tLcK (i : Nat) (b : Bnd) (tt : TTD) (te : TED) (vs : List Nat) : TED := fun r n P => ∃ kvs, r[i]? = some (some (.dat (.dct kvs))) ∧ ∃ I : Nat → List PD → DEnv → Nat → Prop, I 0 [] (wipeD r vs) n ∧ TurnD b tt te vs (keysD kvs) I ∧ ∀ acc r n, I (keysD kvs).length acc r n → P (.py (.list acc)) r n
theorem srcV_keys {F0 : Hp} {d : Addr} {od : Obj} {kv : List (Key × V)} {kvs : List (Str × PD)} (h : PairK F0 kv kvs) : SrcV (fun F2 H2 => SubH F0 F2 ∧ H2 d = some (.frz od (.dK kv))) (Itk d od kv) (keysD kvs) := fun F H hV u => by
  obtain ⟨sb, hd⟩ := hV
  have hl : kv.length = kvs.length := Paired.length h
  have hl2 : (keysD kvs).length = kvs.length := by simp [keysD]
  refine ⟨fun i hi => ⟨hd, by omega⟩, fun i hi => ⟨hd, by omega⟩, fun i x H' d' hd' y => .inl ?_⟩
  obtain ⟨rfl, k, v, e1, rfl⟩ := y
  refine ⟨rfl, ?_⟩
  have : ∀ {kv : List (Key × V)} {kvs : List (Str × PD)} {i : Nat}, PairK F0 kv kvs → kv[i]? = some (k, v) → (keysD kvs)[i]? = some d' → Dz F (kV k) d' := by
    intro kv kvs i hp
    induction hp generalizing i with
    | nil => intro e; simp at e
    | @cons p q _ _ a t ih =>
      intro e1 e2
      cases i with
      | zero =>
        simp at e1
        simp [keysD] at e2
        subst e1 e2
        rw [show k = Sum.inr q.1 from a.1.1]
        exact .str _ a.1.2
      | succ i => exact ih (by simpa using e1) (by simpa [keysD] using e2)
  exact this h e1 hd'
section
variable {X : Cx} {c : Cst} {elt tg iter a b : Expr} {ifs : List Expr} {scope : Scope} {own : List (Str × Nat)} {pos : Pos} {src : TSrc} {tt : TTD} {te ta tb : TED} {x : Str} {px : Pos}
theorem lcK_run (i : Nat) (b : Bnd) (hbs : ∀ j ∈ b.slots, j ∈ own.map (·.2)) (g : G) (hg : g.c = c) {s : L2.St} {H : Hp} {Q : VK} (h : lift g (tLcK i b tt te (own.map (·.2))) s H Q) :
    tLockE (tLc (iKeys (tVar i)) (b.tg X.K) (liftTX c tt) (liftX c te) (own.map (·.2))) s H Q ∨ tLc (iKeys (tVar i)) (b.tg X.K) (liftTX c tt) (liftX c te) (own.map (·.2)) s H Q := by
  obtain ⟨F, r, n, P, R, ⟨kvs, e, I, h0, hs, hP⟩, k⟩ := h
  obtain ⟨v, es, d, kv, rfl, fd, pk⟩ := R.dat e
  have nd : ¬ owned r s d := fun z => by rw [(R.own z).1] at fd; cases fd
  have nS : ¬ InS g.S d := fun z => by rw [R.bas.strF d z] at fd; cases fd
  rcases R.bas.und d _ fd with hH | ⟨od, kv', ek, hH⟩
  · refine .inl ⟨d, _, hH, True.intro, fun od => ?_⟩
    have RL := R.lock (od := od) fd hH
    refine ⟨.ref d, es, d, od, rfl, .inl ⟨kv, upd_same, ?_⟩⟩
    refine lcD_core (Q := fun v H' => H' d = some (.frz od (.dK kv)) ∧ Q v (upd H' d (.dK kv))) (g := g.locked F r s H d od kv) hg hbs (srcV_keys pk) RL (fun F2 H2 s2 st => ⟨s2, st d _ upd_same (fun _ z => by cases z) nS nd⟩) I h0 hs fun F2 acc r2 n2 D H2 s2 R2 hz hI _ => ?_
    obtain ⟨q1, q2⟩ := R.unlock fd hH R2
    exact ⟨q1, CoE.py k s2 q2 hz (hP acc r2 n2 hI)⟩
  · cases ek
    refine .inr ⟨.ref d, es, d, od, rfl, .inl ⟨kv, hH, ?_⟩⟩
    exact lcD_core hg hbs (srcV_keys pk) R (fun F2 H2 s2 st => ⟨s2, st d _ hH (fun _ z => by cases z) nS nd⟩) I h0 hs fun F2 acc r2 n2 D H2 s2 R2 hz hI _ => CoE.py k s2 R2 hz (hP acc r2 n2 hI)
theorem de_lcK (i : Nat) (b : Bnd) (hc : X.calm = true) (hN : X.N.Nodup) (hx : PE X (.Name x px) (tVar i)) (ok : BlkOk X.N X.env.scope scope own)
    (hb : ∀ (s : Shared) (H : Hp) (C : Addr) (cl : List (Str × Addr)) (fp : List Addr), PG (X.blk s H scope (compEnvC scope cl C X.env) fp) tg (b.tg X.K)) (ht : ∀ (s : Shared) (H : Hp) (C : Addr) (cl : List (Str × Addr)) (fp : List Addr), DTs c (X.blk s H scope (compEnvC scope cl C X.env) fp) ifs tt)
    (he : ∀ (s : Shared) (H : Hp) (C : Addr) (cl : List (Str × Addr)) (fp : List Addr), DE c (X.blk s H scope (compEnvC scope cl C X.env) fp) elt te) (hbs : ∀ i ∈ b.slots, i ∈ own.map (·.2) := by decide) (hs : ∀ y, foldedSetIterable (.Name x px) X.env y = pure y := by intro _; rfl) :
    DE c X (.ListComp elt [⟨tg, .Name x px, ifs, 0⟩] scope pos) (tLcK i b tt te (own.map (·.2))) := ⟨fun g hg =>
  PE.imp (pe_lockOr (pe_lc hc hN (pi_keys hx) ok hb (fun s H C cl fp => (ht s H C cl fp).run) (fun s H C cl fp => (he s H C cl fp).x) hs)) fun s H Q h => lcK_run i b hbs g hg h⟩

/-! ### y = [..] on one line -/
/-- a comprehension over data, its value stored as data -/
theorem ds_setLc {i : Nat} {y : Str} {py spos : Pos} (hy : X.N[i]? = some y) (hyl : X.env.scope.names.lookup y = some .local) (b : Bnd) (hc : X.calm = true) (hN : X.N.Nodup) (hi : DI c X tg iter src) (ok : BlkOk X.N X.env.scope scope own)
    (hb : ∀ (s : Shared) (H : Hp) (C : Addr) (cl : List (Str × Addr)) (fp : List Addr), PG (X.blk s H scope (compEnvC scope cl C X.env) fp) tg (b.tg X.K)) (ht : ∀ (s : Shared) (H : Hp) (C : Addr) (cl : List (Str × Addr)) (fp : List Addr), DTs c (X.blk s H scope (compEnvC scope cl C X.env) fp) ifs tt)
    (he : ∀ (s : Shared) (H : Hp) (C : Addr) (cl : List (Str × Addr)) (fp : List Addr), DE c (X.blk s H scope (compEnvC scope cl C X.env) fp) elt te)
    (hsw : swapsWith (.ListComp elt [⟨tg, iter, ifs, 0⟩] scope pos) (some (.Name y py)) spos.line X.env = pure true) (hbs : ∀ i ∈ b.slots, i ∈ own.map (·.2) := by decide) (hs : ∀ x, foldedSetIterable iter X.env x = pure x := by intro _; rfl) :
    DS c X (.Assign [.Name y py] (.ListComp elt [⟨tg, iter, ifs, 0⟩] scope pos) spos) (sSet i (tLcD b src tt te (own.map (·.2)))) := ⟨fun g hg =>
  PS.imp (ps_setLc hc hN hy hyl hsw (hi.run g hg) ok hb (fun s H C cl fp => (ht s H C cl fp).run) (fun s H C cl fp => (he s H C cl fp).x) hs) fun D s H ⟨F, r, n, E, R, p, k⟩ =>
    ⟨F, r, n, _, R, p, fun F1 ds r1 n1 J H1 sb R1 sv ⟨I, h0, hs, hP⟩ => lcD_core (Q := fun v H' => D.nx (s.set i (some v)) H') hg hbs sv R1 (fun F2 H2 s2 st => ⟨s2, R1.undA' st⟩) I h0 hs fun F2 acc r2 n2 L H2 s2 R2 hz hI _ => k.nx F2 _ n2 _ H2 (sb.trans s2) (R2.set (d := .py (.list acc)) hz) (hP acc r2 n2 hI)⟩⟩

/-! ### in: lists and tuples -/
@[simp] def kInQ (neg : Bool) : KB := fun x y r n P => ∃ d ds, x = .py d ∧ seqOf y = some ds ∧ shapeD d = true ∧ shapeD (.list ds) = true ∧ P (.py (.bool (if neg then !inD d ds else inD d ds))) r n
def rInQ (K : PySem.W.Frag) : R2 := fun x y H Q => ∃ d ds, Dp K H x d ∧ (Dp K H y (.list ds) ∨ Dp K H y (.tuple ds)) ∧ SeqAt.shaped d = true ∧ SeqAt.shaped (.list ds) = true ∧ Q (.bl (inD d ds)) H
theorem op_inQ (hu : X.A.units + 65 < cLine) : OpR X (compareOp .In) (rInQ X.K) := by
  intro pins sh s H x y v u Q I rx ry ⟨d, ds, hd, he, sd, se, q⟩
  rcases he with he | he
  · exact op_inD hu pins sh s H x y v u Q I rx ry ⟨d, ds, hd, he, sd, se, q⟩
  · obtain ⟨as, r1⟩ := Dp.reads I d x v hd rx
    obtain ⟨bs, r2⟩ := Dp.reads I (.tuple ds) y u he ry
    exact SeqAt.in_tuple_reads r2 r1 (by have := SeqAt.canLay_of_shaped se; simpa [PyData.canLay0] using this) (SeqAt.canLay_of_shaped sd) (room_in_shaped sd hu) ⟨.bl _, H, I, rfl, q⟩
theorem ob_inQ : OpB c (rInQ X.K) (kInQ false) := fun g F r n s H x y a b P Q _ R ra rb h k => by
  obtain ⟨d, ds, rfl, e1, h1, h2', p⟩ := h
  have h1 := Dz.shaped ra h1
  have h2 : SeqAt.shaped (.list ds) = true := by
    cases b with
    | py q =>
      cases rb with
      | lst f1 f2 => cases e1; exact DzAll.shaped f2 h2'
      | tup f1 f2 => cases e1; exact DzAll.shaped f2 h2'
      | _ => cases e1
    | _ => cases e1
  have cl : PyData.canLayAll0 ds = true := by have := SeqAt.canLay_of_shaped h2; simpa [PyData.canLay0] using this
  refine ⟨d, ds, Dz.dp R.bas.und ra (SeqAt.canLay_of_shaped h1), ?_, h1, h2, k.py (.refl F) R (.bl _) p⟩
  cases b with
  | py q =>
    cases rb with
    | lst f1 f2 => cases e1; exact .inl (.lst (.of (R.bas.und.lst f1)) (DzAll.dp R.bas.und f2 cl))
    | tup f1 f2 => cases e1; exact .inr (.tup (.of (R.bas.und.tup f1)) (DzAll.dp R.bas.und f2 cl))
    | _ => cases e1
  | _ => cases e1
theorem de_inQ (hu : X.A.units + 65 < cLine) (h1 : DE c X a ta) (h2 : DE c X b tb) (hm : behindInMarks .In b = false := by rfl) : DE c X (.Compare a [.In] [b] pos) (tOpD (kInQ false) ta tb) := de_cmp (op_inQ hu) ob_inQ h1 h2 hm
theorem dt_inQ (hu : X.A.units + 65 < cLine) (h1 : DE c X a ta) (h2 : DE c X b tb) (hm : behindInMarks .In b = false := by rfl) : DT c X (.Compare a [.In] [b] pos) (tBD (tOpD (kInQ false) ta tb)) := dt_cmp (op_inQ hu) ob_inQ h1 h2 hm

/-! ### texts in texts, chains, lists times numbers -/
def inS (a b : Str) : Bool := !(Builtin.Str.occurrences b a 0 b.length 1).isEmpty
@[simp] def kInS (neg : Bool) : KB := fun x y r n P => ∃ a b, x = .py (.str a) ∧ y = .py (.str b) ∧ P (.py (.bool (if neg then !inS a b else inS a b))) r n
theorem ob_inS : OpB c (fun x y H Q => ∃ i j, x = .str i ∧ y = .str j ∧ Q (.bl (!(Builtin.Str.occurrences j i 0 j.length 1).isEmpty)) H) (kInS false) := fun g F r n s H x y a b P Q _ R ra rb h k => by
  obtain ⟨u, v, rfl, rfl, p⟩ := h
  cases ra; cases rb
  exact ⟨u, v, rfl, rfl, k.py (.refl F) R (.bl _) p⟩
theorem ob_notInS : OpB c (fun x y H Q => ∃ i j, x = .str i ∧ y = .str j ∧ Q (.bl (!(!(Builtin.Str.occurrences j i 0 j.length 1).isEmpty))) H) (kInS true) := fun g F r n s H x y a b P Q _ R ra rb h k => by
  obtain ⟨u, v, rfl, rfl, p⟩ := h
  cases ra; cases rb
  exact ⟨u, v, rfl, rfl, k.py (.refl F) R (.bl _) p⟩
theorem de_inS (h1 : DE c X a ta) (h2 : DE c X b tb) (hm : behindInMarks .In b = false := by rfl) : DE c X (.Compare a [.In] [b] pos) (tOpD (kInS false) ta tb) := de_cmp op_in_str ob_inS h1 h2 hm
theorem dt_notInS (h1 : DE c X a ta) (h2 : DE c X b tb) (hm : behindInMarks .NotIn b = false := by rfl) : DT c X (.Compare a [.NotIn] [b] pos) (tBD (tOpD (kInS true) ta tb)) := dt_cmp op_notin_str ob_notInS h1 h2 hm
/-- i < j <= k -/
@[simp] def tChainD (ta tb tc : TED) : TTD := fun r n P => ta r n fun d1 r1 n1 => tb r1 n1 fun d2 r2 n2 => ∃ i j : Int, d1 = .py (.int i) ∧ d2 = .py (.int j) ∧ if i < j then tc r2 n2 fun d3 r3 n3 => ∃ k : Int, d3 = .py (.int k) ∧ P (decide (j ≤ k)) r3 n3 else P false r2 n2
theorem dt_chain {cc : Expr} {tc : TED} (h1 : DE c X a ta) (h2 : DE c X b tb) (h3 : DE c X cc tc)
    (hp : ∀ t1 t2 t3, PE X a t1 → PE X b t2 → PE X cc t3 → PT X (.Compare a [.Lt, .LtE] [b, cc] pos) (tB (tChain (rI0 fun i j => .bl (decide (i < j))) (rI0 fun i j => .bl (decide (i ≤ j))) t1 t2 t3))) : DT c X (.Compare a [.Lt, .LtE] [b, cc] pos) (tChainD ta tb tc) := ⟨fun g hg =>
  PT.imp (hp _ _ _ (h1.run g hg) (h2.run g hg) (h3.run g hg)) fun s H Q ⟨F, r, n, P, R, p, k⟩ => ⟨F, r, n, _, R, p, fun F1 d1 r1 n1 v1 H1 s1 R1 rv1 p1 => ⟨F1, r1, n1, _, R1, p1, fun F2 d2 r2 n2 v2 H2 s2 R2 rv2 ⟨i, j, e1, e2, p2⟩ => by
    subst e1 e2
    have rv1' := RepD.mono s2 rv1
    cases rv1'
    cases rv2
    refine ⟨i, j, rfl, rfl, decide (i < j), rfl, ?_⟩
    by_cases hij : i < j
    · rw [if_pos hij] at p2
      rw [if_pos (decide_eq_true hij)]
      refine ⟨F2, r2, n2, _, R2, p2, fun F3 d3 r3 n3 v3 H3 s3 R3 rv3 ⟨kk, e3, p3⟩ => ?_⟩
      subst e3
      cases rv3
      exact ⟨j, kk, rfl, rfl, _, rfl, k F3 _ r3 n3 H3 (s1.trans (s2.trans s3)) R3 p3⟩
    · rw [if_neg hij] at p2
      rw [if_neg (by simp [hij])]
      exact ⟨false, rfl, k F2 _ r2 n2 H2 (s1.trans s2) R2 p2⟩⟩⟩⟩
/-- xs * k -/
@[simp] def kRep : KB := fun x y r n P => ∃ (xs : List PD) (k : Int), x = .py (.list xs) ∧ y = .py (.int k) ∧ -(2 ^ 63) ≤ k ∧ k < 2 ^ 63 ∧ xs.length * k.toNat ≤ sizeLine ∧ P (.py (.list (List.replicate k.toNat xs).flatten)) r n
theorem DzAll.rep {F : Hp} {vs : List V} {ds : List PD} (h : DzAll F vs ds) : ∀ k : Nat, DzAll F (List.replicate k vs).flatten (List.replicate k ds).flatten
  | 0 => .nil
  | k + 1 => by
    rw [List.replicate_succ, List.flatten_cons, List.replicate_succ, List.flatten_cons]
    exact h.append (DzAll.rep h k)
theorem ob_rep : OpB c rRep kRep := fun g F r n s H x y a b P Q _ R ra rb h k => by
  obtain ⟨xs, kk, rfl, rfl, h1, h2, h3, p⟩ := h
  cases rb
  cases ra with
  | @lst a1 us _ e1 e2 =>
    refine ⟨a1, kk, us, rfl, rfl, R.bas.und.lst e1, h1, h2, by rw [e2.length]; exact h3, fun q hq => ?_⟩
    exact k.py (.new (R.bas.und.some hq)) (R.laid hq fun _ z => by cases z) (.lst upd_same ((e2.rep _).mono (.new (R.bas.und.some hq)))) p
theorem de_rep (h1 : DE c X a ta) (h2 : DE c X b tb) : DE c X (.BinOp a .Mult b pos) (tOpD kRep ta tb) := de_op op_rep ob_rep h1 h2
@[simp] def dNeg (ta : TED) : TED := fun r n P => ta r n fun d r1 n1 => ∃ i : Int, d = .py (.int i) ∧ P (.py (.int (-i))) r1 n1
theorem de_neg (h : DE c X a ta) : DE c X (.UnaryOp .USub a pos) (dNeg ta) := ⟨fun g hg => PE.imp (pe_un un_neg (h.run g hg)) fun s H Q ⟨F, r, n, P, R, p, k⟩ => ⟨F, r, n, _, R, p, fun F1 d r1 n1 v H1 s1 R1 rv ⟨i, e, p1⟩ => by
  subst e
  cases rv
  exact ⟨i, rfl, k.py s1 R1 (.int _) p1⟩⟩⟩
/-- what is never reached -/
@[simp] def dNever : TED := fun _ _ _ => False
theorem de_never : DE c X a dNever := ⟨fun g _ => ⟨fun pins sh s H Q I ⟨F, r, n, P, R, p, k⟩ => p.elim⟩⟩
end
end K21

set_option Elab.async false
set_option linter.all false
set_option maxRecDepth 100000
set_option maxHeartbeats 4000000
/-! K21J: readings evaluated: comprehensions that only reckon; facts of texts, lists, pairs as data. -/
namespace K21
open PySem PySem.Spec PyProof.Rows L2

theorem wipeD_set {r : DEnv} {i : Nat} {x : Option Slot} : ∀ {vs : List Nat}, i ∈ vs → wipeD (r.set i x) vs = wipeD r vs
  | [], h => by cases h
  | v :: vs, h => by
    unfold wipeD
    by_cases e : i ∈ vs
    · rw [wipeD_set e]
    · have ev : i = v := by
        rcases List.mem_cons.mp h with z | z
        · exact z
        · exact absurd z e
      subst ev
      have key : ∀ ws : List Nat, (wipeD (r.set i x) ws).set i none = (wipeD r ws).set i none := by
        intro ws
        induction ws with
        | nil => show (r.set i x).set i none = r.set i none; rw [List.set_set]
        | cons w ws ih =>
          show ((wipeD (r.set i x) ws).set w none).set i none = ((wipeD r ws).set w none).set i none
          by_cases hw : w = i
          · subst hw; rw [List.set_set, List.set_set]; exact ih
          · rw [List.set_comm _ _ hw, List.set_comm _ _ hw, ih]
      exact key vs
theorem take_succ_get {α : Type} {xs : List α} {k : Nat} {d : α} (h : xs[k]? = some d) : xs.take (k + 1) = xs.take k ++ [d] := by
  rw [List.take_add_one, h]; rfl
/-- the turns of a comprehension that only reckons -/
theorem turn_pure {i : Nat} {tt : TTD} {te : TED} {vs : List Nat} {ds : List PD} {r : DEnv} {n : Nat} (q : PD → Bool) (f : PD → PD) (hi : i ∈ vs) (hl : ds.length ≤ sizeLine) (hw : wipeD r vs = r)
    (ht : ∀ d ∈ ds, EvT tt (r.set i (some (.dat (.py d)))) n (q d)) (he : ∀ d ∈ ds, q d = true → Ev te (r.set i (some (.dat (.py d)))) n (.py (f d))) :
    TurnD (.one i) tt te vs ds (fun k acc r' n' => r' = r ∧ n' = n ∧ acc = ((ds.take k).filter q).map f) := by
  rintro k d acc r' n' hd ⟨rfl, rfl, rfl⟩
  have hm : d ∈ ds := List.mem_of_getElem? hd
  refine ht d hm _ ?_
  have e1 : wipeD (r'.set i (some (.dat (.py d)))) vs = r' := by rw [wipeD_set hi, hw]
  cases hq : q d with
  | true =>
    rw [if_pos rfl]
    refine he d hm hq _ ⟨f d, rfl, ?_, e1, rfl, ?_⟩
    · have h1 : k < ds.length := (List.getElem?_eq_some_iff.mp hd).1
      have h2 := List.length_filter_le q (ds.take k)
      rw [List.length_take] at h2
      rw [List.length_map]
      omega
    · rw [take_succ_get hd, List.filter_append, List.map_append]
      simp [hq]
  | false =>
    rw [if_neg Bool.false_ne_true]
    refine ⟨e1, rfl, ?_⟩
    rw [take_succ_get hd, List.filter_append, List.map_append]
    simp [hq]
theorem lc1 {i : Nat} {src : TSrc} {tt : TTD} {te : TED} {vs : List Nat} {r : DEnv} {n : Nat} {P : DV → DEnv → Nat → Prop} (ds : List PD) (q : PD → Bool) (f : PD → PD) (hs : ∀ K : List PD → DEnv → Nat → Prop, K ds r n → src r n K) (hi : i ∈ vs) (hl : ds.length ≤ sizeLine) (hw : wipeD r vs = r)
    (ht : ∀ d ∈ ds, EvT tt (r.set i (some (.dat (.py d)))) n (q d)) (he : ∀ d ∈ ds, q d = true → Ev te (r.set i (some (.dat (.py d)))) n (.py (f d))) (hP : P (.py (.list ((ds.filter q).map f))) r n) : tLcD (.one i) src tt te vs r n P := by
  refine hs _ ⟨_, ⟨hw, rfl, rfl⟩, turn_pure q f hi hl hw ht he, fun acc r' n' ⟨e1, e2, e3⟩ => ?_⟩
  subst e1 e2 e3
  rw [List.take_length]
  exact hP
/-- without an if -/
theorem lc1a {i : Nat} {src : TSrc} {te : TED} {vs : List Nat} {r : DEnv} {n : Nat} {P : DV → DEnv → Nat → Prop} (ds : List PD) (f : PD → PD) (hs : ∀ K : List PD → DEnv → Nat → Prop, K ds r n → src r n K) (hi : i ∈ vs) (hl : ds.length ≤ sizeLine) (hw : wipeD r vs = r)
    (he : ∀ d ∈ ds, Ev te (r.set i (some (.dat (.py d)))) n (.py (f d))) (hP : P (.py (.list (ds.map f))) r n) : tLcD (.one i) src tYesD te vs r n P := by
  refine lc1 ds (fun _ => true) f hs hi hl hw (fun d _ K h => h) (fun d hd _ => he d hd) ?_
  have e : (ds.filter fun _ => true) = ds := List.filter_eq_self.mpr fun _ _ => rfl
  rw [e]
  exact hP
theorem lcM1 {i j : Nat} {tt : TTD} {te : TED} {vs : List Nat} {r : DEnv} {n : Nat} {P : DV → DEnv → Nat → Prop} (ds : List PD) (q : PD → Bool) (f : PD → PD) (hs : r[j]? = some (some (.mu (.lst ds)))) (hi : i ∈ vs) (hl : ds.length ≤ sizeLine) (hw : wipeD (r.set j none) vs = r.set j none)
    (ht : ∀ d ∈ ds, EvT tt ((r.set j none).set i (some (.dat (.py d)))) n (q d)) (he : ∀ d ∈ ds, q d = true → Ev te ((r.set j none).set i (some (.dat (.py d)))) n (.py (f d))) (hP : P (.py (.list ((ds.filter q).map f))) r n) : tLcM j (.one i) tt te vs r n P := by
  refine ⟨ds, hs, _, ⟨hw, rfl, rfl⟩, turn_pure q f hi hl hw ht he, fun acc r' n' ⟨e1, e2, e3⟩ => ?_⟩
  subst e1 e2 e3
  rw [List.take_length, List.set_set]
  have e : r.set j (some (.mu (.lst ds))) = r := set_same hs
  rw [e]
  exact hP
theorem lcK1 {i j : Nat} {tt : TTD} {te : TED} {vs : List Nat} {r : DEnv} {n : Nat} {P : DV → DEnv → Nat → Prop} (kvs : List (Str × PD)) (q : PD → Bool) (f : PD → PD) (hs : r[j]? = some (some (.dat (.dct kvs)))) (hi : i ∈ vs) (hl : kvs.length ≤ sizeLine) (hw : wipeD r vs = r)
    (ht : ∀ d ∈ keysD kvs, EvT tt (r.set i (some (.dat (.py d)))) n (q d)) (he : ∀ d ∈ keysD kvs, q d = true → Ev te (r.set i (some (.dat (.py d)))) n (.py (f d))) (hP : P (.py (.list (((keysD kvs).filter q).map f))) r n) : tLcK j (.one i) tt te vs r n P := by
  refine ⟨kvs, hs, _, ⟨hw, rfl, rfl⟩, turn_pure q f hi (by simpa [keysD] using hl) hw ht he, fun acc r' n' ⟨e1, e2, e3⟩ => ?_⟩
  subst e1 e2 e3
  rw [List.take_length]
  exact hP
/-- over pairs -/
theorem lc2 {i j : Nat} {src : TSrc} {tt : TTD} {te : TED} {vs : List Nat} {r : DEnv} {n : Nat} {P : DV → DEnv → Nat → Prop} (ps : List (PD × PD)) (q : PD → PD → Bool) (f : PD → PD → PD) (hs : ∀ K : List PD → DEnv → Nat → Prop, K (ps.map fun p => .tuple [p.1, p.2]) r n → src r n K) (hi : i ∈ vs) (hj : j ∈ vs) (hl : ps.length ≤ sizeLine) (hw : wipeD r vs = r)
    (ht : ∀ p ∈ ps, EvT tt ((r.set i (some (.dat (.py p.1)))).set j (some (.dat (.py p.2)))) n (q p.1 p.2)) (he : ∀ p ∈ ps, q p.1 p.2 = true → Ev te ((r.set i (some (.dat (.py p.1)))).set j (some (.dat (.py p.2)))) n (.py (f p.1 p.2)))
    (hP : P (.py (.list ((ps.filter fun p => q p.1 p.2).map fun p => f p.1 p.2))) r n) : tLcD (.two i j) src tt te vs r n P := by
  refine hs _ ⟨fun k acc r' n' => r' = r ∧ n' = n ∧ acc = ((ps.take k).filter fun p => q p.1 p.2).map fun p => f p.1 p.2, ⟨hw, rfl, rfl⟩, ?_, fun acc r' n' ⟨e1, e2, e3⟩ => ?_⟩
  · rintro k d acc r' n' hd ⟨rfl, rfl, rfl⟩
    rw [List.getElem?_map] at hd
    cases hp : ps[k]? with
    | none => rw [hp] at hd; cases hd
    | some p =>
      rw [hp] at hd
      cases hd
      have hm : p ∈ ps := List.mem_of_getElem? hp
      refine ⟨p.1, p.2, rfl, ht p hm _ ?_⟩
      have e1 : wipeD ((r'.set i (some (.dat (.py p.1)))).set j (some (.dat (.py p.2)))) vs = r' := by rw [wipeD_set hj, wipeD_set hi, hw]
      cases hq : q p.1 p.2 with
      | true =>
        rw [if_pos rfl]
        refine he p hm hq _ ⟨f p.1 p.2, rfl, ?_, e1, rfl, ?_⟩
        · have h1 : k < ps.length := (List.getElem?_eq_some_iff.mp hp).1
          have h2 := List.length_filter_le (fun p : PD × PD => q p.1 p.2) (ps.take k)
          rw [List.length_take] at h2
          rw [List.length_map]
          omega
        · rw [take_succ_get hp, List.filter_append, List.map_append]
          simp [hq]
      | false =>
        rw [if_neg Bool.false_ne_true]
        refine ⟨e1, rfl, ?_⟩
        rw [take_succ_get hp, List.filter_append, List.map_append]
        simp [hq]
  · subst e1 e2 e3
    rw [List.length_map, List.take_length]
    exact hP

/-! ### facts of data -/
theorem eqv_str (x y : Str) : PyData.eqv (.str x) (.str y) = decide (x = y) := by
  simp only [PyData.eqv]
  exact Bool.beq_eq_decide_eq x y
theorem eqvAll_sts : ∀ xs ys : List Str, PyData.eqvAll (sts xs) (sts ys) = decide (xs = ys)
  | [], [] => by simp [PyData.eqvAll]
  | [], y :: ys => by simp [PyData.eqvAll]
  | x :: xs, [] => by simp [PyData.eqvAll]
  | x :: xs, y :: ys => by
    show (PyData.eqv (.str x) (.str y) && PyData.eqvAll (sts xs) (sts ys)) = _
    rw [eqv_str, eqvAll_sts xs ys]
    simp
theorem eqv_list_sts (xs ys : List Str) : PyData.eqv (.list (sts xs)) (.list (sts ys)) = decide (xs = ys) := by
  show PyData.eqvAll (sts xs) (sts ys) = _
  exact eqvAll_sts xs ys
theorem eqv_pair (p q : Str × Str) : PyData.eqv (pairD p) (pairD q) = decide (p = q) := by
  show (PyData.eqv (.str p.1) (.str q.1) && (PyData.eqv (.str p.2) (.str q.2) && true)) = _
  rw [eqv_str, eqv_str, Bool.and_true]
  obtain ⟨a, b⟩ := p
  obtain ⟨x, y⟩ := q
  by_cases h1 : a = x <;> by_cases h2 : b = y <;> simp [h1, h2]
theorem inD_sts (x : Str) (ns : List Str) : inD (.str x) (sts ns) = decide (x ∈ ns) := by
  unfold inD
  induction ns with
  | nil => simp
  | cons n ns ih =>
    show (PyData.eqv (.str n) (.str x) || (sts ns).any _) = _
    rw [ih, eqv_str]
    by_cases e : n = x
    · simp [e]
    · simp [e, Ne.symm e]
def lotsD (ls : List (List Str)) : List PD := ls.map fun l => .list (sts l)
theorem inD_lots (x : List Str) (ls : List (List Str)) : inD (.list (sts x)) (lotsD ls) = decide (x ∈ ls) := by
  unfold inD lotsD
  induction ls with
  | nil => simp
  | cons n ns ih =>
    rw [List.map_cons, List.any_cons]
    rw [ih, eqv_list_sts]
    by_cases e : n = x
    · simp [e]
    · simp [e, Ne.symm e]
theorem inD_pairs (x : Str × Str) (ls : List (Str × Str)) : inD (pairD x) (ls.map pairD) = decide (x ∈ ls) := by
  unfold inD
  induction ls with
  | nil => simp
  | cons n ns ih =>
    rw [List.map_cons, List.any_cons, ih, eqv_pair]
    by_cases e : n = x
    · simp [e]
    · simp [e, Ne.symm e]
theorem lay_sts : ∀ ns : List Str, layD.layDAll (sts ns) = true
  | [] => by simp [layD.layDAll]
  | n :: ns => by simp [layD.layDAll, layD, lay_sts ns]
theorem depth_sts : ∀ ns : List Str, PyData.depthAll (sts ns) = 0
  | [] => by simp [PyData.depthAll]
  | n :: ns => by
    have := depth_sts ns
    simp [PyData.depthAll, PyData.depth, this]
theorem shape_of {d : PD} (h : layD d = true) (k : d.depth ≤ 64) : shapeD d = true := by
  simp only [shapeD, Bool.and_eq_true, decide_eq_true_eq]
  exact ⟨h, k⟩
@[simp] theorem shape_str (x : Str) : shapeD (.str x) = true := shape_of (by simp [layD]) (by simp [PyData.depth])
@[simp] theorem shape_non : shapeD .none = true := shape_of (by simp [layD]) (by simp [PyData.depth])
@[simp] theorem shape_int (i : Int) : shapeD (.int i) = true := shape_of (by simp [layD]) (by simp [PyData.depth])
@[simp] theorem shape_bool (b : Bool) : shapeD (.bool b) = true := shape_of (by simp [layD]) (by simp [PyData.depth])
@[simp] theorem shape_nil : shapeD (.list []) = true := shape_of (by simp [layD, layD.layDAll]) (by simp [PyData.depth, PyData.depthAll])
@[simp] theorem shape_sts (ns : List Str) : shapeD (.list (sts ns)) = true := shape_of (by simp only [layD]; exact lay_sts ns) (by simp only [PyData.depth, depth_sts]; omega)
theorem lay_lots : ∀ ls : List (List Str), layD.layDAll (lotsD ls) = true ∧ PyData.depthAll (lotsD ls) ≤ 1
  | [] => by simp [lotsD, layD.layDAll, PyData.depthAll]
  | n :: ns => by
    have ih := lay_lots ns
    refine ⟨?_, ?_⟩
    · show layD.layDAll (PyData.list (sts n) :: lotsD ns) = true
      simp only [layD.layDAll, layD, lay_sts n, ih.1, Bool.and_self]
    · show PyData.depthAll (PyData.list (sts n) :: lotsD ns) ≤ 1
      have := ih.2
      simp only [PyData.depthAll, PyData.depth, depth_sts n]
      omega
@[simp] theorem shape_lots (ls : List (List Str)) : shapeD (.list (lotsD ls)) = true := shape_of (by simp only [layD]; exact (lay_lots ls).1) (by have := (lay_lots ls).2; simp only [PyData.depth]; omega)
theorem lay_pairs : ∀ ls : List (Str × Str), layD.layDAll (ls.map pairD) = true ∧ PyData.depthAll (ls.map pairD) ≤ 1
  | [] => by simp [layD.layDAll, PyData.depthAll]
  | n :: ns => by
    have ih := lay_pairs ns
    refine ⟨?_, ?_⟩
    · show layD.layDAll (pairD n :: ns.map pairD) = true
      simp only [layD.layDAll, pairD, layD, ih.1, Bool.and_self]
    · show PyData.depthAll (pairD n :: ns.map pairD) ≤ 1
      have := ih.2
      simp only [PyData.depthAll, pairD, PyData.depth]
      omega
@[simp] theorem shape_pairs (ls : List (Str × Str)) : shapeD (.list (ls.map pairD)) = true := shape_of (by simp only [layD]; exact (lay_pairs ls).1) (by have := (lay_pairs ls).2; simp only [PyData.depth]; omega)
@[simp] theorem shape_tup2 (x y : Str) : shapeD (.tuple [.str x, .str y]) = true := shape_of (by simp [layD, layD.layDAll]) (by simp [PyData.depth, PyData.depthAll])
@[simp] theorem shape_pair (p : Str × Str) : shapeD (pairD p) = true := shape_tup2 p.1 p.2
@[simp] theorem shape_tupI (x : Str) (i : Int) : shapeD (.tuple [.str x, .int i]) = true := shape_of (by simp [layD, layD.layDAll]) (by simp [PyData.depth, PyData.depthAll])
/-- texts back from data -/
def unS : List PD → List Str
  | .str x :: r => x :: unS r
  | _ :: r => unS r
  | [] => []
@[simp] theorem unS_sts : ∀ ns : List Str, unS (sts ns) = ns
  | [] => rfl
  | n :: ns => congrArg (n :: ·) (unS_sts ns)
theorem szL : sizeLine = 16777216 := sizeLine_eq
@[simp] theorem atI_0 {α : Type} (x : α) (xs : List α) : L2.atI (x :: xs) 0 = some x := atI_nat (j := 0) rfl
@[simp] theorem atI_1 {α : Type} (x y : α) (xs : List α) : L2.atI (x :: y :: xs) 1 = some y := atI_nat (j := 1) rfl
theorem mem_sts {d : PD} {ns : List Str} : d ∈ sts ns ↔ ∃ x ∈ ns, d = .str x := by
  rw [List.mem_map]
  exact ⟨fun ⟨x, h1, h2⟩ => ⟨x, h1, h2.symm⟩, fun ⟨x, h1, h2⟩ => ⟨x, h1, h2.symm⟩⟩
end K21

set_option Elab.async false
set_option linter.all false
set_option maxRecDepth 100000
set_option maxHeartbeats 4000000
/-! K21K: what the defs say, in plain words; facts of the words. -/
namespace K21
open PySem PySem.Spec PyProof.Rows L2
/-- what is known of the class Debate -/
structure DebT (K : PySem.W.Frag) (C : Addr) : Prop where
  cls : Cls K C
  nS : NoAttr K C "own_statements"
  nO : NoAttr K C "own_objections"
  nR : NoAttr K C "own_objectors"
  nD : NoAttr K C "own_objected"
structure ConT (mg : Str → Option Value) : Prop where
  SMALL : ∃ t, mg "SMALL" = some (.str "abcdefghijklmnopqrstuvwxyz" t)
  FIGURES : ∃ t, mg "FIGURES" = some (.str "0123456789" t)

/-! ### sorting -/
section
variable {α : Type} (enc : α → PD)
abbrev leD : α → α → Bool := PySem.W.dataLe false enc
theorem sortD_map (xs : List α) : sortD (xs.map enc) = (xs.mergeSort (leD enc)).map enc := (List.map_mergeSort (f := enc) (fun _ _ _ _ => rfl)).symm
theorem le_tr (a b d : α) (h1 : leD enc a b = true) (h2 : leD enc b d = true) : leD enc a d = true := (PySem.W.sortLe_total (listOrd itemOrd) false fun b => PySem.W.keyToks (enc b)).trans a b d h1 h2
theorem le_tot (a b : α) : (leD enc a b || leD enc b a) = true := by
  have := (PySem.W.sortLe_total (listOrd itemOrd) false fun b => PySem.W.keyToks (enc b)).total a b
  rw [Bool.or_eq_true]; exact this
theorem le_anti {a b : α} (h1 : leD enc a b = true) (h2 : leD enc b a = true) : PySem.W.keyToks (enc a) = PySem.W.keyToks (enc b) := by
  simp only [leD, PySem.W.dataLe, PySem.W.sortLe, cond_false, Bool.not_eq_true'] at h1 h2
  exact (listOrd itemOrd).total _ _ h2 h1
theorem sort_pw (xs : List α) : (xs.mergeSort (leD enc)).Pairwise (fun a b => leD enc a b = true) := List.pairwise_mergeSort (le_tr enc) (le_tot enc) xs
theorem sort_pm (xs : List α) : (xs.mergeSort (leD enc)).Perm xs := List.mergeSort_perm xs _
/-- the order makes a list of a bag -/
theorem pw_unique (hinj : ∀ a b, PySem.W.keyToks (enc a) = PySem.W.keyToks (enc b) → a = b) {xs ys : List α} (hp : xs.Perm ys) (h1 : xs.Pairwise (fun a b => leD enc a b = true)) (h2 : ys.Pairwise (fun a b => leD enc a b = true)) : xs = ys :=
  hp.eq_of_pairwise (fun a b _ _ ha hb => hinj a b (le_anti enc ha hb)) h1 h2
theorem sort_unique' (hinj : ∀ a b, PySem.W.keyToks (enc a) = PySem.W.keyToks (enc b) → a = b) {xs ys : List α} (hp : xs.Perm ys) : xs.mergeSort (leD enc) = ys.mergeSort (leD enc) :=
  pw_unique enc hinj ((sort_pm enc xs).trans (hp.trans (sort_pm enc ys).symm)) (sort_pw enc xs) (sort_pw enc ys)
theorem sort_self (hinj : ∀ a b, PySem.W.keyToks (enc a) = PySem.W.keyToks (enc b) → a = b) {xs : List α} (h : xs.Pairwise (fun a b => leD enc a b = true)) : xs.mergeSort (leD enc) = xs := pw_unique enc hinj (sort_pm enc xs) (sort_pw enc xs) h
end
def sortS (xs : List Str) : List Str := xs.mergeSort (leD PyData.str)
def sortP (xs : List (Str × Str)) : List (Str × Str) := xs.mergeSort (leD pairD)
def lotD (l : List Str) : PD := .list (sts l)
def sortL (xs : List (List Str)) : List (List Str) := xs.mergeSort (leD lotD)
def lwD (w : List Str) : PD := .tuple [.int (w.length : Nat), .list (sts w)]
def sortW (xs : List (List Str)) : List (List Str) := xs.mergeSort (leD lwD)
theorem inj_str (a b : Str) (h : PySem.W.keyToks (.str a) = PySem.W.keyToks (.str b)) : a = b := by
  simp only [PySem.W.keyToks, List.cons.injEq, Sum.inr.injEq, and_true] at h
  exact PySem.W.str_of_cps h
theorem inj_sts : ∀ a b : List Str, PySem.W.keyToksAll (sts a) = PySem.W.keyToksAll (sts b) → a = b
  | [], [], _ => rfl
  | [], b :: bs, h => by simp [PySem.W.keyToksAll] at h
  | a :: as, [], h => by simp [PySem.W.keyToksAll] at h
  | a :: as, b :: bs, h => by
    simp only [sts, List.map_cons, PySem.W.keyToksAll, PySem.W.keyToks, List.cons_append, List.nil_append, List.cons.injEq, Sum.inr.injEq, true_and] at h
    rw [PySem.W.str_of_cps h.1, inj_sts as bs h.2]
theorem inj_lot (a b : List Str) (h : PySem.W.keyToks (lotD a) = PySem.W.keyToks (lotD b)) : a = b := by
  simp only [lotD, PySem.W.keyToks] at h
  exact inj_sts a b h
theorem inj_pair (a b : Str × Str) (h : PySem.W.keyToks (pairD a) = PySem.W.keyToks (pairD b)) : a = b := by
  simp only [pairD, PySem.W.keyToks, PySem.W.keyToksAll, List.cons_append, List.nil_append, List.cons.injEq, Sum.inr.injEq, true_and, and_true] at h
  rw [← Prod.eta a, ← Prod.eta b, PySem.W.str_of_cps h.1, PySem.W.str_of_cps h.2]
theorem sortD_sts (xs : List Str) : sortD (sts xs) = sts (sortS xs) := sortD_map PyData.str xs
theorem sortD_pairs (xs : List (Str × Str)) : sortD (xs.map pairD) = (sortP xs).map pairD := sortD_map pairD xs
theorem sortD_lots (xs : List (List Str)) : sortD (lotsD xs) = lotsD (sortL xs) := sortD_map lotD xs
theorem sortD_lw (xs : List (List Str)) : sortD (xs.map lwD) = (sortW xs).map lwD := sortD_map lwD xs
/-- the order of (number of signs, signs) goes by the number first -/
theorem lw_le {a b : List Str} (h : leD lwD a b = true) : a.length ≤ b.length := by
  simp only [leD, PySem.W.dataLe_eq, cond_false, Bool.not_eq_true'] at h
  have h' : PyProof.Rows.lexLt itemOrd (PySem.W.keyToks (lwD b)) (PySem.W.keyToks (lwD a)) = false := h
  simp only [lwD, PySem.W.keyToks, PySem.W.keyToksAll, List.cons_append, List.nil_append] at h'
  rw [lex_self] at h'
  apply Classical.byContradiction
  intro hn
  rw [lex_cons] at h'
  have : itemOrd.blt (.inl (b.length : Int)) (.inl (a.length : Int)) = true := by
    show decide ((b.length : Int) < (a.length : Int)) = true
    simp; omega
  rw [this] at h'
  simp at h'

theorem alike_sts : ∀ a b : List Str, PySem.W.alikeAll (sts a) (sts b) = true
  | [], _ => by simp [PySem.W.alikeAll]
  | _ :: _, [] => by simp [PySem.W.alikeAll]
  | a :: as, b :: bs => by
    have := alike_sts as bs
    simp only [sts, List.map_cons, PySem.W.alikeAll, PySem.W.alike, Bool.true_and]
    exact this
theorem lay_sts' (ns : List Str) : layD (.list (sts ns)) = true := by simp only [layD]; exact lay_sts ns
section
variable {n : Nat} {r : DEnv} {P : DV → DEnv → Nat → Prop}
theorem kSort_sts {xs : List Str} (hl : xs.length ≤ sizeLine) (h : P (.py (.list (sts (sortS xs)))) r n) : kSort [.py (.list (sts xs))] r n P :=
  ⟨sts xs, rfl, PySem.W.AllAlike.of (fun _ _ => by simp [PySem.W.alike]), PySem.W.Sortable.others (fun b => ⟨by simp, by simp⟩), by simpa using hl, fun d hd => by
    obtain ⟨x, _, rfl⟩ := mem_sts.mp hd
    exact ⟨by simp [layD], by simp [PyData.depth]⟩, by rw [sortD_sts]; exact h⟩
theorem kSort_pairs {xs : List (Str × Str)} (hl : xs.length ≤ sizeLine) (h : P (.py (.list ((sortP xs).map pairD))) r n) : kSort [.py (.list (xs.map pairD))] r n P :=
  ⟨xs.map pairD, rfl, PySem.W.AllAlike.of (fun _ _ => by simp [pairD, PySem.W.alike, PySem.W.alikeAll]), PySem.W.Sortable.tuples (fun b => ⟨_, _, rfl⟩), by simpa using hl, fun d hd => by
    obtain ⟨x, _, rfl⟩ := List.mem_map.mp hd
    exact ⟨by simp [pairD, layD, layD.layDAll], by simp [pairD, PyData.depth, PyData.depthAll]⟩, by rw [sortD_pairs]; exact h⟩
theorem kSort_lots {xs : List (List Str)} (hl : xs.length ≤ sizeLine) (h : P (.py (.list (lotsD (sortL xs)))) r n) : kSort [.py (.list (lotsD xs))] r n P :=
  ⟨lotsD xs, rfl, PySem.W.AllAlike.of (enc := lotD) (fun a b => by simp only [lotD, PySem.W.alike]; exact alike_sts a b), PySem.W.Sortable.others (enc := lotD) (fun b => ⟨by simp [lotD], by simp [lotD]⟩), by simpa [lotsD] using hl, fun d hd => by
    obtain ⟨x, _, rfl⟩ := List.mem_map.mp hd
    exact ⟨lay_sts' x, by simp [PyData.depth, depth_sts]⟩, by rw [sortD_lots]; exact h⟩
theorem kSort_lw {xs : List (List Str)} (hl : xs.length ≤ sizeLine) (h : P (.py (.list ((sortW xs).map lwD))) r n) : kSort [.py (.list (xs.map lwD))] r n P :=
  ⟨xs.map lwD, rfl, PySem.W.AllAlike.of (enc := lwD) (fun a b => by
    simp only [lwD, PySem.W.alike, PySem.W.alikeAll, Bool.true_and, Bool.and_true]
    exact alike_sts a b), PySem.W.Sortable.tuples (enc := lwD) (fun b => ⟨_, _, rfl⟩), by simpa using hl, fun d hd => by
    obtain ⟨x, _, rfl⟩ := List.mem_map.mp hd
    exact ⟨by simp [lwD, layD, layD.layDAll, lay_sts], by simp [lwD, PyData.depth, PyData.depthAll, depth_sts]⟩, by rw [sortD_lw]; exact h⟩
end

/-! ### a debate's words -/
def objs (D : Deb) (x : Str) : List Str := (D.ps.filter fun p => decide (p.2 = x)).map (·.1)
def objd (D : Deb) (x : Str) : List Str := (D.ps.filter fun p => decide (p.1 = x)).map (·.2)
structure DOk (D : Deb) : Prop where
  nd : D.ns.Nodup
  inn : ∀ p ∈ D.ps, p.1 ∈ D.ns ∧ p.2 ∈ D.ns
  l1 : D.ns.length ≤ 64
  l2 : D.ps.length ≤ 4096
theorem look_map {f : Str → PD} {x : Str} : ∀ {ns : List Str}, lookD (ns.map fun n => (n, f n)) x = if x ∈ ns then some (f x) else none
  | [] => by simp [lookD]
  | n :: ns => by
    have ih := look_map (f := f) (x := x) (ns := ns)
    unfold lookD at ih ⊢
    by_cases e : n = x
    · subst e; simp [List.find?_cons]
    · have e' : ¬ x = n := fun z => e z.symm
      simp only [List.map_cons, List.find?_cons, e, decide_false, List.mem_cons, e', false_or]
      exact ih
@[simp] theorem look_objs (D : Deb) (x : Str) : lookD (objectorsD D) x = if x ∈ D.ns then some (.list (sts (objs D x))) else none := look_map (f := fun n => .list (sts (objs D n)))
@[simp] theorem look_objd (D : Deb) (x : Str) : lookD (objectedD D) x = if x ∈ D.ns then some (.list (sts (objd D x))) else none := look_map (f := fun n => .list (sts (objd D n)))
@[simp] theorem fld_S (D : Deb) : fldD D "own_statements" = some (.py (.list (sts D.ns))) := rfl
@[simp] theorem fld_O (D : Deb) : fldD D "own_objections" = some (.py (.list (D.ps.map pairD))) := rfl
@[simp] theorem fld_R (D : Deb) : fldD D "own_objectors" = some (.dct (objectorsD D)) := rfl
@[simp] theorem fld_D (D : Deb) : fldD D "own_objected" = some (.dct (objectedD D)) := rfl
@[simp] theorem inD_sts' (x : Str) (ns : List Str) : inD (.str x) (sts ns) = decide (x ∈ ns) := inD_sts x ns
@[simp] theorem keys_objs (D : Deb) : keysD (objectorsD D) = sts D.ns := by simp [keysD, objectorsD]
theorem all_dec {α : Type} (l : List α) (q : α → Bool) : (l.map q).all (fun b => b) = l.all q := by rw [List.all_map]; rfl
theorem any_dec {α : Type} (l : List α) (q : α → Bool) : (l.map q).any (fun b => b) = l.any q := by rw [List.any_map]; rfl
theorem mem_objs {D : Deb} {x y : Str} : y ∈ objs D x ↔ (y, x) ∈ D.ps := by
  simp only [objs, List.mem_map, List.mem_filter, decide_eq_true_eq]
  exact ⟨fun ⟨p, ⟨h1, h2⟩, h3⟩ => by subst h2 h3; exact h1, fun h => ⟨(y, x), ⟨h, rfl⟩, rfl⟩⟩
theorem mem_objd {D : Deb} {x y : Str} : y ∈ objd D x ↔ (x, y) ∈ D.ps := by
  simp only [objd, List.mem_map, List.mem_filter, decide_eq_true_eq]
  exact ⟨fun ⟨p, ⟨h1, h2⟩, h3⟩ => by subst h2 h3; exact h1, fun h => ⟨(x, y), ⟨h, rfl⟩, rfl⟩⟩
theorem len_objs (D : Deb) (x : Str) : (objs D x).length ≤ D.ps.length := by
  rw [objs, List.length_map]; exact List.length_filter_le _ _
theorem len_objd (D : Deb) (x : Str) : (objd D x).length ≤ D.ps.length := by
  rw [objd, List.length_map]; exact List.length_filter_le _ _
theorem DOk.os {D : Deb} (h : DOk D) (x : Str) : (objs D x).length ≤ sizeLine := by
  have := len_objs D x; have := h.l2; rw [szL]; omega
theorem DOk.od {D : Deb} (h : DOk D) (x : Str) : (objd D x).length ≤ sizeLine := by
  have := len_objd D x; have := h.l2; rw [szL]; omega
def optP : Option (Str × Str) → PD
  | none => .none
  | some p => pairD p
def clashP (D : Deb) (m : List Str) : Option (Str × Str) := (D.ps.filter fun p => decide (p.1 ∈ m) && decide (p.2 ∈ m)).head?
def calmB (D : Deb) (lot : List Str) (s : Str) : Bool := !decide (s ∈ objs D s) && !(lot.any fun m => decide (m ∈ objs D s) || decide (m ∈ objd D s))
def hitB (D : Deb) (m : List Str) (x : Str) : Bool := D.ps.any fun p => decide (p.1 ∈ m) && decide (p.2 = x)
def answersD (D : Deb) (m : List Str) : List Str := D.ns.filter fun s => (objs D s).all (hitB D m)
def leftR (D : Deb) (h : Str → Bool) : List Str → Option (Str × Str)
  | [] => none
  | x :: xs => match (objs D x).find? fun o => !h o with
    | some o => some (x, o)
    | none => leftR D h xs
def leftP (D : Deb) (m : List Str) : Option (Str × Str) := leftR D (hitB D m) m
theorem drop_get {α : Type} {xs : List α} {k : Nat} {x : α} (h : xs[k]? = some x) : xs.drop k = x :: xs.drop (k + 1) := by
  obtain ⟨h1, h2⟩ := List.getElem?_eq_some_iff.mp h
  rw [List.drop_eq_getElem_cons h1, h2]
def withinS (a b : List Str) : Bool := a.all fun m => decide (m ∈ b)
end K21

set_option Elab.async false
set_option linter.all false
set_option maxRecDepth 100000
set_option maxHeartbeats 4000000
/-! K21S: defs whose answer is a new list (their arguments lie in an anchored part); a list that is written after it was data. -/
namespace K21
open PySem PySem.Spec PyProof.Rows L2
def noH : Hp := fun _ => none
/-- such a promise: what is frozen in the end is new -/
def promA (c : Cst) (pre : List DV → Nat → Prop) (post : List DV → Nat → DV → Nat → Prop) : Sp := fun vs H Q _ => ∃ g ds n, g.c = c ∧ g.H0 = H ∧ g.F0 = noH ∧ Bas g noH n H ∧ RepAll g noH vs ds ∧ pre ds n ∧
  ∀ F' d n' v H', Bas g F' n' H' → RepD g F' v d → plainD d = true → post ds n d n' → Q v H'
theorem ok_ofA {P : Program} {w : World} {K : PySem.W.Frag} {mg : Str → Option Value} {base : Heap} {c : Cst} {pre : List DV → Nat → Prop} {post : List DV → Nat → DV → Nat → Prop} {x qual : Str} {st : Stmt} {f : Addr} {fd : FuncData} {N ps : List Str} {k : Nat}
    (F : Fun K x qual st f fd) (S : FnScope N ps (defScope st)) (hlen : ∀ ds n, pre ds n → ds.length = ps.length)
    (hbody : ∀ (cdv : Value) (A : Around) (outer : List Env) (s : Shared) (H : Hp) (E : XK), Room k (A.deeper (envOfC qual (defScope st) s.heap.objs.size f cdv)) →
      ∃ t, DSs c (cxOf CX0 P w K mg base N qual (defScope st) f cdv A outer s H E).nox (defBody st) t ∧ ∀ ds n, pre ds n → t { nx := fun _ n' => post ds n (.py .none) n', rt := fun d n' => post ds n d n' } (startD N ds) n) :
    FnOk P w K mg base CX0 (k + 1) f fd ps (promA c pre post) := by
  refine F.ok S (fun vs H Q E h => ?_) (fun cdv A outer s H vs Q E hr h => ?_)
  · obtain ⟨g, ds, n, _, _, _, _, rs, hp, _⟩ := h
    rw [Paired.length rs]; exact hlen ds n hp
  · obtain ⟨g, ds, n, hg, hH, h0, b, rs, hp, q⟩ := h
    obtain ⟨t, ht, hb⟩ := hbody cdv A outer s H E hr
    refine ⟨_, ht.run g hg, noH, startD N ds, n, _, ?_, hb ds n hp, ⟨fun F' r' n' s' H' R hx => q F' (.py .none) n' .non H' R.bas Dz.non rfl hx, fun F' d n' v H' b' rv pl hx => q F' d n' v H' b' rv pl hx, fun _ _ _ _ _ _ z => z.elim, fun _ _ _ _ _ _ z => z.elim⟩⟩
    have b0 : Bas g g.F0 n H := by rw [h0]; exact b
    have r0 : RepAll g g.F0 vs ds := by rw [h0]; exact rs
    have := rel_start (N := N) b0 r0
    rw [h0] at this
    exact this
structure OkA (P : Program) (w : World) (K : PySem.W.Frag) (mg : Str → Option Value) (base : Heap) (c : Cst) (x : Str) (ps : List Str) (k : Nat) (pre : List DV → Nat → Prop) (post : List DV → Nat → DV → Nat → Prop) : Prop where
  ex : ∃ f fd, mg x = some (.ref f) ∧ PySem.W.keepIn K (.ref f) = true ∧ Binds K fd ps [] ∧ FnOk P w K mg base CX0 k f fd ps (promA c pre post)
theorem ok_defA {P : Program} {w : World} {K : PySem.W.Frag} {mg : Str → Option Value} {base : Heap} {c : Cst} {pre : List DV → Nat → Prop} {post : List DV → Nat → DV → Nat → Prop} {x : Str} {st : Stmt} {N ps : List Str} {k : Nat} (D : DefAt K mg x st)
    (hb : ∀ (kV doc pm : Value) (an : Option Addr) (cdv ct : Value) (us : List Value), us.length = ps.length → bindArgs (PySem.W.fnOf x x (defArgs st) (defBody st) (defScope st) .none kV doc pm an cdv ct) ⟨us, []⟩ = pure (ps.zip us))
    (S : FnScope N ps (defScope st)) (hlen : ∀ ds n, pre ds n → ds.length = ps.length)
    (hbody : ∀ (f : Addr) (cdv : Value) (A : Around) (outer : List Env) (s : Shared) (H : Hp) (E : XK), Room k (A.deeper (envOfC x (defScope st) s.heap.objs.size f cdv)) →
      ∃ t, DSs c (cxOf CX0 P w K mg base N x (defScope st) f cdv A outer s H E).nox (defBody st) t ∧ ∀ ds n, pre ds n → t { nx := fun _ n' => post ds n (.py .none) n', rt := fun d n' => post ds n d n' } (startD N ds) n) :
    OkA P w K mg base c x ps (k + 1) pre post := by
  obtain ⟨f, fd, F, m⟩ := D.ex
  exact ⟨f, fd, m, F.kp, F.binds hb, ok_ofA F S hlen (hbody f)⟩

/-! ### the anchored debate read -/
section
variable {X : Cx} {c : Cst} {e a b tg : Expr} {es : List Expr} {te ta tb : TED} {tas : TAD} {x f : Str} {px p pos p2 : Pos} {i : Nat}
theorem srcV_old {K : PySem.W.Frag} {A F0 : Hp} {a : Addr} {xs : List V} {ws : List Str} (e : A a = some (.lst xs)) (h : DzAll A xs (sts ws)) : SrcV (fun F2 H2 => SubH F0 F2 ∧ Under A H2) (Itl K a) (sts ws) := fun F H hv u => by
  have hq : SqL K H a xs := .of (hv.2.lst e)
  have hl := h.length
  refine ⟨fun i hi => ⟨xs, xs[i]'(by omega), hq, List.getElem?_eq_getElem _⟩, fun i hi => ⟨xs, hq, by omega⟩, fun i x H' d hd y => .inl ?_⟩
  obtain ⟨rfl, y⟩ := y
  obtain ⟨v, h1, h2⟩ := h.get hd
  have := y xs hq
  rw [h1] at this
  cases this
  refine ⟨rfl, ?_⟩
  obtain ⟨z, _, rfl⟩ := mem_sts.mp (List.mem_of_getElem? hd)
  cases h2
  exact .str z (by assumption)
def iFldA (i : Nat) (f : Str) : TSrc := fun r n P => ∃ D ws, r[i]? = some (some (.dat (.oldB D))) ∧ fldD D f = some (.py (.list (sts ws))) ∧ P (sts ws) r n
theorem di_fldA (i : Nat) (hC : Cls X.K c.C) (hn : NoAttr X.K c.C "own_statements") (hx : PE X (.Name x px) (tVar i)) (hb : attributeBase (.Name x px) "own_statements" X.env (eval (.Name x px) X.env) = eval (.Name x px) X.env := by rfl) :
    DI c X tg (.Attribute (.Name x px) "own_statements" pos) (iFldA i "own_statements") := ⟨fun g hg => PI.imp (pi_list (pe_fld hx hb)) fun s H R ⟨F, r, n, P, Rl, ⟨D, ws, e, ef, p⟩, k⟩ => by
  obtain ⟨v, es, rv⟩ := Rl.dat e
  obtain ⟨a, dx, fs, v1, v2, v3, v4, rfl, h0, l1, h1, l2, h2, l3, h3, l4, h4⟩ := rv
  have ef' : D.ns = ws := by
    have : some (DV.py (.list (sts D.ns))) = some (.py (.list (sts ws))) := ef
    simp only [Option.some.injEq, DV.py.injEq, PyData.list.injEq] at this
    rw [← unS_sts D.ns, this, unS_sts]
  subst ef'
  rw [hg] at h0
  cases h1 with
  | @lst la xs _ f1 f2 => exact ⟨_, es, a, c.C, dx, fs, _, rfl, Rl.undA.ins h0, hC, hn, l1, la, rfl, ⟨xs, .of (Rl.undA.lst f1)⟩, k F (sts D.ns) r n _ H (.refl F) Rl (srcV_old f1 f2) p⟩⟩
/-- for y in debate.own_objected[b] -/
def iGetA (i : Nat) (tb : TED) : TSrc := fun r n P => (∃ D, r[i]? = some (some (.dat (.oldB D)))) ∧ tb r n fun d r1 n1 => ∃ D x ws, r1[i]? = some (some (.dat (.oldB D))) ∧ d = .py (.str x) ∧ lookD (objectedD D) x = some (.list (sts ws)) ∧ P (sts ws) r1 n1
theorem di_getA (i : Nat) (hu : X.A.units + 1 < cLine) (hC : Cls X.K c.C) (hn : NoAttr X.K c.C "own_objected") (hx : PE X (.Name x px) (tVar i)) (h2 : DE c X b tb) (hb : attributeBase (.Name x px) "own_objected" X.env (eval (.Name x px) X.env) = eval (.Name x px) X.env := by rfl) (hs : NoSl b := by intro _ _; rfl) :
    DI c X tg (.Subscript (.Attribute (.Name x px) "own_objected" p2) b pos) (iGetA i tb) := ⟨fun g hg => PI.imp (pi_list (pe_dget hu (pe_fld hx hb) (h2.run g hg) hs)) fun s H R ⟨F, r, n, P, Rl, ⟨⟨D0, e0⟩, p⟩, k⟩ => by
  obtain ⟨v, es, rv⟩ := Rl.dat e0
  have rv0 := rv
  obtain ⟨a, dx, fs, v1, v2, v3, v4, rfl, h0, l1, h1, l2, h2, l3, h3, l4, h4⟩ := rv
  rw [hg] at h0
  refine ⟨_, es, a, c.C, dx, fs, v4, rfl, Rl.undA.ins h0, hC, hn, l4, F, r, n, _, Rl, p, fun F1 d r1 n1 w H1 sb R1 rw1 ⟨D, z, ws, e1, ed, el, p1⟩ => ?_⟩
  subst ed
  cases rw1
  obtain ⟨v', es', rv'⟩ := R1.dat e1
  rw [es] at es'
  cases es'
  obtain ⟨a', dx', fs', v1', v2', v3', v4', ev, h0', l1', h1', l2', h2', l3', h3', l4', h4'⟩ := rv'
  cases ev
  rw [hg] at h0'
  rw [h0] at h0'
  cases h0'
  rw [l4] at l4'
  cases l4'
  obtain ⟨q, kv, rfl, f1, f2⟩ := h4'
  obtain ⟨u, g1, g2⟩ := (f2.look (x := z)).1 _ el
  refine ⟨q, u, rfl, .inl ⟨kv, Sum.inr z, R1.undA.dK f1, rfl, g1.symm⟩, ?_⟩
  cases g2 with
  | @lst la xs _ k1 k2 => exact ⟨la, rfl, ⟨xs, .of (R1.undA.lst k1)⟩, k F1 (sts ws) r1 n1 _ H1 sb R1 (srcV_old k1 k2) p1⟩⟩
end

/-! ### calls -/
def flatP : PD → Bool
  | .none => true
  | .bool _ => true
  | .int _ => true
  | .str _ => true
  | _ => false
theorem Dz.flat {F J : Hp} {v : V} {d : PD} (h : Dz F v d) (f : flatP d = true) : Dz J v d := by
  cases h with
  | non => exact .non
  | bl b => exact .bl b
  | int i => exact .int i
  | str x hx => exact .str x hx
  | _ => cases f
def joinH (F G : Hp) : Hp := fun a => match F a with
  | some o => some o
  | none => G a
theorem joinH_left {F G : Hp} : SubH F (joinH F G) := fun a o e => by simp only [joinH, e]
/-- the callee's heap within the caller's -/
def G.callA (g : G) (A H : Hp) : G := { g with F0 := noH, H0 := H, A := A }
section
variable {g : G} {F F' H H' A : Hp} {r : DEnv} {n n' : Nat} {s : L2.St}
theorem Rel.apart (R : Rel g F r n s H) (b : Bas (g.callA A H) F' n' H') {a : Addr} {o : HO} (h : F' a = some o) (hn : ∀ xs, o ≠ .tup xs) : H a = none := b.new a o rfl h hn
theorem Rel.calledA (R : Rel g F r n s H) (b : Bas (g.callA A H) F' n' H') : Rel g (joinH F F') r n' s H' ∧ SubH F' (joinH F F') := by
  have fr : ∀ a o, H a = some o → (∀ ps, o ≠ .tbl ps) → ¬ InS g.S a → H' a = some o := fun a o e h1 h2 => b.fr a o e h1 h2
  have sb : SubH F' (joinH F F') := fun a o e => by
    cases q : F a with
    | none => simp only [joinH, q, e]
    | some u =>
      have : u = o := by
        have ns : ¬ InS g.S a := fun z => by rw [R.bas.strF a z] at q; cases q
        rcases R.bas.und a u q with h | ⟨od, kvs, e1, h⟩
        · have h' := fr a u h (fun ps z => R.bas.ntb a ps (by rw [← z]; exact q)) ns
          rcases b.und a o e with k | ⟨_, _, k1, k⟩
          · rw [h'] at k; exact Option.some.inj k
          · exact absurd (h.symm.trans (R.apart b e (by subst k1; intro xs z; cases z))) (Option.some_ne_none _)
        · have h' := fr a _ h (fun _ z => by cases z) ns
          rcases b.und a o e with k | ⟨_, _, k1, k⟩
          · rw [h'] at k
            exact absurd (h.symm.trans (R.apart b e (by cases k; intro xs z; cases z))) (Option.some_ne_none _)
          · exact absurd (h.symm.trans (R.apart b e (by subst k1; intro xs z; cases z))) (Option.some_ne_none _)
      simp only [joinH, q, this]
  have cs : ∀ a o, joinH F F' a = some o → F a = some o ∨ (F a = none ∧ F' a = some o) := fun a o e => by
    cases q : F a with
    | some u => simp only [joinH, q] at e; exact .inl e
    | none => simp only [joinH, q] at e; exact .inr ⟨rfl, e⟩
  refine ⟨⟨⟨fun a o e => ?_, R.bas.gro.trans joinH_left, fun a o h1 h2 h3 => ?_, fun a o e h1 h2 => fr a o (R.bas.fr a o e h1 h2) h1 h2, fun a ps e => ?_, fun a ps e => ?_, b.tab, b.str, fun a h => ?_, R.bas.anc⟩, R.len, fun i z e => ?_, R.dis⟩, sb⟩
  · rcases cs a o e with q | ⟨_, q⟩
    · have ns : ¬ InS g.S a := fun z => by rw [R.bas.strF a z] at q; cases q
      rcases R.bas.und a o q with h | ⟨od, kvs, e1, h⟩
      · exact .inl (fr a o h (fun ps z => R.bas.ntb a ps (by rw [← z]; exact q)) ns)
      · exact .inr ⟨od, kvs, e1, fr a _ h (fun _ z => by cases z) ns⟩
    · exact b.und a o q
  · rcases cs a o h2 with z | ⟨_, z⟩
    · exact R.bas.new a o h1 z h3
    · exact R.bas.free0 (R.apart b z h3)
  · obtain ⟨ps', q⟩ := R.bas.frt a ps e
    exact b.frt a ps' q
  · rcases cs a _ e with q | ⟨_, q⟩
    · exact R.bas.ntb a ps q
    · exact b.ntb a ps q
  · cases q : joinH F F' a with
    | none => rfl
    | some o =>
      rcases cs a o q with z | ⟨_, z⟩
      · rw [R.bas.strF a h] at z; cases z
      · rw [b.strF a h] at z; cases z
  · obtain ⟨v, e1, h⟩ := R.slot i z e
    refine ⟨v, e1, ?_⟩
    cases z with
    | dat d => exact RepD.mono joinH_left h
    | mu m =>
      obtain ⟨p, rfl, h1, h2, h3, h4⟩ := h
      refine ⟨p, rfl, ?_, h2, h3, (h4.mono joinH_left).at fun o q ht => fr p o q ht h3⟩
      cases q : joinH F F' p with
      | none => rfl
      | some o =>
        rcases cs p o q with z | ⟨_, z⟩
        · rw [h1] at z; cases z
        · obtain ⟨u, hu, ut, un⟩ := h4.obj
          have := R.apart b z (b.und.ntup z (fr p u hu ut h3) un)
          rw [hu] at this; cases this
end
@[simp] def argA : DV → DV
  | .deb D => .oldB D
  | .ancB D => .oldB D
  | d => d
/-- arguments: debates and flat data -/
@[simp] def okArgA : DV → Bool
  | .deb _ => true
  | .ancB _ => true
  | .py d => flatP d
  | _ => false
@[simp] def okArgP : DV → Bool
  | .oldB _ => true
  | .py d => flatP d
  | _ => false
/-- what a def of new lists gives: none, or a new list -/
@[simp] def nwO : Option (List Str) → DV
  | none => .py .none
  | some w => .nw w
@[simp] def optW : Option (List Str) → PD
  | none => .none
  | some w => .list (sts w)
@[simp] def dCallP (pre : List DV → Nat → Prop) (post : List DV → Nat → DV → Nat → Prop) (ts : TAD) : TED := fun r n P => ts r n fun ds r1 n1 => (ds.all okArgP = true) ∧ pre ds n1 ∧ ∀ d n2, post ds n1 d n2 → ∃ q, d = .py q ∧ P (.py q) r1 n2
@[simp] def dCallN (pre : List DV → Nat → Prop) (post : List DV → Nat → DV → Nat → Prop) (ts : TAD) : TED := fun r n P => ts r n fun ds r1 n1 => (ds.all okArgA = true) ∧ pre (ds.map argA) n1 ∧ ∀ d n2, post (ds.map argA) n1 d n2 → ∃ o, d = .py (optW o) ∧ P (nwO o) r1 n2
section
variable {X : Cx} {c : Cst} {pre : List DV → Nat → Prop} {post : List DV → Nat → DV → Nat → Prop} {k j : Nat} {f : Addr} {fd : FuncData} {ps : List Str} {x : Str} {p pos : Pos} {e : Expr} {es : List Expr} {tas : TAD} {E : XK}
theorem reps_P {g : G} {F H : Hp} : ∀ {vs : List V} {ds : List DV}, RepAll g F vs ds → ds.all okArgP = true → RepAll (g.callA g.A H) noH vs ds
  | _, _, .nil, _ => .nil
  | _, d :: ds, .cons a t, ok => by
    rw [List.all_cons, Bool.and_eq_true] at ok
    refine .cons ?_ (reps_P t ok.2)
    cases d with
    | oldB D => exact a
    | py d => exact Dz.flat a ok.1
    | _ => simp at ok
theorem reps_A {g : G} {F H : Hp} : ∀ {vs : List V} {ds : List DV}, RepAll g F vs ds → ds.all okArgA = true → RepAll (g.callA F H) noH vs (ds.map argA)
  | _, _, .nil, _ => .nil
  | _, d :: ds, .cons a t, ok => by
    rw [List.all_cons, Bool.and_eq_true] at ok
    refine .cons ?_ (reps_A t ok.2)
    cases d with
    | deb D => exact a
    | ancB D => exact DebR.mono a.1 a.2
    | py d => exact Dz.flat a ok.1
    | _ => simp at ok
theorem Bas.callA {g : G} {F H A : Hp} {n : Nat} (b : Bas g F n H) (hA : ∀ a o, A a = some o → (H a = some o ∨ ∃ od kvs, o = .dK kvs ∧ H a = some (.frz od o)) ∧ ¬ InS g.S a ∧ ∀ ps, o ≠ .tbl ps) : Bas (g.callA A H) noH n H :=
  ⟨fun a o e => (by cases e), fun a o e => (by cases e), fun a o _ h _ => (by cases h), fun a o e _ _ => e, fun a ps e => ⟨ps, e⟩, fun a ps e => (by cases e), b.tab, b.str, fun a _ => rfl, hA⟩
theorem lift_callP (g : G) (hg : g.c = c) {s : L2.St} {H : Hp} {Q : VK} : lift g (dCallP pre post tas) s H Q → tCall (promA c pre post) [] E (liftA g tas) s H Q := fun ⟨F, r, n, P, R, q, kk⟩ =>
  ⟨F, r, n, _, R, q, fun F1 ds r1 n1 vs H1 s1 R1 rs ⟨ok, hp, hq⟩ => by
    refine ⟨g.callA g.A H1, ds, n1, hg, rfl, rfl, R1.bas.callA (fun a o e => ?_), ?_, hp, fun F' d n' v H' b rv pl hx => ?_⟩
    · obtain ⟨⟨h, h2, h3⟩, _⟩ := R1.ancS a o e
      refine ⟨?_, h2, h3⟩
      rcases h with h | ⟨od, kvs, e1, h⟩
      · exact .inl (strip_some h).2
      · exact .inr ⟨od, kvs, e1, (strip_some h).2⟩
    · rw [List.append_nil]
      exact reps_P rs ok
    · obtain ⟨R2, sb⟩ := R1.calledA b
      obtain ⟨q, rfl, pq⟩ := hq d n' hx
      exact kk _ (.py q) r1 n' v H' (s1.trans joinH_left) R2 (Dz.mono sb rv) pq⟩
theorem de_callP (O : OkA X.prog X.w X.K X.mg X.base c x ps k pre post) (hr : Room j X.A) (hj : k ≤ j) (hg : Gl X x) (ha : DA c X (e :: es) tas) (hdb : (x == ("__debug__" : Str)) = false := by decide) (he : starEach (e :: es) X.env = (false, eval e X.env) :: starEach es X.env := by rfl) (hpl : (backTo pos (starEach es X.env)).any (·.1) = false := by rfl) :
    DE c X (.Call (.Name x p) (e :: es) [] pos) (dCallP pre post tas) := by
  obtain ⟨f, fd, m, kp, b, F⟩ := O.ex
  exact ⟨fun g hgc => PE.imp (pe_call F (hr.mono hj) hg m kp b .nil pass0 (ha.run g hgc) hdb he hpl) fun _ _ _ h => lift_callP g hgc h⟩
theorem lift_callN (g : G) (hg : g.c = c) {s : L2.St} {H : Hp} {Q : VK} : lift g (dCallN pre post tas) s H Q → tCall (promA c pre post) [] E (liftA g tas) s H Q := fun ⟨F, r, n, P, R, q, kk⟩ =>
  ⟨F, r, n, _, R, q, fun F1 ds r1 n1 vs H1 s1 R1 rs ⟨ok, hp, hq⟩ => by
    refine ⟨g.callA F1 H1, ds.map argA, n1, hg, rfl, rfl, R1.bas.callA (fun a o e => ⟨R1.bas.und a o e, fun z => (by rw [R1.bas.strF a z] at e; cases e), fun ps z => R1.bas.ntb a ps (by rw [← z]; exact e)⟩), ?_, hp, fun F' d n' v H' b rv pl hx => ?_⟩
    · rw [List.append_nil]
      exact reps_A rs ok
    · obtain ⟨R2, sb⟩ := R1.calledA b
      obtain ⟨o, rfl, pq⟩ := hq d n' hx
      refine kk _ (nwO o) r1 n' v H' (s1.trans joinH_left) R2 ?_ pq
      cases o with
      | none => cases rv; exact Dz.non
      | some w =>
        cases rv with
        | @lst a xs _ e1 e2 =>
          have := e2.of_strs
          subst this
          have z : H1 a = none := R1.apart b e1 (fun _ z => by cases z)
          refine ⟨a, rfl, sb _ _ e1, ?_, fun x hx => ?_⟩
          · cases q : g.A a with
            | none => rfl
            | some o =>
              obtain ⟨⟨hs, _⟩, _⟩ := R1.ancS a o q
              rcases hs with hs | ⟨_, _, _, hs⟩ <;> have := (strip_some hs).2 <;> rw [z] at this <;> cases this
          · obtain ⟨i, hi, e⟩ := List.getElem_of_mem hx
            obtain ⟨v, _, hv⟩ := e2.get (i := i) (d := .str x) (by rw [← e]; simp [sts, hi])
            exact Dz.strOk hv⟩
theorem de_callN (O : OkA X.prog X.w X.K X.mg X.base c x ps k pre post) (hr : Room j X.A) (hj : k ≤ j) (hg : Gl X x) (ha : DA c X (e :: es) tas) (hdb : (x == ("__debug__" : Str)) = false := by decide) (he : starEach (e :: es) X.env = (false, eval e X.env) :: starEach es X.env := by rfl) (hpl : (backTo pos (starEach es X.env)).any (·.1) = false := by rfl) :
    DE c X (.Call (.Name x p) (e :: es) [] pos) (dCallN pre post tas) := by
  obtain ⟨f, fd, m, kp, b, F⟩ := O.ex
  exact ⟨fun g hgc => PE.imp (pe_call F (hr.mono hj) hg m kp b .nil pass0 (ha.run g hgc) hdb he hpl) fun _ _ _ h => lift_callN g hgc h⟩
end
end K21

set_option Elab.async false
set_option linter.all false
set_option maxRecDepth 100000
set_option maxHeartbeats 4000000
/-! K21T: defs that write a list which was data: statements at the top, loops that anchor what stood. -/
namespace K21
open PySem PySem.Spec PyProof.Rows L2
/-- read as plain data -/
@[simp] def wkD : DV → DV
  | .ancP d => .py d
  | .ancB D => .deb D
  | .nw ws => .py (.list (sts ws))
  | d => d
theorem RepD.wk {g : G} {F : Hp} {v : V} {d : DV} (h : RepD g F v d) : RepD g F v (wkD d) := by
  cases d with
  | ancP d => exact Dz.mono h.1 h.2
  | ancB D => exact DebR.mono h.1 h.2
  | nw ws => obtain ⟨p, rfl, h1, _, h2⟩ := h; exact Dz.lst h1 (dz_sts h2)
  | _ => exact h
@[simp] def dWk (te : TED) : TED := fun r n P => te r n fun d r1 n1 => P (wkD d) r1 n1
theorem de_wk {X : Cx} {c : Cst} {e : Expr} {te : TED} (h : DE c X e te) : DE c X e (dWk te) := ⟨fun g hg => PE.imp (h.run g hg) fun s H Q ⟨F, r, n, P, R, p, k⟩ => ⟨F, r, n, _, R, p, fun F1 d r1 n1 v H1 sb R1 rv p1 => k F1 (wkD d) r1 n1 v H1 sb R1 rv.wk p1⟩⟩
/-- an argument that stands for good -/
@[simp] def ancD : DV → DV
  | .py d => .ancP d
  | .deb D => .ancB D
  | d => d
structure DSt (c : Cst) (X : Cx) (st : Stmt) (t : TSD) : Prop where
  run : ∀ g : G, g.c = c → SubH g.F0 g.A → PS X st (liftS g t)
structure DSst (c : Cst) (X : Cx) (st : List Stmt) (t : TSD) : Prop where
  run : ∀ g : G, g.c = c → SubH g.F0 g.A → PSs X st (liftS g t)
@[simp] def keepA : Option Slot → Option Slot
  | some (.dat (.ancP d)) => some (.dat (.ancP d))
  | some (.dat (.ancB D)) => some (.dat (.ancB D))
  | some (.dat .strm) => some (.dat .strm)
  | some (.dat (.py d)) => if flatP d = true then some (.dat (.py d)) else none
  | _ => none
@[simp] def enterA : Option Slot → Option Slot
  | some (.dat (.ancP d)) => some (.dat (.ancP d))
  | some (.dat (.ancB D)) => some (.dat (.ancB D))
  | some (.dat .strm) => some (.dat .strm)
  | some (.dat (.py d)) => some (.dat (.ancP d))
  | some (.dat (.deb D)) => some (.dat (.ancB D))
  | _ => none
section
variable {X : Cx} {c : Cst} {e a b cc tg iter : Expr} {st : Stmt} {rest body : List Stmt} {te : TED} {tt : TTD} {t u : TSD} {src : TSrc} {x : Str} {pos px : Pos} {i : Nat}
theorem dst_of (h : DS c X st t) : DSt c X st t := ⟨fun g hg _ => h.run g hg⟩
theorem dsst_of (h : DSs c X rest t) : DSst c X rest t := ⟨fun g hg _ => h.run g hg⟩
theorem dsst_cons (h1 : DSt c X st t) (h2 : DSst c X rest u) : DSst c X (st :: rest) (sSeq t u) := ⟨fun g hg h0 => PSs.imp (pss_cons (h1.run g hg h0) (h2.run g hg h0)) fun D s H ⟨F, r, n, E, R, p, k⟩ =>
  ⟨F, r, n, _, R, p, ⟨fun F1 r1 n1 s1 H1 R1 p1 => ⟨F1, r1, n1, E, R1, p1, k.to⟩, k.rt0, k.bk0, k.ct0⟩⟩⟩
theorem dsst_one (h1 : DSt c X st t) : DSst c X [st] t := ⟨fun g hg h0 => pss_one (h1.run g hg h0)⟩
theorem dst_if {a b : List Stmt} (hc : DT c X cc tt) (ha : DSst c X a t) (hb : DSst c X b u) : DSt c X (.If cc a b pos) (sIf tt t u) := ⟨fun g hg h0 => PS.imp (ps_if (hc.run g hg) (ha.run g hg h0) (hb.run g hg h0)) fun D s H ⟨F, r, n, E, R, p, k⟩ =>
  ⟨F, r, n, _, R, p, fun F1 b r1 n1 H1 sb R1 p1 => by
    cases b with
    | true => exact ⟨F1, r1, n1, E, R1, p1, k.to⟩
    | false => exact ⟨F1, r1, n1, E, R1, p1, k.to⟩⟩⟩
def eraseH (F : Hp) (p : Addr) : Hp := fun a => if a = p then none else F a
theorem eraseH_some {F : Hp} {p a : Addr} {o : HO} (h : eraseH F p a = some o) : a ≠ p ∧ F a = some o := by
  unfold eraseH at h
  by_cases e : a = p
  · rw [if_pos e] at h; cases h
  · rw [if_neg e] at h; exact ⟨e, h⟩
theorem eraseH_ne {F : Hp} {p a : Addr} (h : a ≠ p) : eraseH F p a = F a := if_neg h
/-- the new list leaves what is frozen -/
theorem Rel.thaw {g : G} {F H : Hp} {r : DEnv} {n : Nat} {s : L2.St} (R : Rel g F r n s H) (h0 : SubH g.F0 g.A) {ws : List Str} (e : r[i]? = some (some (.dat (.nw ws)))) :
    ∃ F', Rel g F' ((r.map keepA).set i (some (.mu (.lst (sts ws))))) n s H := by
  obtain ⟨v, es, p, rfl, fp, ap, hok⟩ := R.dat e
  have f0 : g.F0 p = none := by
    cases q : g.F0 p with
    | none => rfl
    | some o => have := h0 p o q; rw [ap] at this; cases this
  have h00 : g.H0 p = none := R.bas.new p _ f0 fp (fun _ z => by cases z)
  have hS : ¬ InS g.S p := fun z => by rw [R.bas.strF p z] at fp; cases fp
  have Hp : H p = some (.lst (ws.map V.str)) := R.bas.und.lst fp
  have subA : SubH g.A F → SubH g.A (eraseH F p) := fun h a o ea => by
    have : a ≠ p := fun z => by rw [z, ap] at ea; cases ea
    rw [eraseH_ne this]; exact h a o ea
  have hb : Bas g (eraseH F p) n H := by
    refine ⟨fun a o ea => R.bas.und a o (eraseH_some ea).2, fun a o ea => ?_, fun a o k1 k2 k3 => ?_, R.bas.fr, R.bas.frt, fun a ps ea => R.bas.ntb a ps (eraseH_some ea).2, R.bas.tab, R.bas.str, fun a ha => ?_, R.bas.anc⟩
    · have : a ≠ p := fun z => by rw [z, f0] at ea; cases ea
      rw [eraseH_ne this]; exact R.bas.gro a o ea
    · exact R.bas.new a o k1 (eraseH_some k2).2 k3
    · unfold eraseH
      split
      · rfl
      · exact R.bas.strF a ha
  have R1 : Rel g (eraseH F p) (r.map keepA) n s H := by
    refine ⟨hb, by rw [List.length_map]; exact R.len, fun j z ez => ?_, fun j k m m' q _ e1 => ?_⟩
    · rw [List.getElem?_map] at ez
      cases hj : r[j]? with
      | none => rw [hj] at ez; cases ez
      | some w =>
        rw [hj] at ez
        simp only [Option.map_some, Option.some.injEq] at ez
        cases w with
        | none => simp at ez
        | some w =>
          obtain ⟨v, ev, hv⟩ := R.slot j w hj
          refine ⟨v, ev, ?_⟩
          cases w with
          | mu m => simp at ez
          | dat d =>
            cases d with
            | ancP d => simp only [keepA, Option.some.injEq] at ez; subst ez; exact ⟨subA hv.1, hv.2⟩
            | ancB d => simp only [keepA, Option.some.injEq] at ez; subst ez; exact ⟨subA hv.1, hv.2⟩
            | strm => simp only [keepA, Option.some.injEq] at ez; subst ez; exact hv
            | py d =>
              simp only [keepA] at ez
              split at ez
              · rename_i hf
                simp only [Option.some.injEq] at ez; subst ez; exact Dz.flat hv hf
              · cases ez
            | _ => simp at ez
    · rw [List.getElem?_map] at e1
      cases hj : r[j]? with
      | none => rw [hj] at e1; cases e1
      | some w =>
        rw [hj] at e1
        simp only [Option.map_some, Option.some.injEq] at e1
        cases w with
        | none => simp at e1
        | some w =>
          cases w with
          | mu m => simp at e1
          | dat d =>
            cases d <;> simp only [keepA] at e1 <;> try cases e1
            split at e1 <;> cases e1
  have R2 := R1.setM (i := i) (p := p) (m := .lst (sts ws)) (by unfold eraseH; rw [if_pos rfl]) h00 hS ⟨_, Hp, dz_sts hok⟩ fun j m' e1 => ?_
  · refine ⟨eraseH F p, ?_⟩
    have es2 : s.set i (some (.ref p)) = s := set_same es
    rw [es2] at R2
    exact R2
  · exfalso
    rw [List.getElem?_map] at e1
    cases hj : r[j]? with
    | none => rw [hj] at e1; cases e1
    | some w =>
      rw [hj] at e1
      simp only [Option.map_some, Option.some.injEq] at e1
      cases w with
      | none => simp at e1
      | some w =>
        cases w with
        | mu m => simp at e1
        | dat d =>
          cases d <;> simp only [keepA] at e1 <;> try cases e1
          split at e1 <;> cases e1
/-- x.append("..") of a new list that was data -/
@[simp] def sLate (i : Nat) : TSD := fun E r n => ∃ ws, r[i]? = some (some (.dat (.nw ws))) ∧ ws.length < sizeLine ∧ E.nx ((r.map keepA).set i none) n
theorem dst_late (i : Nat) {y : Str} {apos cpos q2 : Pos} {j : Nat} (ho : PE X (.Name x px) (tVar i)) (hy : PyData.strOk y = true := by decide +kernel)
    (hbase : attributeBase (.Name x px) "append" X.env (eval (.Name x px) X.env) = eval (.Name x px) X.env := by rfl)
    (hfew : ((backTo cpos (starEach (.Constant (.str y) j q2 :: []) X.env)).all (fun x => !x.1) && (backToKw cpos (keywordEach [] X.env)).all (fun x => x.1.isSome) && decide (([.Constant (.str y) j q2] : List Expr).length + ([] : List Keyword).length + (if ([] : List Keyword).isEmpty then 0 else 1) < 30)) = true := by rfl)
    (hline : (apos.endLine == cpos.line) = true := by rfl) (hs : starEach (.Constant (.str y) j q2 :: []) X.env = (false, eval (.Constant (.str y) j q2) X.env) :: starEach [] X.env := by rfl) (hplain : (backTo cpos (starEach [] X.env)).any (·.1) = false := by rfl)
    (hsw : swapsWith (.Call (.Attribute (.Name x px) "append" apos) [.Constant (.str y) j q2] [] cpos) none pos.line X.env = pure false := by rfl) :
    DSt c X (.Expr (.Call (.Attribute (.Name x px) "append" apos) [.Constant (.str y) j q2] [] cpos) pos) (sLate i) := ⟨fun g hg h0 =>
  PS.imp ((ds_expr (c := c) (de_append i ho (de_str hy) hbase hfew hline hs hplain) hsw).run g hg) fun D s H ⟨F, r, n, E, R, ⟨ws, e, hl, p⟩, k⟩ => by
    obtain ⟨F', R'⟩ := R.thaw h0 e
    have hi : i < (r.map keepA).length := by rw [List.length_map]; exact (List.getElem?_eq_some_iff.mp e).1
    have e' : ((r.map keepA).set i (some (.mu (.lst (sts ws)))))[i]? = some (some (.mu (.lst (sts ws)))) := List.getElem?_set_self hi
    refine ⟨F', _, n, { E with nx := fun r2 n2 => r2 = ((r.map keepA).set i (some (.mu (.lst (sts ws))))).set i (some (.mu (.lst (sts ws ++ [.str y])))) ∧ n2 = n }, R', ⟨⟨_, e'⟩, _, _, e', rfl, by simpa using hl, rfl, rfl⟩, ⟨fun F2 r2 n2 s2 H2 R2 q => ?_, k.rt0, k.bk0, k.ct0⟩⟩
    obtain ⟨rfl, rfl⟩ := q
    refine k.nx0 F2 _ n2 s2 H2 (R2.weak (by simp) rfl fun l z ez => ⟨?_, rfl⟩) p
    by_cases hl : l = i
    · subst hl
      rw [List.getElem?_set_self hi] at ez; cases ez
    · rw [List.getElem?_set_ne (Ne.symm hl)] at ez
      rw [List.getElem?_set_ne (Ne.symm hl), List.getElem?_set_ne (Ne.symm hl)]
      exact ez⟩
/-! ### a loop that anchors what stood ahead of it -/
def G.loop (g : G) (F H : Hp) : G := { g with F0 := F, H0 := H, A := F }
theorem Rel.loop {g : G} {F H : Hp} {r : DEnv} {n : Nat} {s : L2.St} (R : Rel g F r n s H) : Rel (g.loop F H) F (r.map enterA) n s H := by
  refine ⟨⟨R.bas.und, .refl F, fun a o h1 h2 _ => absurd (h2.symm.trans h1) (Option.some_ne_none _), fun a o e _ _ => e, fun a ps e => ⟨ps, e⟩, R.bas.ntb, R.bas.tab, R.bas.str, R.bas.strF, fun a o e => ⟨R.bas.und a o e, fun z => ?_, fun ps z => R.bas.ntb a ps (by rw [← z]; exact e)⟩⟩, by rw [List.length_map]; exact R.len, fun j z ez => ?_, fun j k m m' q _ e1 => ?_⟩
  · have e' : F a = some o := e
    rw [R.bas.strF a z] at e'; cases e'
  · rw [List.getElem?_map] at ez
    cases hj : r[j]? with
    | none => rw [hj] at ez; cases ez
    | some w =>
      rw [hj] at ez
      simp only [Option.map_some, Option.some.injEq] at ez
      cases w with
      | none => simp at ez
      | some w =>
        obtain ⟨v, ev, hv⟩ := R.slot j w hj
        refine ⟨v, ev, ?_⟩
        cases w with
        | mu m => simp at ez
        | dat d =>
          cases d with
          | ancP d => simp only [enterA, Option.some.injEq] at ez; subst ez; exact ⟨.refl F, Dz.mono hv.1 hv.2⟩
          | ancB d => simp only [enterA, Option.some.injEq] at ez; subst ez; exact ⟨.refl F, DebR.mono hv.1 hv.2⟩
          | strm => simp only [enterA, Option.some.injEq] at ez; subst ez; exact hv
          | py d => simp only [enterA, Option.some.injEq] at ez; subst ez; exact ⟨.refl F, hv⟩
          | deb d => simp only [enterA, Option.some.injEq] at ez; subst ez; exact ⟨.refl F, hv⟩
          | _ => simp at ez
  · rw [List.getElem?_map] at e1
    cases hj : r[j]? with
    | none => rw [hj] at e1; cases e1
    | some w =>
      rw [hj] at e1
      simp only [Option.map_some, Option.some.injEq] at e1
      cases w with
      | none => simp at e1
      | some w =>
        cases w with
        | mu m => simp at e1
        | dat d => cases d <;> simp only [enterA] at e1 <;> cases e1
theorem Rel.loopB {g : G} {F F' H H' : Hp} {r : DEnv} {n n' : Nat} {s : L2.St} (R : Rel g F r n s H) (b : Bas (g.loop F H) F' n' H') : Bas g F' n' H' := by
  refine ⟨b.und, R.bas.gro.trans b.gro, fun a u h1 h2 h3 => ?_, fun a o e h1 h2 => b.fr a o (R.bas.fr a o e h1 h2) h1 h2, fun a ps e => ?_, b.ntb, b.tab, b.str, b.strF, R.bas.anc⟩
  · cases q : F a with
    | none => exact R.bas.free0 (b.new a u q h2 h3)
    | some o => exact R.bas.new a o h1 q (by have := b.gro a o q; rw [h2] at this; cases this; exact h3)
  · obtain ⟨ps', q⟩ := R.bas.frt a ps e
    exact b.frt a ps' q
theorem Rel.loopR {g : G} {F F' H H' : Hp} {r : DEnv} {n n' : Nat} {s : L2.St} {v : V} {d : DV} (R : Rel g F r n s H) (b : Bas (g.loop F H) F' n' H') (h : RepD (g.loop F H) F' v d) (pl : plainD d = true) : RepD g F' v d := by
  cases d with
  | oldB D => cases pl
  | ancP d => cases pl
  | ancB D => cases pl
  | nw ws =>
    obtain ⟨p, rfl, h1, h2, h3⟩ := h
    refine ⟨p, rfl, h1, ?_, h3⟩
    have z : H p = none := b.new p _ h2 h1 (fun _ z => by cases z)
    cases q : g.A p with
    | none => rfl
    | some o =>
      obtain ⟨⟨hs, _⟩, _⟩ := R.ancS p o q
      rcases hs with hs | ⟨_, _, _, hs⟩ <;> have := (strip_some hs).2 <;> rw [z] at this <;> cases this
  | _ => exact h
def sForA (b : Bnd) (src : TSrc) (t : TSD) : TSD := fun E r n => src r n fun ds r1 n1 => ∃ I : Nat → DEnv → Nat → Prop, I 0 (r1.map enterA) n1 ∧
  (∀ k d r n, ds[k]? = some d → I k r n → b.bind d r fun r => t { E with nx := I (k + 1), ct := I (k + 1), bk := fun _ _ => False } r n) ∧ ∀ r n, I ds.length r n → E.nx (r.map fun _ => none) n
def liftST (c : Cst) (t : TSD) : TS := fun D s H => ∃ g : G, g.c = c ∧ SubH g.F0 g.A ∧ liftS g t D s H
theorem DSst.lifted (h : DSst c X body t) : PSs X body (liftST c t) := ⟨fun pins s σ H D I ⟨g, hg, h0, q⟩ => (h.run g hg h0).run pins s σ H D I q⟩
theorem dst_forA (b : Bnd) (hp : PassesOwn (model X.prog X.w) X.A X.env X.xe) (hc : X.calm = true) (hi : DI c X tg iter src) (hb : PG X tg (b.tg X.K)) (ht : DSst c X body t) (hs : ∀ x, foldedSetIterable iter X.env x = pure x := by intro _; rfl) : DSt c X (.For tg iter body [] pos) (sForA b src t) := ⟨fun g hg _ =>
  PS.imp (ps_for hp hc (hi.run g hg) hb ht.lifted hs) fun D s H ⟨F, r, n, E, R, p, k⟩ => ⟨F, r, n, _, R, p, fun F1 ds r1 n1 J H1 sb R1 sv ⟨I, h0, hs, hd⟩ => by
    have J0 := R1.loop
    refine ⟨fun i m s' H' => m = ds.length - i ∧ i ≤ ds.length ∧ ∃ F r' n, Rel (g.loop F1 H1) F r' n s' H' ∧ I i r' n, ⟨ds.length, by simp, Nat.zero_le _, F1, _, n1, J0, h0⟩, ?_⟩
    rintro i m s' H ⟨rfl, hi, F2, r2, n2, R2, hI⟩
    have ua : Under g.A H := R1.undA' fun a o e1 e2 e3 _ => R2.bas.fr a o e1 e2 e3
    have svi := sv F2 H ⟨R2.bas.gro, ua⟩ R2.bas.und
    by_cases hlt : i < ds.length
    · refine .inr ⟨svi.1 i hlt, fun s'' H' => ∃ F r n, Rel (g.loop F1 H1) F r n s'' H' ∧ I (i + 1) r n, fun s'' H' h => ⟨ds.length - (i + 1), by omega, rfl, hlt, h⟩, fun x H' y => ?_⟩
      have hdi : ds[i]? = some ds[i] := List.getElem?_eq_getElem hlt
      obtain ⟨F3, sb3, R3, zx⟩ : ∃ F3, SubH F2 F3 ∧ Rel (g.loop F1 H1) F3 r2 n2 s' H' ∧ Dz F3 x ds[i] := by
        rcases svi.2.2 i x H' _ hdi y with ⟨rfl, hx⟩ | ⟨p, us, es, rfl, hp, rfl, hu, ed⟩
        · exact ⟨F2, .refl F2, R2, hx⟩
        · have fp := R2.bas.und.some hp
          exact ⟨upd F2 p (.tup us), .new fp, R2.laid hp (fun _ z => by cases z), by rw [ed]; exact .tup upd_same (hu.mono (.new fp))⟩
      refine Bnd.run R3 zx (hs i _ r2 n2 hdi hI) fun r' s'' R4 hb _ => ?_
      exact ⟨g.loop F1 H1, hg, SubH.refl _, F3, r', n2, _, R4, hb, ⟨fun F4 r4 n4 s4 H4 R5 q => ⟨F4, r4, n4, R5, q⟩, fun F4 d n4 v H4 b4 rv pl q => k.rt0 F4 d n4 v H4 (R1.loopB b4) (R1.loopR b4 rv pl) pl q, fun F4 r4 n4 s4 H4 R5 q => q.elim, fun F4 r4 n4 s4 H4 R5 q => ⟨F4, r4, n4, R5, q⟩⟩⟩
    · have e : i = ds.length := by omega
      subst e
      have none' : ∀ {l : Nat} {z : Slot}, (r2.map fun _ => (none : Option Slot))[l]? = some (some z) → False := fun {l z} ez => by
        rw [List.getElem?_map] at ez
        cases h : r2[l]? with
        | none => rw [h] at ez; cases ez
        | some w => rw [h] at ez; cases ez
      exact .inl ⟨svi.2.1 _ rfl, k.nx0 F2 _ n2 s' H ⟨R1.loopB R2.bas, by rw [List.length_map]; exact R2.len, fun l z ez => (none' ez).elim, fun l _ m _ _ _ e1 => (none' e1).elim⟩ (hd r2 n2 hI)⟩⟩⟩
end
/-! ### such a def -/
theorem ok_ofT {P : Program} {w : World} {K : PySem.W.Frag} {mg : Str → Option Value} {base : Heap} {c : Cst} {pre : List DV → Nat → Prop} {post : List DV → Nat → DV → Nat → Prop} {x qual : Str} {st : Stmt} {f : Addr} {fd : FuncData} {N ps : List Str} {k : Nat}
    (F : Fun K x qual st f fd) (S : FnScope N ps (defScope st)) (hlen : ∀ ds n, pre ds n → ds.length = ps.length)
    (hbody : ∀ (cdv : Value) (A : Around) (outer : List Env) (s : Shared) (H : Hp) (E : XK), Room k (A.deeper (envOfC qual (defScope st) s.heap.objs.size f cdv)) →
      ∃ t, DSst c (cxOf CX0 P w K mg base N qual (defScope st) f cdv A outer s H E).nox (defBody st) t ∧ ∀ ds n, pre ds n → t { nx := fun _ n' => post ds n (.py .none) n', rt := fun d n' => post ds n d n' } (startD N (ds.map ancD)) n) :
    FnOk P w K mg base CX0 (k + 1) f fd ps (prom c pre post) := by
  refine F.ok S (fun vs H Q E h => ?_) (fun cdv A outer s H vs Q E hr h => ?_)
  · obtain ⟨g, ds, n, _, _, _, _, rs, hp, _⟩ := h
    rw [Paired.length rs]; exact hlen ds n hp
  · obtain ⟨g, ds, n, hg, hH, hA, b, rs, hp, q⟩ := h
    obtain ⟨t, ht, hb⟩ := hbody cdv A outer s H E hr
    have rs' : RepAll g g.F0 vs (ds.map ancD) := by
      have : ∀ {vs : List V} {ds : List DV}, RepAll g g.F0 vs ds → RepAll g g.F0 vs (ds.map ancD) := by
        intro vs ds h
        induction h with
        | nil => exact .nil
        | @cons v d _ _ a t ih =>
          refine .cons ?_ ih
          cases d with
          | py d => exact ⟨by rw [hA]; exact .refl _, by rw [hA]; exact a⟩
          | deb d => exact ⟨by rw [hA]; exact .refl _, by rw [hA]; exact a⟩
          | _ => exact a
      exact this rs
    exact ⟨_, ht.run g hg (by rw [hA]; exact .refl _), g.F0, startD N (ds.map ancD), n, _, rel_start b rs', hb ds n hp, ⟨fun F' r' n' s' H' R hx => q F' (.py .none) n' .non H' R.bas Dz.non rfl hx, fun F' d n' v H' b' rv pl hx => q F' d n' v H' b' rv pl hx, fun _ _ _ _ _ _ z => z.elim, fun _ _ _ _ _ _ z => z.elim⟩⟩
theorem ok_defT {P : Program} {w : World} {K : PySem.W.Frag} {mg : Str → Option Value} {base : Heap} {c : Cst} {pre : List DV → Nat → Prop} {post : List DV → Nat → DV → Nat → Prop} {x : Str} {st : Stmt} {N ps : List Str} {k : Nat} (D : DefAt K mg x st)
    (hb : ∀ (kV doc pm : Value) (an : Option Addr) (cdv ct : Value) (us : List Value), us.length = ps.length → bindArgs (PySem.W.fnOf x x (defArgs st) (defBody st) (defScope st) .none kV doc pm an cdv ct) ⟨us, []⟩ = pure (ps.zip us))
    (S : FnScope N ps (defScope st)) (hlen : ∀ ds n, pre ds n → ds.length = ps.length)
    (hbody : ∀ (f : Addr) (cdv : Value) (A : Around) (outer : List Env) (s : Shared) (H : Hp) (E : XK), Room k (A.deeper (envOfC x (defScope st) s.heap.objs.size f cdv)) →
      ∃ t, DSst c (cxOf CX0 P w K mg base N x (defScope st) f cdv A outer s H E).nox (defBody st) t ∧ ∀ ds n, pre ds n → t { nx := fun _ n' => post ds n (.py .none) n', rt := fun d n' => post ds n d n' } (startD N (ds.map ancD)) n) :
    OkD P w K mg base c x ps (k + 1) pre post := by
  obtain ⟨f, fd, F, m⟩ := D.ex
  exact ⟨f, fd, m, F.kp, F.binds hb, ok_ofT F S hlen (hbody f)⟩
end K21

set_option Elab.async false
set_option linter.all false
set_option maxRecDepth 100000
set_option maxHeartbeats 4000000
/-! K21L: typed comprehensions; the first defs keep their promises. -/
namespace K21
open PySem PySem.Spec PyProof.Rows L2
section
variable {α : Type} {i j : Nat} {src : TSrc} {tt : TTD} {te : TED} {vs : List Nat} {r : DEnv} {n : Nat} {P : DV → DEnv → Nat → Prop}
theorem turn_t (xs : List α) (enc : α → PD) (q : α → Bool) (f : α → PD) (hi : i ∈ vs) (hl : xs.length ≤ sizeLine) (hw : wipeD r vs = r)
    (ht : ∀ x ∈ xs, EvT tt (r.set i (some (.dat (.py (enc x))))) n (q x)) (he : ∀ x ∈ xs, q x = true → Ev te (r.set i (some (.dat (.py (enc x))))) n (.py (f x))) :
    TurnD (.one i) tt te vs (xs.map enc) (fun k acc r' n' => r' = r ∧ n' = n ∧ acc = ((xs.take k).filter q).map f) := by
  rintro k d acc r' n' hd ⟨rfl, rfl, rfl⟩
  rw [List.getElem?_map] at hd
  cases hp : xs[k]? with
  | none => rw [hp] at hd; cases hd
  | some x =>
    rw [hp] at hd
    cases hd
    have hm : x ∈ xs := List.mem_of_getElem? hp
    refine ht x hm _ ?_
    have e1 : wipeD (r'.set i (some (.dat (.py (enc x))))) vs = r' := by rw [wipeD_set hi, hw]
    cases hq : q x with
    | true =>
      rw [if_pos rfl]
      refine he x hm hq _ ⟨f x, rfl, ?_, e1, rfl, ?_⟩
      · have h1 : k < xs.length := (List.getElem?_eq_some_iff.mp hp).1
        have h2 := List.length_filter_le q (xs.take k)
        rw [List.length_take] at h2
        rw [List.length_map]
        omega
      · rw [take_succ_get hp, List.filter_append, List.map_append]
        simp [hq]
    | false =>
      rw [if_neg Bool.false_ne_true]
      refine ⟨e1, rfl, ?_⟩
      rw [take_succ_get hp, List.filter_append, List.map_append]
      simp [hq]
/-- a comprehension over typed items -/
theorem lct (xs : List α) (enc : α → PD) (q : α → Bool) (f : α → PD) (hs : ∀ K : List PD → DEnv → Nat → Prop, K (xs.map enc) r n → src r n K) (hi : i ∈ vs) (hl : xs.length ≤ sizeLine) (hw : wipeD r vs = r)
    (ht : ∀ x ∈ xs, EvT tt (r.set i (some (.dat (.py (enc x))))) n (q x)) (he : ∀ x ∈ xs, q x = true → Ev te (r.set i (some (.dat (.py (enc x))))) n (.py (f x))) (hP : P (.py (.list ((xs.filter q).map f))) r n) : tLcD (.one i) src tt te vs r n P := by
  refine hs _ ⟨_, ⟨hw, rfl, rfl⟩, turn_t xs enc q f hi hl hw ht he, fun acc r' n' ⟨e1, e2, e3⟩ => ?_⟩
  subst e1 e2 e3
  rw [List.length_map, List.take_length]
  exact hP
theorem lcta (xs : List α) (enc : α → PD) (f : α → PD) (hs : ∀ K : List PD → DEnv → Nat → Prop, K (xs.map enc) r n → src r n K) (hi : i ∈ vs) (hl : xs.length ≤ sizeLine) (hw : wipeD r vs = r)
    (he : ∀ x ∈ xs, Ev te (r.set i (some (.dat (.py (enc x))))) n (.py (f x))) (hP : P (.py (.list (xs.map f))) r n) : tLcD (.one i) src tYesD te vs r n P := by
  refine lct xs enc (fun _ => true) f hs hi hl hw (fun d _ K h => h) (fun d hd _ => he d hd) ?_
  have e : (xs.filter fun _ => true) = xs := List.filter_eq_self.mpr fun _ _ => rfl
  rw [e]
  exact hP
theorem lctM (xs : List α) (enc : α → PD) (q : α → Bool) (f : α → PD) (hs : r[j]? = some (some (.mu (.lst (xs.map enc))))) (hi : i ∈ vs) (hl : xs.length ≤ sizeLine) (hw : wipeD (r.set j none) vs = r.set j none)
    (ht : ∀ x ∈ xs, EvT tt ((r.set j none).set i (some (.dat (.py (enc x))))) n (q x)) (he : ∀ x ∈ xs, q x = true → Ev te ((r.set j none).set i (some (.dat (.py (enc x))))) n (.py (f x))) (hP : P (.py (.list ((xs.filter q).map f))) r n) : tLcM j (.one i) tt te vs r n P := by
  refine ⟨_, hs, _, ⟨hw, rfl, rfl⟩, turn_t xs enc q f hi hl hw ht he, fun acc r' n' ⟨e1, e2, e3⟩ => ?_⟩
  subst e1 e2 e3
  rw [List.length_map, List.take_length, List.set_set]
  have e : r.set j (some (.mu (.lst (xs.map enc)))) = r := set_same hs
  rw [e]
  exact hP
theorem lctK (xs : List Str) {kvs : List (Str × PD)} (q : Str → Bool) (f : Str → PD) (hs : r[j]? = some (some (.dat (.dct kvs)))) (hk : keysD kvs = sts xs) (hi : i ∈ vs) (hl : xs.length ≤ sizeLine) (hw : wipeD r vs = r)
    (ht : ∀ x ∈ xs, EvT tt (r.set i (some (.dat (.py (.str x))))) n (q x)) (he : ∀ x ∈ xs, q x = true → Ev te (r.set i (some (.dat (.py (.str x))))) n (.py (f x))) (hP : P (.py (.list ((xs.filter q).map f))) r n) : tLcK j (.one i) tt te vs r n P := by
  refine ⟨kvs, hs, ?_⟩
  rw [hk]
  refine ⟨_, ⟨hw, rfl, rfl⟩, turn_t xs PyData.str q f hi hl hw ht he, fun acc r' n' ⟨e1, e2, e3⟩ => ?_⟩
  subst e1 e2 e3
  rw [List.length_map, List.take_length]
  exact hP
end
theorem mapB {α : Type} (l : List α) (q : α → Bool) : l.map (fun x => PyData.bool (q x)) = (l.map q).map PyData.bool := by simp
section
variable {P : Program} {w : World} {K : PySem.W.Frag} {mg : Str → Option Value} {base : Heap} {c : Cst}

theorem sc_is_within : FnScope ["lot", "other", "member"] ["lot", "other"] (defScope (topS 32)) := ⟨rfl, rfl, rfl, by decide +kernel, rfl, by decide +kernel, by decide +kernel⟩
@[simp] def f_is_within : List DV → DV
  | [.py (.list a), .py (.list b)] => .py (.bool (withinS (unS a) (unS b)))
  | _ => .py .none
def pre_within (ds : List DV) (_ : Nat) : Prop := ∃ a b : List Str, a.length ≤ sizeLine ∧ ds = [.py (.list (sts a)), .py (.list (sts b))]
theorem ok_is_within (D : DefAt K mg "is_within" (topS 32)) (B : Bn mg) : OkD P w K mg base c "is_within" ["lot", "other"] 1 pre_within (pv1 f_is_within) := by
  refine ok_def D (fun _ _ _ _ _ _ us hl => match us, hl with | [_, _], _ => rfl) sc_is_within (fun ds n h => ?_) (fun f cdv A outer s H E hr => ?_)
  · obtain ⟨a, b, _, rfl⟩ := h; rfl
  · refine ⟨_, (dss_one (ds_ret (de_all rfl rfl B.all (de_lc (own := [("member", 2)]) (.one 2) rfl sc_is_within.nd (di_lst (de_v 0 (pv 0))) (blkOk_by (N := ["lot", "other", "member"]) (sc := defScope (topS 32)) (own := [("member", 2)]) (by decide +kernel)) (fun _ _ _ _ _ => (pg_name (i := 2) sc_is_within.nd rfl (Or.inl rfl))) (fun _ _ _ _ _ => dts_nil) (fun _ _ _ _ _ => (de_in (hu65 hr) (de_v 2 (pv 2)) (de_v 1 (pv 1)))))))), fun ds n h => ?_⟩
    obtain ⟨a, b, hl, rfl⟩ := h
    simp only [sRet, dCB, dCons, dNil]
    refine lcta a PyData.str (fun x => .bool (decide (x ∈ b))) (fun K h => ⟨_, rfl, _, rfl, h⟩) (by simp) hl rfl (fun x hx P hP => ?_) ?_
    · simp [startD]; exact hP
    · exact ⟨a.map _, by rw [mapB], by simp [pv1, withinS]; rfl⟩

theorem sc_clash_in : FnScope ["debate", "members", "pairs", "pair"] ["debate", "members"] (defScope (topS 26)) := ⟨rfl, rfl, rfl, by decide +kernel, rfl, by decide +kernel, by decide +kernel⟩
@[simp] def f_clash_in : List DV → DV
  | [.deb D, .py (.list m)] => .py (optP (clashP D (unS m)))
  | _ => .py .none
def pre_DM (ds : List DV) (_ : Nat) : Prop := ∃ (D : Deb) (m : List Str), DOk D ∧ m.length ≤ 64 ∧ (∀ x ∈ m, x ∈ D.ns) ∧ ds = [.deb D, .py (.list (sts m))]
theorem ok_clash_in (D : DefAt K mg "clash_in" (topS 26)) (B : Bn mg) (DT : DebT K c.C) : OkD P w K mg base c "clash_in" ["debate", "members"] 1 pre_DM (pv1 f_clash_in) := by
  refine ok_def D (fun _ _ _ _ _ _ us hl => match us, hl with | [_, _], _ => rfl) sc_clash_in (fun ds n h => ?_) (fun f cdv A outer s H E hr => ?_)
  · obtain ⟨a, b, _, _, _, rfl⟩ := h; rfl
  · refine ⟨_, (dss_cons (ds_setLc (i := 2) (y := "pairs") rfl rfl (own := [("pair", 3)]) (.one 3) rfl sc_clash_in.nd (di_lst (de_fld DT.cls DT.nO (de_v 0 (pv 0)))) (blkOk_by (N := ["debate", "members", "pairs", "pair"]) (sc := defScope (topS 26)) (own := [("pair", 3)]) (by decide +kernel)) (fun _ _ _ _ _ => (pg_name (i := 3) sc_clash_in.nd rfl (Or.inl rfl))) (fun _ _ _ _ _ => (dts_one (DW.dt (dw_and (dt_in (hu65 hr) (de_ix (de_v 3 (pv 3)) de_int) (de_v 1 (pv 1))) (dw_and1 (dt_in (hu65 hr) (de_ix (de_v 3 (pv 3)) de_int) (de_v 1 (pv 1)))))))) (fun _ _ _ _ _ => (de_v 3 (pv 3))) (sw_true rfl rfl rfl (by decide +kernel))) (dss_one (ds_ret (de_if (dt_ne (hu64 hr) (de_v 2 (pv 2)) (de_lst da_nil)) (de_ix (de_v 2 (pv 2)) de_int) de_non)))), fun ds n h => ?_⟩
    obtain ⟨D, m, hD, _, _, rfl⟩ := h
    simp [startD, pv1]
    refine lct D.ps pairD (fun p => decide (p.1 ∈ m) && decide (p.2 ∈ m)) pairD (fun K h => by simp; exact h) (by simp) (by have := hD.l2; rw [szL]; omega) rfl (fun p hp K hK => ?_) (fun p hp hq K hK => by simp; exact hK) ?_
    · simp [pairD]
      by_cases e : p.1 ∈ m <;> simp [e] at hK ⊢ <;> exact hK
    · simp [clashP]
      cases e : D.ps.filter (fun p => decide (p.1 ∈ m) && decide (p.2 ∈ m)) with
      | nil => exact .inl ⟨rfl, by rw [← List.head?_filter, e]; rfl⟩
      | cons p r => exact .inr ⟨by simp [PyData.eqv, PyData.eqvAll], by rw [← List.head?_filter, e]; simp [optP]⟩
theorem sc_calm_with : FnScope ["debate", "lot", "statement", "hits", "hit", "member"] ["debate", "lot", "statement"] (defScope (topS 29)) := ⟨rfl, rfl, rfl, by decide +kernel, rfl, by decide +kernel, by decide +kernel⟩
@[simp] def f_calm_with : List DV → DV
  | [.deb D, .py (.list l), .py (.str s)] => .py (.bool (calmB D (unS l) s))
  | _ => .py .none
def pre_calm (ds : List DV) (_ : Nat) : Prop := ∃ (D : Deb) (lot : List Str) (s : Str), DOk D ∧ s ∈ D.ns ∧ lot.length ≤ 64 ∧ ds = [.deb D, .py (.list (sts lot)), .py (.str s)]
theorem ok_calm_with (D : DefAt K mg "calm_with" (topS 29)) (B : Bn mg) (DT : DebT K c.C) : OkD P w K mg base c "calm_with" ["debate", "lot", "statement"] 1 pre_calm (pv1 f_calm_with) := by
  refine ok_def D (fun _ _ _ _ _ _ us hl => match us, hl with | [_, _, _], _ => rfl) sc_calm_with (fun ds n h => ?_) (fun f cdv A outer s H E hr => ?_)
  · obtain ⟨a, b, _, _, _, _, rfl⟩ := h; rfl
  · refine ⟨_, (dss_cons (ds_par (par2_G (i := 3) (j := 4) (pg_tup rfl (pgs_cons (pg_name (i := 3) sc_calm_with.nd rfl (Or.inr rfl)) (pgs_cons (pg_name (i := 4) sc_calm_with.nd rfl (Or.inr rfl)) pgs_nil)))) (de_get (hu1 hr) (de_fld DT.cls DT.nR (de_v 0 (pv 0))) (de_v 2 (pv 2))) (de_get (hu1 hr) (de_fld DT.cls DT.nD (de_v 0 (pv 0))) (de_v 2 (pv 2)))) (dss_one (ds_ret (de_and (de_notIn (hu65 hr) (de_v 2 (pv 2)) (de_v 3 (pv 3))) (de_one (de_not (de_any rfl rfl B.any (de_lc (own := [("member", 5)]) (.one 5) rfl sc_calm_with.nd (di_lst (de_v 1 (pv 1))) (blkOk_by (N := ["debate", "lot", "statement", "hits", "hit", "member"]) (sc := defScope (topS 29)) (own := [("member", 5)]) (by decide +kernel)) (fun _ _ _ _ _ => (pg_name (i := 5) sc_calm_with.nd rfl (Or.inl rfl))) (fun _ _ _ _ _ => dts_nil) (fun _ _ _ _ _ => (de_or (de_in (hu65 hr) (de_v 5 (pv 5)) (de_v 3 (pv 3))) (de_one (de_in (hu65 hr) (de_v 5 (pv 5)) (de_v 4 (pv 4)))))))))))))), fun ds n h => ?_⟩
    obtain ⟨D, lot, s, hD, hs, hl, rfl⟩ := h
    simp [startD, pv1, hs]
    by_cases e : s ∈ objs D s
    · exact .inl ⟨e, by simp [calmB, e]⟩
    · refine .inr ⟨e, ?_⟩
      refine lcta lot PyData.str (fun m => .bool (decide (m ∈ objs D s) || decide (m ∈ objd D s))) (fun K h => by simp; exact h) (by simp) (by rw [szL]; omega) rfl (fun x hx K hK => ?_) ?_
      · simp
        by_cases e : x ∈ objs D s <;> simp [e] at hK ⊢ <;> exact hK
      · exact ⟨lot.map _, by rw [mapB], by rw [any_dec]; simp [calmB, e]⟩
end
end K21

set_option Elab.async false
set_option linter.all false
set_option maxRecDepth 100000
set_option maxHeartbeats 4000000
/-! K21M: defs with loops. -/
namespace K21
open PySem PySem.Spec PyProof.Rows L2
theorem for_t {α : Type} {i : Nat} {src : TSrc} {t : TSD} {E : EndsD} {r : DEnv} {n : Nat} (xs : List α) (enc : α → PD) (I : Nat → DEnv → Nat → Prop) (hs : ∀ K : List PD → DEnv → Nat → Prop, K (xs.map enc) r n → src r n K) (h0 : I 0 r n)
    (hk : ∀ k x r n, xs[k]? = some x → I k r n → t { E with nx := I (k + 1), ct := I (k + 1), bk := E.nx } (r.set i (some (.dat (.py (enc x))))) n) (he : ∀ r n, I xs.length r n → E.nx r n) : sFor (.one i) src t E r n := by
  refine hs _ ⟨I, h0, fun k d r n hd hI => ?_, by rw [List.length_map]; exact he⟩
  rw [List.getElem?_map] at hd
  cases hp : xs[k]? with
  | none => rw [hp] at hd; cases hd
  | some x =>
    rw [hp] at hd
    cases hd
    exact hk k x r n hp hI
theorem for_t2 {α : Type} {i j : Nat} {src : TSrc} {t : TSD} {E : EndsD} {r : DEnv} {n : Nat} (xs : List α) (e1 e2 : α → PD) (I : Nat → DEnv → Nat → Prop) (hs : ∀ K : List PD → DEnv → Nat → Prop, K (xs.map fun x => .tuple [e1 x, e2 x]) r n → src r n K) (h0 : I 0 r n)
    (hk : ∀ k x r n, xs[k]? = some x → I k r n → t { E with nx := I (k + 1), ct := I (k + 1), bk := E.nx } ((r.set i (some (.dat (.py (e1 x))))).set j (some (.dat (.py (e2 x))))) n) (he : ∀ r n, I xs.length r n → E.nx r n) : sFor (.two i j) src t E r n := by
  refine hs _ ⟨I, h0, fun k d r n hd hI => ?_, by rw [List.length_map]; exact he⟩
  rw [List.getElem?_map] at hd
  cases hp : xs[k]? with
  | none => rw [hp] at hd; cases hd
  | some x =>
    rw [hp] at hd
    cases hd
    exact ⟨_, _, rfl, hk k x r n hp hI⟩
section
variable {P : Program} {w : World} {K : PySem.W.Frag} {mg : Str → Option Value} {base : Heap} {c : Cst}
def post_hit (ds : List DV) (n : Nat) (d : DV) (n' : Nat) : Prop := n' = n ∧ ∃ D m kvs, ds = [.deb D, .py (.list (sts m))] ∧ d = .dct kvs ∧ ∀ x, (lookD kvs x).isSome = hitB D m x
theorem sts_inj {a b : List Str} (h : sts a = sts b) : a = b := by rw [← unS_sts a, h, unS_sts]
theorem post_hit' {D : Deb} {m : List Str} {n n' : Nat} {d : DV} (h : post_hit [.deb D, .py (.list (sts m))] n d n') : n' = n ∧ ∃ kvs, d = .dct kvs ∧ ∀ x, (lookD kvs x).isSome = hitB D m x := by
  obtain ⟨h1, D', m', kvs, e, h2, h3⟩ := h
  simp only [List.cons.injEq, DV.deb.injEq, DV.py.injEq, PyData.list.injEq, and_true] at e
  obtain ⟨rfl, e⟩ := e
  have := sts_inj e
  subst this
  exact ⟨h1, kvs, h2, h3⟩

theorem sc_answered_in : FnScope ["debate", "members", "hit", "rows", "statement", "objector"] ["debate", "members"] (defScope (topS 24)) := ⟨rfl, rfl, rfl, by decide +kernel, rfl, by decide +kernel, by decide +kernel⟩
@[simp] def f_answered_in : List DV → DV
  | [.deb D, .py (.list m)] => .py (.list (sts (answersD D (unS m))))
  | _ => .py .none
theorem ok_answered_in (D : DefAt K mg "answered_in" (topS 24)) (B : Bn mg) (DT : DebT K c.C) (O_hit_by : OkD P w K mg base c "hit_by" ["debate", "members"] 1 pre_DM post_hit) : OkD P w K mg base c "answered_in" ["debate", "members"] 2 pre_DM (pv1 f_answered_in) := by
  refine ok_def D (fun _ _ _ _ _ _ us hl => match us, hl with | [_, _], _ => rfl) sc_answered_in (fun ds n h => ?_) (fun f cdv A outer s H E hr => ?_)
  · obtain ⟨a, b, _, _, _, rfl⟩ := h; rfl
  · refine ⟨_, (dss_cons (ds_set (i := 2) sc_answered_in.nd rfl (Or.inr rfl) (de_ok O_hit_by hr (by decide) rfl (da_cons (de_v 0 (pv 0)) (da_cons (de_v 1 (pv 1)) da_nil)))) (dss_cons (ds_set (i := 3) sc_answered_in.nd rfl (Or.inr rfl) (de_fld DT.cls DT.nR (de_v 0 (pv 0)))) (dss_one (ds_ret (de_lcK 3 (own := [("statement", 4)]) (.one 4) rfl sc_answered_in.nd (pv 3) (blkOk_by (N := ["debate", "members", "hit", "rows", "statement", "objector"]) (sc := defScope (topS 24)) (own := [("statement", 4)]) (by decide +kernel)) (fun _ _ _ _ _ => (pg_name (i := 4) sc_answered_in.nd rfl (Or.inl rfl))) (fun _ _ _ _ _ => (dts_one (dt_val (de_all rfl rfl B.all (de_lc (own := [("objector", 5)]) (.one 5) rfl sc_answered_in.nd (di_lst (de_get (hu1 hr) (de_v 3 (pv 3)) (de_v 4 (pv 4)))) (blkOk_by (N := ["debate", "members", "hit", "rows", "statement", "objector"]) (sc := (relS _ (defScope (topS 24)))) (own := [("objector", 5)]) (by decide +kernel)) (fun _ _ _ _ _ => (pg_name (i := 5) sc_answered_in.nd rfl (Or.inl rfl))) (fun _ _ _ _ _ => dts_nil) (fun _ _ _ _ _ => (de_dIn (hu1 hr) (de_v 5 (pv 5)) (de_v 2 (pv 2))))))))) (fun _ _ _ _ _ => (de_v 4 (pv 4)))))))), fun ds n h => ?_⟩
    have h0 := h
    obtain ⟨D, m, hD, hl, hm, rfl⟩ := h
    simp [startD, pv1]
    refine ⟨h0, fun d n2 hp => ?_⟩
    obtain ⟨rfl, kvs, rfl, hk⟩ := post_hit' hp
    refine lctK D.ns (fun s => (objs D s).all (hitB D m)) PyData.str rfl (keys_objs D) (by simp) (by have := hD.l1; rw [szL]; omega) rfl (fun x hx K hK => ?_) (fun x hx _ K hK => by simp; exact hK) ?_
    · simp
      refine lcta (objs D x) PyData.str (fun o => .bool (hitB D m o)) (fun K h => by simp [hx]; exact h) (by simp) (hD.os x) rfl (fun o ho K hK => ?_) ?_
      · simp [hk]; exact hK
      · refine ⟨(objs D x).map (hitB D m), by rw [mapB], ?_⟩
        rw [all_dec]; exact hK
    · exact ⟨rfl, rfl, rfl⟩
theorem sc_unanswered_in : FnScope ["debate", "members", "hit", "member", "objector"] ["debate", "members"] (defScope (topS 27)) := ⟨rfl, rfl, rfl, by decide +kernel, rfl, by decide +kernel, by decide +kernel⟩
@[simp] def f_unanswered_in : List DV → DV
  | [.deb D, .py (.list m)] => .py (optP (leftP D (unS m)))
  | _ => .py .none
theorem ok_unanswered_in (D : DefAt K mg "unanswered_in" (topS 27)) (B : Bn mg) (DT : DebT K c.C) (O_hit_by : OkD P w K mg base c "hit_by" ["debate", "members"] 1 pre_DM post_hit) : OkD P w K mg base c "unanswered_in" ["debate", "members"] 2 pre_DM (pv1 f_unanswered_in) := by
  refine ok_def D (fun _ _ _ _ _ _ us hl => match us, hl with | [_, _], _ => rfl) sc_unanswered_in (fun ds n h => ?_) (fun f cdv A outer s H E hr => ?_)
  · obtain ⟨a, b, _, _, _, rfl⟩ := h; rfl
  · refine ⟨_, (dss_cons (ds_set (i := 2) sc_unanswered_in.nd rfl (Or.inl rfl) (de_ok O_hit_by hr (by decide) rfl (da_cons (de_v 0 (pv 0)) (da_cons (de_v 1 (pv 1)) da_nil)))) (dss_cons (ds_for (.one 3) PassesOwn.never rfl (di_lst (de_v 1 (pv 1))) (pg_name (i := 3) sc_unanswered_in.nd rfl (Or.inl rfl)) (dss_one (ds_for (.one 4) PassesOwn.never rfl (di_lst (de_get (hu1 hr) (de_fld DT.cls DT.nR (de_v 0 (pv 0))) (de_v 3 (pv 3)))) (pg_name (i := 4) sc_unanswered_in.nd rfl (Or.inl rfl)) (dss_one (ds_if (dt_dNotIn (hu1 hr) (de_v 4 (pv 4)) (de_v 2 (pv 2))) (dss_one (ds_ret (de_tup (da_cons (de_v 3 (pv 3)) (da_cons (de_v 4 (pv 4)) da_nil))))) dss_nil))))) (dss_one (ds_ret de_non)))), fun ds n h => ?_⟩
    have h0 := h
    obtain ⟨D, m, hD, hl, hm, rfl⟩ := h
    simp [startD, pv1]
    refine ⟨h0, fun d n2 hp => ?_⟩
    obtain ⟨rfl, kvs, rfl, hk⟩ := post_hit' hp
    refine for_t m PyData.str (fun k r n => (∃ a b, r = [some (.dat (.deb D)), some (.dat (.py (.list (sts m)))), some (.dat (.dct kvs)), a, b]) ∧ n = n2 ∧ leftR D (hitB D m) (m.drop k) = leftP D m) (fun K h => by simp; exact h) ⟨⟨_, _, rfl⟩, rfl, rfl⟩ (fun k x r n hx ⟨⟨a, b, e⟩, en, hI⟩ => ?_) (fun r n ⟨_, en, hI⟩ => ?_)
    · subst e en
      have hxn : x ∈ D.ns := hm x (List.mem_of_getElem? hx)
      rw [drop_get hx] at hI
      refine for_t (objs D x) PyData.str (fun j r n' => (∃ b, r = [some (.dat (.deb D)), some (.dat (.py (.list (sts m)))), some (.dat (.dct kvs)), some (.dat (.py (.str x))), b]) ∧ n' = n ∧ ((objs D x).drop j).find? (fun o => !hitB D m o) = (objs D x).find? (fun o => !hitB D m o)) (fun K h => by simp [hxn]; exact h) ⟨⟨_, rfl⟩, rfl, rfl⟩ (fun j o r n' ho ⟨⟨b, e⟩, en, hJ⟩ => ?_) (fun r n' ⟨⟨b, e⟩, en, hJ⟩ => ?_)
      · subst e en
        rw [drop_get ho, List.find?_cons] at hJ
        have hko := hk o
        simp
        cases q : lookD kvs o with
        | some z =>
          rw [q] at hko
          rw [← hko] at hJ
          simp at hJ ⊢
          exact hJ
        | none =>
          rw [q] at hko
          rw [← hko] at hJ
          simp at hJ ⊢
          rw [leftR] at hI
          simp only [← hJ] at hI
          rw [← hI]
          exact ⟨by rw [szL]; omega, rfl⟩
      · subst e en
        simp at hJ
        refine ⟨⟨_, _, rfl⟩, rfl, ?_⟩
        rw [leftR] at hI
        have e : (objs D x).find? (fun o => !hitB D m o) = none := by
          rw [← hJ]
        rw [e] at hI
        exact hI
    · subst en
      have e : leftP D m = none := by rw [← hI]; simp [leftR]
      simp [e, optP]
end
end K21

set_option Elab.async false
set_option linter.all false
set_option maxRecDepth 100000
set_option maxHeartbeats 4000000
/-! K21N: lots and faults. -/
namespace K21
open PySem PySem.Spec PyProof.Rows L2
section
variable {X : Cx} {c : Cst} {a : Expr}
@[simp] def tNever : TTD := fun _ _ _ => False
theorem dt_never : DT c X a tNever := ⟨fun g _ => ⟨fun pins sh s H Q I ⟨F, r, n, P, R, p, k⟩ => p.elim⟩⟩
end
/-- the calm lots, grown statement by statement -/
def growC (D : Deb) (fd : List (List Str)) (s : Str) : List (List Str) := fd ++ (fd.filter fun l => calmB D l s).map (· ++ [s])
def calmL (D : Deb) (ns : List Str) : List (List Str) := ns.foldl (growC D) [[]]
theorem calmL_snoc (D : Deb) (ns : List Str) (s : Str) : calmL D (ns ++ [s]) = growC D (calmL D ns) s := by simp [calmL]
theorem calmL_sub (D : Deb) : ∀ (k : Nat) (ns : List Str), ns.length = k → (∀ l ∈ calmL D ns, l.Sublist ns) ∧ (calmL D ns).length ≤ 2 ^ k
  | 0, ns, h => by
    have : ns = [] := List.length_eq_zero_iff.mp h
    subst this
    simp [calmL]
  | k + 1, ns, h => by
    obtain ⟨xs, x, rfl⟩ : ∃ xs x, ns = xs ++ [x] := ⟨ns.dropLast, ns.getLast (by intro z; rw [z] at h; cases h), (List.dropLast_concat_getLast _).symm⟩
    have ih := calmL_sub D k xs (by simpa using h)
    rw [calmL_snoc]
    refine ⟨fun l hl => ?_, ?_⟩
    · rcases List.mem_append.mp hl with z | z
      · exact (ih.1 l z).trans (List.sublist_append_left _ _)
      · obtain ⟨l', h1, rfl⟩ := List.mem_map.mp z
        exact (ih.1 l' (List.mem_filter.mp h1).1).append (List.Sublist.refl _)
    · have := List.length_filter_le (fun l => calmB D l x) (calmL D xs)
      rw [growC, List.length_append, List.length_map, Nat.pow_succ]
      have := ih.2
      omega
def heldL (D : Deb) : List (List Str) := sortL ((calmL D D.ns).filter fun l => (leftP D l).isNone)
/-- the widest -/
def keepL (ls : List (List Str)) : List (List Str) := ls.foldl (fun kept lot => if kept.any (withinS lot) then kept else kept ++ [lot]) []
def greatL (ls : List (List Str)) : List (List Str) := sortL (keepL (ls.mergeSort fun a b => decide (b.length ≤ a.length)))
def greatsD (D : Deb) : List (List Str) := greatL (heldL D)
def faultH (D : Deb) (m : List Str) : PD := match (answersD D m).filter fun s => decide (s ∉ m) with
  | x :: _ => .tuple [.str "lacks", .str x]
  | [] => if m ∈ (greatsD D).filter (withinS m) then .none else match (greatsD D).filter (withinS m) with
    | g :: _ => .tuple [.str "greater", .list (sts g)]
    | [] => .none
def faultG (D : Deb) (m : List Str) : PD := match clashP D m with
  | some p => .tuple [.str "clash", .str p.1, .str p.2]
  | none => match leftP D m with
    | some p => .tuple [.str "unanswered", .str p.1, .str p.2]
    | none => faultH D m
def labS (D : Deb) (m : List Str) (s : Str) : Str := if s ∈ m then "in" else if hitB D m s then "out" else "undecided"
def post_lab (ds : List DV) (n : Nat) (d : DV) (n' : Nat) : Prop := n' = n ∧ ∃ D m, ds = [.deb D, .py (.list (sts m))] ∧ d = .dct (D.ns.map fun s => (s, .str (labS D m s)))
def unL : List PD → List (List Str)
  | .list a :: r => unS a :: unL r
  | _ :: r => unL r
  | [] => []
@[simp] theorem unL_lots : ∀ ls : List (List Str), unL (lotsD ls) = ls
  | [] => rfl
  | n :: ns => by
    show unS (sts n) :: unL (lotsD ns) = _
    rw [unS_sts, unL_lots ns]
theorem isNone_optP (o : Option (Str × Str)) : K21.isNone (.py (optP o)) = o.isNone := by cases o <;> rfl
section
variable {P : Program} {w : World} {K : PySem.W.Frag} {mg : Str → Option Value} {base : Heap} {c : Cst}

theorem sc_held_lots : FnScope ["debate", "found", "statement", "lot"] ["debate"] (defScope (topS 28)) := ⟨rfl, rfl, rfl, by decide +kernel, rfl, by decide +kernel, by decide +kernel⟩
@[simp] def f_held_lots : List DV → DV
  | [.deb D] => .py (.list (lotsD (heldL D)))
  | _ => .py .none
def pre_D (ds : List DV) (_ : Nat) : Prop := ∃ (D : Deb), DOk D ∧ D.ns.length ≤ 7 ∧ ds = [.deb D]
theorem ok_held_lots (D : DefAt K mg "held_lots" (topS 28)) (B : Bn mg) (DT : DebT K c.C) (O_calm_with : OkD P w K mg base c "calm_with" ["debate", "lot", "statement"] 1 pre_calm (pv1 f_calm_with)) (O_unanswered_in : OkD P w K mg base c "unanswered_in" ["debate", "members"] 2 pre_DM (pv1 f_unanswered_in)) :
    OkD P w K mg base c "held_lots" ["debate"] 3 pre_D (pv1 f_held_lots) := by
  refine ok_def D (fun _ _ _ _ _ _ us hl => match us, hl with | [_], _ => rfl) sc_held_lots (fun ds n h => ?_) (fun f cdv A outer s H E hr => ?_)
  · obtain ⟨a, b, _, rfl⟩ := h; rfl
  · refine ⟨_, (dss_cons (ds_newL (i := 1) sc_held_lots.nd rfl (Or.inl rfl) (da_cons (de_lst da_nil) da_nil)) (dss_cons (ds_for (.one 2) PassesOwn.never rfl (di_lst (de_fld DT.cls DT.nS (de_v 0 (pv 0)))) (pg_name (i := 2) sc_held_lots.nd rfl (Or.inr rfl)) (dss_one (ds_expr (de_extend 1 (pv 1) (de_lcM 1 (own := [("lot", 3)]) (.one 3) rfl sc_held_lots.nd (pv 1) (blkOk_by (N := ["debate", "found", "statement", "lot"]) (sc := defScope (topS 28)) (own := [("lot", 3)]) (by decide +kernel)) (fun _ _ _ _ _ => (pg_name (i := 3) sc_held_lots.nd rfl (Or.inl rfl))) (fun _ _ _ _ _ => (dts_one (dt_val (de_ok O_calm_with hr (by decide) rfl (da_cons (de_v 0 (pv 0)) (da_cons (de_v 3 (pv 3)) (da_cons (de_v 2 (pv 2)) da_nil))))))) (fun _ _ _ _ _ => (de_cat (de_v 3 (pv 3)) (de_lst (da_cons (de_v 2 (pv 2)) da_nil))))))))) (dss_one (ds_ret (de_sorted (hu64 hr) rfl B.sorted (de_lcM 1 (own := [("lot", 3)]) (.one 3) rfl sc_held_lots.nd (pv 1) (blkOk_by (N := ["debate", "found", "statement", "lot"]) (sc := defScope (topS 28)) (own := [("lot", 3)]) (by decide +kernel)) (fun _ _ _ _ _ => (pg_name (i := 3) sc_held_lots.nd rfl (Or.inl rfl))) (fun _ _ _ _ _ => (dts_one (dt_isN (de_ok O_unanswered_in hr (by decide) rfl (da_cons (de_v 0 (pv 0)) (da_cons (de_v 3 (pv 3)) da_nil))) de_non))) (fun _ _ _ _ _ => (de_v 3 (pv 3))))))))), fun ds n h => ?_⟩
    obtain ⟨D, hD, hl, rfl⟩ := h
    simp [startD, pv1]
    refine ⟨by rw [szL]; omega, ?_⟩
    have small : ∀ k, (calmL D (D.ns.take k)).length ≤ 128 ∧ ∀ l ∈ calmL D (D.ns.take k), l.Sublist D.ns := fun k => by
      obtain ⟨h1, h2⟩ := calmL_sub D _ (D.ns.take k) rfl
      have h3 : 2 ^ (D.ns.take k).length ≤ 2 ^ 7 := Nat.pow_le_pow_right (by omega) (by rw [List.length_take]; omega)
      exact ⟨by omega, fun l hx => (h1 l hx).trans (List.take_sublist _ _)⟩
    refine for_t D.ns PyData.str (fun k r n' => (∃ a, r = [some (.dat (.deb D)), some (.mu (.lst (lotsD (calmL D (D.ns.take k))))), a, none]) ∧ n' = n) (fun K h => by simp; exact h) ⟨⟨_, rfl⟩, rfl⟩ (fun k x r n' hx ⟨⟨a, e⟩, en⟩ => ?_) (fun r n' ⟨⟨a, e⟩, en⟩ => ?_)
    · subst e en
      have hxn : x ∈ D.ns := List.mem_of_getElem? hx
      obtain ⟨s1, s2⟩ := small k
      simp
      refine lctM (calmL D (D.ns.take k)) lotD (fun l => calmB D l x) (fun l => lotD (l ++ [x])) rfl (by simp) (by rw [szL]; omega) rfl (fun l hm K hK => ?_) (fun l hm hq K hK => ?_) ?_
      · have := (s2 l hm).length_le
        simp [lotD, pv1, -Bool.exists_bool]
        exact ⟨⟨D, l, x, hD, hxn, by omega, rfl⟩, hK⟩
      · have := (s2 l hm).length_le
        simp [lotD]
        refine ⟨by rw [szL]; omega, by rw [szL]; omega, ?_⟩
        simpa [lotD] using hK
      · simp
        refine ⟨?_, ?_⟩
        · have := List.length_filter_le (fun l => calmB D l x) (calmL D (D.ns.take k))
          simp only [lotsD, List.length_map]
          rw [szL]; omega
        · rw [take_succ_get hx, calmL_snoc]
          simp [growC, lotsD, lotD, Function.comp_def]
    · subst e en
      obtain ⟨s1, s2⟩ := small D.ns.length
      rw [List.take_length] at s1 s2
      simp only [List.take_length, sRet, dCB, dCons, dNil]
      refine lctM (calmL D D.ns) lotD (fun l => (leftP D l).isNone) lotD rfl (by simp) (by rw [szL]; omega) rfl (fun l hm K hK => ?_) (fun l hm hq K hK => by simp; exact hK) ?_
      · have := (s2 l hm).length_le
        simp [lotD, pv1]
        refine ⟨⟨D, l, hD, by omega, fun y hy => (s2 l hm).subset hy, rfl⟩, ?_⟩
        have e := isNone_optP (leftP D l)
        simp only [K21.isNone] at e
        rw [e]
        exact hK
      · exact kSort_lots (by have := List.length_filter_le (fun l => (leftP D l).isNone) (calmL D D.ns); rw [szL]; omega) ⟨rfl, rfl, rfl⟩

@[simp] theorem ex_notb (x : Bool) (p : Bool → Prop) : (∃ b, x = !b ∧ p b) ↔ p (!x) := ⟨fun ⟨b, e, h⟩ => by subst e; simpa using h, fun h => ⟨!x, by simp, h⟩⟩
@[simp] theorem eqv_nil (ds : List PD) : PyData.eqv (.list ds) (.list []) = ds.isEmpty := by
  cases ds <;> simp [PyData.eqv, PyData.eqvAll]
theorem eqv_sD (a b : Str) (h : a ≠ b) : PyData.eqv (.str a) (.str b) = false := by rw [eqv_str]; simp [h]
@[simp] theorem eqv_cc : PyData.eqv (.str "greatest") (.str "least") = false := eqv_sD _ _ (by decide)
@[simp] theorem eqv_cc2 : PyData.eqv (.str "greatest") (.str "calm") = false := eqv_sD _ _ (by decide)
@[simp] theorem eqv_cc3 : PyData.eqv (.str "greatest") (.str "settled") = false := eqv_sD _ _ (by decide)
@[simp] theorem eqv_cc4 : PyData.eqv (.str "greatest") (.str "whole") = false := eqv_sD _ _ (by decide)
@[simp] theorem eqv_cc5 : PyData.eqv (.str "greatest") (.str "held") = false := eqv_sD _ _ (by decide)
@[simp] theorem eqv_cc6 : PyData.eqv (.str "greatest") (.str "greatest") = true := by rw [eqv_str]; simp
@[simp] theorem inD_cc : inD (.str "greatest") [.str "calm", .str "settled"] = false := by decide +kernel
@[simp] theorem shape_cc : shapeD (.list [.str "calm", .str "settled"]) = true := by decide +kernel

theorem sc_lots_in : FnScope ["debate", "way", "found", "lot"] ["debate", "way"] (defScope (topS 34)) := ⟨rfl, rfl, rfl, by decide +kernel, rfl, by decide +kernel, by decide +kernel⟩
@[simp] def f_greatest_of : List DV → DV
  | [.py (.list l)] => .py (.list (lotsD (greatL (unL l))))
  | _ => .py .none
def pre_great (ds : List DV) (_ : Nat) : Prop := ∃ ls : List (List Str), ls.length ≤ 128 ∧ (∀ l ∈ ls, l.length ≤ 64) ∧ ds = [.py (.list (lotsD ls))]
@[simp] def f_lots_in : List DV → DV
  | [.deb D, _] => .py (.list (lotsD (greatsD D)))
  | _ => .py .none
def pre_DW (ds : List DV) (_ : Nat) : Prop := ∃ (D : Deb), DOk D ∧ D.ns.length ≤ 7 ∧ ds = [.deb D, .py (.str "greatest")]
theorem held_small {D : Deb} (h : D.ns.length ≤ 7) : (heldL D).length ≤ 128 ∧ ∀ l ∈ heldL D, l.Sublist D.ns := by
  obtain ⟨h1, h2⟩ := calmL_sub D _ D.ns rfl
  have h3 : 2 ^ D.ns.length ≤ 2 ^ 7 := Nat.pow_le_pow_right (by omega) h
  have h4 := List.length_filter_le (fun l => (leftP D l).isNone) (calmL D D.ns)
  have hp := sort_pm lotD ((calmL D D.ns).filter fun l => (leftP D l).isNone)
  refine ⟨?_, fun l hl => h1 l (List.mem_filter.mp (hp.mem_iff.mp hl)).1⟩
  show (((calmL D D.ns).filter fun l => (leftP D l).isNone).mergeSort (leD lotD)).length ≤ 128
  rw [hp.length_eq]
  omega
theorem ok_lots_in (D : DefAt K mg "lots_in" (topS 34)) (B : Bn mg) (DT : DebT K c.C) (O_held_lots : OkD P w K mg base c "held_lots" ["debate"] 3 pre_D (pv1 f_held_lots)) (O_greatest_of : OkD P w K mg base c "greatest_of" ["lots"] 3 pre_great (pv1 f_greatest_of)) :
    OkD P w K mg base c "lots_in" ["debate", "way"] 4 pre_DW (pv1 f_lots_in) := by
  refine ok_def D (fun _ _ _ _ _ _ us hl => match us, hl with | [_, _], _ => rfl) sc_lots_in (fun ds n h => ?_) (fun f cdv A outer s H E hr => ?_)
  · obtain ⟨a, b, _, rfl⟩ := h; rfl
  · refine ⟨_, (dss_cons (ds_if (dt_eq (hu64 hr) (de_v 1 (pv 1)) de_str) dss_never dss_nil) (dss_cons (ds_if (dt_inQ (hu65 hr) (de_v 1 (pv 1)) (de_tup (da_cons de_str (da_cons de_str da_nil)))) dss_never dss_nil) (dss_cons (ds_set (i := 2) sc_lots_in.nd rfl (Or.inl rfl) (de_ok O_held_lots hr (by decide) rfl (da_cons (de_v 0 (pv 0)) da_nil))) (dss_cons (ds_if (dt_eq (hu64 hr) (de_v 1 (pv 1)) de_str) dss_never dss_nil) (dss_one (ds_ret (de_if (dt_eq (hu64 hr) (de_v 1 (pv 1)) de_str) (de_ok O_greatest_of hr (by decide) rfl (da_cons (de_v 2 (pv 2)) da_nil)) (de_v 2 (pv 2))))))))), fun ds n h => ?_⟩
    obtain ⟨D, hD, hl, rfl⟩ := h
    obtain ⟨k1, k2⟩ := held_small hl
    simp [startD, pv1, -Bool.exists_bool]
    refine ⟨by rw [szL]; omega, ⟨D, hD, hl, rfl⟩, ⟨heldL D, k1, fun l h => ?_, rfl⟩, rfl⟩
    have := (k2 l h).length_le
    omega
theorem sc_fault_among_held : FnScope ["debate", "way", "members", "lacks", "greater", "statement", "lot"] ["debate", "way", "members"] (defScope (topS 36)) := ⟨rfl, rfl, rfl, by decide +kernel, rfl, by decide +kernel, by decide +kernel⟩
@[simp] def f_fault_among_held : List DV → DV
  | [.deb D, _, .py (.list m)] => .py (faultH D (unS m))
  | _ => .py .none
def pre_F (ds : List DV) (_ : Nat) : Prop := ∃ (D : Deb) (m : List Str), DOk D ∧ D.ns.length ≤ 7 ∧ m.length ≤ 64 ∧ (∀ x ∈ m, x ∈ D.ns) ∧ (∃ g ∈ greatsD D, withinS m g = true) ∧ ds = [.deb D, .py (.str "greatest"), .py (.list (sts m))]
theorem greats_small {D : Deb} (h : D.ns.length ≤ 7) : (greatsD D).length ≤ 128 ∧ ∀ l ∈ greatsD D, l.Sublist D.ns := by
  obtain ⟨k1, k2⟩ := held_small h
  have key : ∀ ls acc : List (List Str), (ls.foldl (fun kept lot => if kept.any (withinS lot) then kept else kept ++ [lot]) acc).length ≤ acc.length + ls.length ∧ ∀ l ∈ ls.foldl (fun kept lot => if kept.any (withinS lot) then kept else kept ++ [lot]) acc, l ∈ acc ∨ l ∈ ls := by
    intro ls
    induction ls with
    | nil => intro acc; exact ⟨by simp, fun l h => .inl h⟩
    | cons x xs ih =>
      intro acc
      rw [List.foldl_cons]
      split
      · obtain ⟨i1, i2⟩ := ih acc
        refine ⟨by rw [List.length_cons]; omega, fun l h => (i2 l h).imp id fun q => by simp [q]⟩
      · obtain ⟨i1, i2⟩ := ih (acc ++ [x])
        refine ⟨by rw [List.length_append, List.length_singleton] at i1; rw [List.length_cons]; omega, fun l h => ?_⟩
        rcases i2 l h with q | q
        · rcases List.mem_append.mp q with z | z
          · exact .inl z
          · exact .inr (by rw [List.mem_singleton.mp z]; simp)
        · exact .inr (by simp [q])
  obtain ⟨h1, h2⟩ := key ((heldL D).mergeSort fun a b => decide (b.length ≤ a.length)) []
  have p1 := List.mergeSort_perm (heldL D) fun a b => decide (b.length ≤ a.length)
  have p2 : (greatsD D).Perm _ := sort_pm lotD (keepL ((heldL D).mergeSort fun a b => decide (b.length ≤ a.length)))
  refine ⟨?_, fun l hl => ?_⟩
  · rw [p2.length_eq]
    have := p1.length_eq
    simp only [List.length_nil] at h1
    exact Nat.le_trans h1 (by omega)
  · rcases h2 l (p2.mem_iff.mp hl) with z | z
    · cases z
    · exact k2 l (p1.mem_iff.mp z)
theorem ok_fault_among_held (D : DefAt K mg "fault_among_held" (topS 36)) (B : Bn mg) (DT : DebT K c.C) (O_answered_in : OkD P w K mg base c "answered_in" ["debate", "members"] 2 pre_DM (pv1 f_answered_in)) (O_lots_in : OkD P w K mg base c "lots_in" ["debate", "way"] 4 pre_DW (pv1 f_lots_in)) (O_is_within : OkD P w K mg base c "is_within" ["lot", "other"] 1 pre_within (pv1 f_is_within)) :
    OkD P w K mg base c "fault_among_held" ["debate", "way", "members"] 5 pre_F (pv1 f_fault_among_held) := by
  refine ok_def D (fun _ _ _ _ _ _ us hl => match us, hl with | [_, _, _], _ => rfl) sc_fault_among_held (fun ds n h => ?_) (fun f cdv A outer s H E hr => ?_)
  · obtain ⟨a, b, _, _, _, _, _, rfl⟩ := h; rfl
  · refine ⟨_, (dss_cons (ds_setLc (i := 3) (y := "lacks") rfl rfl (own := [("statement", 5)]) (.one 5) rfl sc_fault_among_held.nd (di_lst (de_ok O_answered_in hr (by decide) rfl (da_cons (de_v 0 (pv 0)) (da_cons (de_v 2 (pv 2)) da_nil)))) (blkOk_by (N := ["debate", "way", "members", "lacks", "greater", "statement", "lot"]) (sc := defScope (topS 36)) (own := [("statement", 5)]) (by decide +kernel)) (fun _ _ _ _ _ => (pg_name (i := 5) sc_fault_among_held.nd rfl (Or.inl rfl))) (fun _ _ _ _ _ => (dts_one (dt_notIn (hu65 hr) (de_v 5 (pv 5)) (de_v 2 (pv 2))))) (fun _ _ _ _ _ => (de_v 5 (pv 5))) (sw_true rfl rfl rfl (by decide +kernel))) (dss_cons (ds_if (dt_ne (hu64 hr) (de_v 3 (pv 3)) (de_lst da_nil)) (dss_one (ds_ret (de_tup (da_cons de_str (da_cons (de_ix (de_v 3 (pv 3)) de_int) da_nil))))) dss_nil) (dss_cons (ds_if (DW.dt (dw_and (dt_eq (hu64 hr) (de_v 1 (pv 1)) de_str) (dw_and1 dt_never))) dss_never dss_nil) (dss_cons (ds_if (dt_eq (hu64 hr) (de_v 1 (pv 1)) de_str) (dss_cons (ds_setLc (i := 4) (y := "greater") rfl rfl (own := [("lot", 6)]) (.one 6) rfl sc_fault_among_held.nd (di_lst (de_ok O_lots_in hr (by decide) rfl (da_cons (de_v 0 (pv 0)) (da_cons (de_v 1 (pv 1)) da_nil)))) (blkOk_by (N := ["debate", "way", "members", "lacks", "greater", "statement", "lot"]) (sc := defScope (topS 36)) (own := [("lot", 6)]) (by decide +kernel)) (fun _ _ _ _ _ => (pg_name (i := 6) sc_fault_among_held.nd rfl (Or.inl rfl))) (fun _ _ _ _ _ => (dts_one (dt_val (de_ok O_is_within hr (by decide) rfl (da_cons (de_v 2 (pv 2)) (da_cons (de_v 6 (pv 6)) da_nil)))))) (fun _ _ _ _ _ => (de_v 6 (pv 6))) (sw_true rfl rfl rfl (by decide +kernel))) (dss_one (ds_ret (de_if (dt_notIn (hu65 hr) (de_v 2 (pv 2)) (de_v 4 (pv 4))) (de_tup (da_cons de_str (da_cons (de_ix (de_v 4 (pv 4)) de_int) da_nil))) de_non)))) dss_nil) (dss_one (ds_ret de_non)))))), fun ds n h => ?_⟩
    obtain ⟨D, m, hD, hl, hm, hi, hg, rfl⟩ := h
    obtain ⟨k1, k2⟩ := greats_small hl
    simp [startD, pv1, -Bool.exists_bool]
    have ha : (answersD D m).length ≤ 64 := Nat.le_trans (List.length_filter_le _ _) hD.l1
    refine lct (answersD D m) PyData.str (fun s => decide (s ∉ m)) PyData.str (fun K h => by simp [pv1]; exact ⟨⟨D, m, hD, hm, hi, rfl⟩, h⟩) (by simp) (by rw [szL]; omega) rfl (fun x hx K hK => by simp [-Bool.exists_bool] at hK ⊢; exact hK) (fun x hx _ K hK => by simp; exact hK) ?_
    cases e : (answersD D m).filter fun s => decide (s ∉ m) with
    | cons x xs =>
      simp only [e]
      simp
      refine ⟨shape_sts (x :: xs), by rw [szL]; omega, ?_⟩
      simp only [faultH]
      rw [e]
    | nil =>
      simp only [e]
      simp [-Bool.exists_bool]
      refine lct (greatsD D) lotD (withinS m) lotD (fun K h => by simp [pv1]; exact ⟨⟨D, hD, hl, rfl⟩, h⟩) (by simp) (by rw [szL]; omega) rfl (fun l hx K hK => ?_) (fun x hx _ K hK => by simp; exact hK) ?_
      · simp [lotD, pv1, -Bool.exists_bool]
        exact ⟨⟨m, l, by rw [szL]; omega, rfl⟩, hK⟩
      · have el : ((greatsD D).filter (withinS m)).map lotD = lotsD ((greatsD D).filter (withinS m)) := rfl
        rw [el]
        simp [-Bool.exists_bool]
        rw [inD_lots]
        simp only [faultH, e]
        by_cases hin : m ∈ (greatsD D).filter (withinS m)
        · simp only [hin, if_true, decide_true]
        · simp only [hin, if_false, decide_false]
          simp
          cases eg : (greatsD D).filter (withinS m) with
          | nil =>
            obtain ⟨g, g1, g2⟩ := hg
            have : g ∈ (greatsD D).filter (withinS m) := List.mem_filter.mpr ⟨g1, g2⟩
            rw [eg] at this; cases this
          | cons g gs => exact ⟨lotD g, by simp [lotsD, lotD], by rw [szL]; omega, rfl⟩
end
end K21

set_option Elab.async false
set_option linter.all false
set_option maxRecDepth 100000
set_option maxHeartbeats 4000000
/-! K21O: the fault of a lot, labels, rings. -/
namespace K21
open PySem PySem.Spec PyProof.Rows L2
section
variable {P : Program} {w : World} {K : PySem.W.Frag} {mg : Str → Option Value} {base : Heap} {c : Cst}
theorem sc_fault_in : FnScope ["debate", "way", "members", "clash", "left", "spared"] ["debate", "way", "members"] (defScope (topS 35)) := ⟨rfl, rfl, rfl, by decide +kernel, rfl, by decide +kernel, by decide +kernel⟩
@[simp] def f_fault_in : List DV → DV
  | [.deb D, _, .py (.list m)] => .py (faultG D (unS m))
  | _ => .py .none
def pre_FI (ds : List DV) (_ : Nat) : Prop := ∃ (D : Deb) (m : List Str), DOk D ∧ D.ns.length ≤ 7 ∧ m.length ≤ 64 ∧ (∀ x ∈ m, x ∈ D.ns) ∧ (clashP D m = none → leftP D m = none → ∃ g ∈ greatsD D, withinS m g = true) ∧ ds = [.deb D, .py (.str "greatest"), .py (.list (sts m))]
theorem ok_fault_in (D : DefAt K mg "fault_in" (topS 35)) (B : Bn mg) (DT : DebT K c.C) (O_clash_in : OkD P w K mg base c "clash_in" ["debate", "members"] 1 pre_DM (pv1 f_clash_in)) (O_unanswered_in : OkD P w K mg base c "unanswered_in" ["debate", "members"] 2 pre_DM (pv1 f_unanswered_in)) (O_fault_among_held : OkD P w K mg base c "fault_among_held" ["debate", "way", "members"] 5 pre_F (pv1 f_fault_among_held)) :
    OkD P w K mg base c "fault_in" ["debate", "way", "members"] 6 pre_FI (pv1 f_fault_in) := by
  refine ok_def D (fun _ _ _ _ _ _ us hl => match us, hl with | [_, _, _], _ => rfl) sc_fault_in (fun ds n h => ?_) (fun f cdv A outer s H E hr => ?_)
  · obtain ⟨a, b, _, _, _, _, _, rfl⟩ := h; rfl
  · refine ⟨_, (dss_cons (ds_set (i := 3) sc_fault_in.nd rfl (Or.inl rfl) (de_ok O_clash_in hr (by decide) rfl (da_cons (de_v 0 (pv 0)) (da_cons (de_v 2 (pv 2)) da_nil)))) (dss_cons (ds_if (dt_notN (de_v 3 (pv 3)) de_non) (dss_one (ds_ret (de_tup (da_cons de_str (da_cons (de_ix (de_v 3 (pv 3)) de_int) (da_cons (de_ix (de_v 3 (pv 3)) de_int) da_nil)))))) dss_nil) (dss_cons (ds_if (dt_eq (hu64 hr) (de_v 1 (pv 1)) de_str) dss_never dss_nil) (dss_cons (ds_if (dt_eq (hu64 hr) (de_v 1 (pv 1)) de_str) dss_never dss_nil) (dss_cons (ds_set (i := 4) sc_fault_in.nd rfl (Or.inl rfl) (de_ok O_unanswered_in hr (by decide) rfl (da_cons (de_v 0 (pv 0)) (da_cons (de_v 2 (pv 2)) da_nil)))) (dss_cons (ds_if (dt_notN (de_v 4 (pv 4)) de_non) (dss_one (ds_ret (de_tup (da_cons de_str (da_cons (de_ix (de_v 4 (pv 4)) de_int) (da_cons (de_ix (de_v 4 (pv 4)) de_int) da_nil)))))) dss_nil) (dss_one (ds_ret (de_if (dt_eq (hu64 hr) (de_v 1 (pv 1)) de_str) de_never (de_ok O_fault_among_held hr (by decide) rfl (da_cons (de_v 0 (pv 0)) (da_cons (de_v 1 (pv 1)) (da_cons (de_v 2 (pv 2)) da_nil))))))))))))), fun ds n h => ?_⟩
    obtain ⟨D, m, hD, hl, hm, hi, hg, rfl⟩ := h
    simp [startD, pv1, -Bool.exists_bool]
    refine ⟨⟨D, m, hD, hm, hi, rfl⟩, ?_⟩
    cases e1 : clashP D m with
    | some p =>
      simp [optP, pairD]
      refine ⟨by rw [szL]; omega, ?_⟩
      simp only [faultG, e1]
    | none =>
      simp [optP]
      refine ⟨⟨D, m, hD, hm, hi, rfl⟩, ?_⟩
      cases e2 : leftP D m with
      | some p =>
        simp [optP, pairD]
        refine ⟨by rw [szL]; omega, ?_⟩
        simp only [faultG, e1, e2]
      | none =>
        simp [optP]
        exact ⟨⟨D, m, hD, hl, hm, hi, hg e1 e2, rfl⟩, by simp only [faultG, e1, e2]⟩
theorem put_new {kvs : List (Str × PD)} {k : Str} {v : PD} (h : k ∉ kvs.map (·.1)) : putD kvs k v = kvs ++ [(k, v)] := by
  have : lookD kvs k = none := by
    simp only [lookD, Option.map_eq_none_iff, List.find?_eq_none, decide_eq_true_eq]
    intro p hp e
    exact h (List.mem_map.mpr ⟨p, hp, e⟩)
  rw [putD, this]
  simp
theorem sc_labels_by : FnScope ["debate", "members", "statement", "hit", "found"] ["debate", "members"] (defScope (topS 39)) := ⟨rfl, rfl, rfl, by decide +kernel, rfl, by decide +kernel, by decide +kernel⟩
theorem ok_labels_by (D : DefAt K mg "labels_by" (topS 39)) (B : Bn mg) (DT : DebT K c.C) (O_hit_by : OkD P w K mg base c "hit_by" ["debate", "members"] 1 pre_DM post_hit) :
    OkD P w K mg base c "labels_by" ["debate", "members"] 2 pre_DM post_lab := by
  refine ok_def D (fun _ _ _ _ _ _ us hl => match us, hl with | [_, _], _ => rfl) sc_labels_by (fun ds n h => ?_) (fun f cdv A outer s H E hr => ?_)
  · obtain ⟨a, b, _, _, _, rfl⟩ := h; rfl
  · refine ⟨_, (dss_cons (ds_parK (par2_S (i := 3) (j := 4) rfl sc_labels_by.nd rfl rfl (by decide) rfl rfl rfl) (de_ok O_hit_by hr (by decide) rfl (da_cons (de_v 0 (pv 0)) (da_cons (de_v 1 (pv 1)) da_nil)))) (dss_cons (ds_for (.one 2) PassesOwn.never rfl (di_lst (de_fld DT.cls DT.nS (de_v 0 (pv 0)))) (pg_name (i := 2) sc_labels_by.nd rfl (Or.inl rfl)) (dss_one (ds_putK 4 (hu1 hr) (pv 4) (de_if (dt_in (hu65 hr) (de_v 2 (pv 2)) (de_v 1 (pv 1))) de_str (de_if (dt_dIn (hu1 hr) (de_v 2 (pv 2)) (de_v 3 (pv 3))) de_str de_str)) (de_v 2 (pv 2))))) (dss_one (ds_ret (de_frz 4 (pv 4)))))), fun ds n h => ?_⟩
    have h0 := h
    obtain ⟨D, m, hD, hm, hi, rfl⟩ := h
    simp [startD, -Bool.exists_bool]
    refine ⟨h0, fun d n2 hp => ?_⟩
    obtain ⟨rfl, kvs, rfl, hk⟩ := post_hit' hp
    refine for_t D.ns PyData.str (fun k r n' => (∃ a, r = [some (.dat (.deb D)), some (.dat (.py (.list (sts m)))), a, some (.dat (.dct kvs)), some (.mu (.dK ((D.ns.take k).map fun s => (s, .str (labS D m s)))))]) ∧ n' = n2) (fun K h => by simp; exact h) ⟨⟨_, rfl⟩, rfl⟩ (fun k x r n' hx ⟨⟨a, e⟩, en⟩ => ?_) (fun r n' ⟨⟨a, e⟩, en⟩ => ?_)
    · subst e en
      have hxn : x ∈ D.ns := List.mem_of_getElem? hx
      have hnew : x ∉ ((D.ns.take k).map fun s => (s, PyData.str (labS D m s))).map (·.1) := by
        rw [List.map_map]
        have e0 : ((fun p : Str × PD => p.1) ∘ fun s => (s, PyData.str (labS D m s))) = id := rfl
        rw [e0, List.map_id]
        intro hmem
        have hnd := hD.nd
        rw [← List.take_append_drop k D.ns, drop_get hx, List.nodup_append] at hnd
        exact hnd.2.2 x hmem x (by simp) rfl
      have hlt : k < D.ns.length := (List.getElem?_eq_some_iff.mp hx).1
      have h64 := hD.l1
      have hko := hk x
      have put : putD ((D.ns.take k).map fun s => (s, PyData.str (labS D m s))) x (.str (labS D m x)) = (D.ns.take (k + 1)).map fun s => (s, PyData.str (labS D m s)) := by
        rw [put_new hnew, take_succ_get hx, List.map_append]; rfl
      have hsz : min k D.ns.length < sizeLine := by rw [szL]; omega
      simp [-Bool.exists_bool]
      by_cases h1 : x ∈ m
      · have el : labS D m x = "in" := by simp [labS, h1]
        rw [el] at put
        simp [h1, hsz]
        simpa using put
      · cases q : lookD kvs x with
        | some z =>
          rw [q] at hko
          have el : labS D m x = "out" := by simp [labS, h1, ← hko]
          rw [el] at put
          simp [h1, q, hsz]
          simpa using put
        | none =>
          rw [q] at hko
          have el : labS D m x = "undecided" := by simp [labS, h1, ← hko]
          rw [el] at put
          simp [h1, q, hsz]
          simpa using put
    · subst e en
      simp
      exact ⟨rfl, D, m, rfl, rfl⟩
end
end K21

set_option Elab.async false
set_option linter.all false
set_option maxRecDepth 100000
set_option maxHeartbeats 4000000
/-! K21P: odd rings told. -/
namespace K21
open PySem PySem.Spec PyProof.Rows L2
theorem lct2 {α : Type} {i j : Nat} {src : TSrc} {tt : TTD} {te : TED} {vs : List Nat} {r : DEnv} {n : Nat} {P : DV → DEnv → Nat → Prop} (xs : List α) (e1 e2 : α → PD) (q : α → Bool) (f : α → PD) (hs : ∀ K : List PD → DEnv → Nat → Prop, K (xs.map fun x => .tuple [e1 x, e2 x]) r n → src r n K) (hi : i ∈ vs) (hj : j ∈ vs) (hl : xs.length ≤ sizeLine) (hw : wipeD r vs = r)
    (ht : ∀ x ∈ xs, EvT tt ((r.set i (some (.dat (.py (e1 x))))).set j (some (.dat (.py (e2 x))))) n (q x)) (he : ∀ x ∈ xs, q x = true → Ev te ((r.set i (some (.dat (.py (e1 x))))).set j (some (.dat (.py (e2 x))))) n (.py (f x)))
    (hP : P (.py (.list ((xs.filter q).map f))) r n) : tLcD (.two i j) src tt te vs r n P := by
  refine hs _ ⟨fun k acc r' n' => r' = r ∧ n' = n ∧ acc = ((xs.take k).filter q).map f, ⟨hw, rfl, rfl⟩, ?_, fun acc r' n' ⟨e1, e2, e3⟩ => ?_⟩
  · rintro k d acc r' n' hd ⟨rfl, rfl, rfl⟩
    rw [List.getElem?_map] at hd
    cases hp : xs[k]? with
    | none => rw [hp] at hd; cases hd
    | some p =>
      rw [hp] at hd
      cases hd
      have hm : p ∈ xs := List.mem_of_getElem? hp
      refine ⟨e1 p, e2 p, rfl, ht p hm _ ?_⟩
      have e1 : wipeD ((r'.set i (some (.dat (.py (e1 p))))).set j (some (.dat (.py (e2 p))))) vs = r' := by rw [wipeD_set hj, wipeD_set hi, hw]
      cases hq : q p with
      | true =>
        rw [if_pos rfl]
        refine he p hm hq _ ⟨f p, rfl, ?_, e1, rfl, ?_⟩
        · have h1 : k < xs.length := (List.getElem?_eq_some_iff.mp hp).1
          have h2 := List.length_filter_le q (xs.take k)
          rw [List.length_take] at h2
          rw [List.length_map]
          omega
        · rw [take_succ_get hp, List.filter_append, List.map_append]
          simp [hq]
      | false =>
        rw [if_neg Bool.false_ne_true]
        refine ⟨e1, rfl, ?_⟩
        rw [take_succ_get hp, List.filter_append, List.map_append]
        simp [hq]
  · subst e1 e2 e3
    rw [List.length_map, List.take_length]
    exact hP
theorem lct2a {α : Type} {i j : Nat} {src : TSrc} {te : TED} {vs : List Nat} {r : DEnv} {n : Nat} {P : DV → DEnv → Nat → Prop} (xs : List α) (e1 e2 : α → PD) (f : α → PD) (hs : ∀ K : List PD → DEnv → Nat → Prop, K (xs.map fun x => .tuple [e1 x, e2 x]) r n → src r n K) (hi : i ∈ vs) (hj : j ∈ vs) (hl : xs.length ≤ sizeLine) (hw : wipeD r vs = r)
    (he : ∀ x ∈ xs, Ev te ((r.set i (some (.dat (.py (e1 x))))).set j (some (.dat (.py (e2 x))))) n (.py (f x))) (hP : P (.py (.list (xs.map f))) r n) : tLcD (.two i j) src tYesD te vs r n P := by
  refine lct2 xs e1 e2 (fun _ => true) f hs hi hj hl hw (fun d _ K h => h) (fun d hd _ => he d hd) ?_
  have e : (xs.filter fun _ => true) = xs := List.filter_eq_self.mpr fun _ _ => rfl
  rw [e]
  exact hP
/-- names of the comprehension that the def holds, too -/
theorem lct2w {α : Type} {i j : Nat} {src : TSrc} {te : TED} {vs : List Nat} {r : DEnv} {n : Nat} {P : DV → DEnv → Nat → Prop} (r0 : DEnv) (xs : List α) (e1 e2 : α → PD) (f : α → PD) (hs : ∀ K : List PD → DEnv → Nat → Prop, K (xs.map fun x => .tuple [e1 x, e2 x]) r n → src r n K) (hi : i ∈ vs) (hj : j ∈ vs) (hl : xs.length ≤ sizeLine) (h0 : wipeD r vs = r0) (hw : wipeD r0 vs = r0)
    (he : ∀ x ∈ xs, Ev te ((r0.set i (some (.dat (.py (e1 x))))).set j (some (.dat (.py (e2 x))))) n (.py (f x))) (hP : P (.py (.list (xs.map f))) r0 n) : tLcD (.two i j) src tYesD te vs r n P := by
  have := lct2a (src := fun _ _ K => K (xs.map fun x => .tuple [e1 x, e2 x]) r0 n) (P := P) xs e1 e2 f (fun K h => h) hi hj hl hw he hP
  obtain ⟨I, k1, k2, k3⟩ := this
  exact hs _ ⟨I, by rw [h0]; rw [hw] at k1; exact k1, k2, k3⟩
def cyc (ps : List (Str × Str)) (ws : List Str) : Prop := ∀ (i : Nat) x y, ws[i]? = some y → L2.atI ws ((i : Int) - 1) = some x → (x, y) ∈ ps
def RingP (ns : List Str) (ps : List (Str × Str)) (d : PD) : Prop := ∃ ws, (d = .list (sts ws) ∨ d = .tuple (sts ws)) ∧ ws.length % 2 = 1 ∧ ws.Nodup ∧ (∀ x ∈ ws, x ∈ ns) ∧ cyc ps ws
theorem shape_flat : ∀ {es : List PD}, (∀ e ∈ es, layD e = true ∧ e.depth ≤ 60) → layD.layDAll es = true ∧ PyData.depthAll es ≤ 61
  | [], _ => by simp [layD.layDAll, PyData.depthAll]
  | e :: es, h => by
    obtain ⟨h1, h2⟩ := h e (by simp)
    obtain ⟨h3, h4⟩ := shape_flat (es := es) fun x hx => h x (by simp [hx])
    refine ⟨by simp [layD.layDAll, h1, h3], ?_⟩
    simp only [PyData.depthAll]
    omega
theorem shape_list {es : List PD} (h : ∀ e ∈ es, layD e = true ∧ e.depth ≤ 60) : shapeD (.list es) = true := by
  obtain ⟨h1, h2⟩ := shape_flat h
  exact shape_of (by simpa [layD] using h1) (by simp only [PyData.depth]; omega)
theorem enumD_eq (es : List PD) : enumD es = (List.range es.length).map fun i => .tuple [.int (i : Nat), es.getD i .none] := by
  apply List.ext_getElem?
  intro i
  rw [enumD_get, List.getElem?_map]
  by_cases h : i < es.length
  · rw [List.getElem?_eq_getElem h, List.getElem?_range h]
    simp [h]
  · rw [List.getElem?_eq_none (by omega), List.getElem?_eq_none (by simpa using h)]
    rfl
theorem cut_to (es : List PD) (k : Nat) : cutD es none (some (k : Int)) = es.take k := by
  unfold cutD
  rw [HT.sIx_none, HT.sIx_nat, List.drop_zero, Nat.sub_zero]
  by_cases h : k ≤ es.length
  · rw [Nat.min_eq_left h]
  · rw [Nat.min_eq_right (by omega), List.take_of_length_le (Nat.le_refl _), List.take_of_length_le (by omega)]
theorem cut_pre {t : PD} {es : List PD} {k : Nat} {R : List PD → Prop} (ht : seqOf (.py t) = some es) (hk : k < es.length) (h : R (es.take k)) :
    (∃ ds, t = .list ds ∧ ∃ x, seqOf (.py (.list (cutD ds none (some (k : Int))))) = some x ∧ R x) ∨ ∃ ds, t = .tuple ds ∧ (HT.sIx ds.length 0 none = 0 → ¬ HT.sIx ds.length ds.length (some (k : Int)) = ds.length) ∧ ∃ x, seqOf (.py (.tuple (cutD ds none (some (k : Int))))) = some x ∧ R x := by
  cases t <;> simp only [seqOf] at ht <;> try cases ht
  case list => exact .inl ⟨es, rfl, _, rfl, by rw [cut_to]; exact h⟩
  case tuple => exact .inr ⟨es, rfl, fun _ z => by rw [HT.sIx_nat] at z; omega, _, rfl, by rw [cut_to]; exact h⟩
theorem atI_last {α : Type} {ws : List α} (h : 0 < ws.length) : L2.atI ws (-1) = ws[ws.length - 1]? := by
  have : ixN ws.length (-1) = some (ws.length - 1) := by
    unfold ixN
    rw [if_neg (by omega), if_pos (by omega)]
    congr 1; omega
  unfold L2.atI
  rw [this]; rfl
/-- what the loop asks of the i-th -/
def goodAt (D : Deb) (es : List PD) (i : Nat) : Prop := ∃ x, es[i]? = some (.str x) ∧ x ∈ D.ns ∧ inD (.str x) (es.take i) = false
theorem good_all {D : Deb} {es : List PD} : ∀ k, k ≤ es.length → (∀ i < k, goodAt D es i) → ∃ ws, es.take k = sts ws ∧ ws.Nodup ∧ ∀ x ∈ ws, x ∈ D.ns
  | 0, _, _ => ⟨[], by simp, by simp, by simp⟩
  | k + 1, hk, h => by
    obtain ⟨ws, h1, h2, h3⟩ := good_all (D := D) k (by omega) fun i hi => h i (by omega)
    obtain ⟨x, e1, e2, e3⟩ := h k (by omega)
    rw [h1, inD_sts] at e3
    refine ⟨ws ++ [x], by rw [take_succ_get e1, h1]; simp [sts], ?_, fun y hy => ?_⟩
    · rw [List.nodup_append]
      refine ⟨h2, by simp, fun a ha b hb => ?_⟩
      rw [List.mem_singleton] at hb
      subst hb
      intro z
      subst z
      simp [ha] at e3
    · rcases List.mem_append.mp hy with z | z
      · exact h3 y z
      · rw [List.mem_singleton.mp z]; exact e2
theorem ring_good {D : Deb} {t : PD} {es : List PD} (ht : seqOf (.py t) = some es) (h : RingP D.ns D.ps t) : es.length % 2 = 1 ∧ ∃ ws, es = sts ws ∧ ws.Nodup ∧ (∀ x ∈ ws, x ∈ D.ns) ∧ cyc D.ps ws := by
  obtain ⟨ws, h1, h2, h3, h4, h5⟩ := h
  have : es = sts ws := by
    rcases h1 with rfl | rfl <;> simp only [seqOf] at ht <;> cases ht <;> rfl
  subst this
  exact ⟨by simpa using h2, ws, rfl, h3, h4, h5⟩
theorem good_ring {D : Deb} {t : PD} {ws : List Str} (ht : seqOf (.py t) = some (sts ws)) (h2 : ws.length % 2 = 1) (h3 : ws.Nodup) (h4 : ∀ x ∈ ws, x ∈ D.ns) (h5 : cyc D.ps ws) : RingP D.ns D.ps t := by
  refine ⟨ws, ?_, h2, h3, h4, h5⟩
  cases t <;> simp only [seqOf] at ht <;> try cases ht
  case list => exact .inl rfl
  case tuple => exact .inr rfl
theorem good_of {D : Deb} {ws : List Str} (h3 : ws.Nodup) (h4 : ∀ x ∈ ws, x ∈ D.ns) {i : Nat} (hi : i < ws.length) : goodAt D (sts ws) i := by
  have e : ws[i]? = some ws[i] := List.getElem?_eq_getElem hi
  refine ⟨ws[i], by simp [sts, e], h4 _ (List.getElem_mem hi), ?_⟩
  have : (sts ws).take i = sts (ws.take i) := by simp [sts]
  rw [this, inD_sts]
  have hnd := h3
  rw [← List.take_append_drop i ws, drop_get e, List.nodup_append] at hnd
  simp only [decide_eq_false_iff_not]
  intro hm
  exact hnd.2.2 _ hm _ (List.mem_cons_self) rfl
theorem isi_str {q : PD} (h : isiD q ["str"] = true) : ∃ z, q = .str z := by
  cases q <;> simp [isiD, subTy, tyName] at h
  exact ⟨_, rfl⟩
theorem lenD_seq (d : DV) : lenD d = (seqOf d).map List.length := by
  cases d with
  | py d => cases d <;> rfl
  | _ => rfl
section
variable {P : Program} {w : World} {K : PySem.W.Frag} {mg : Str → Option Value} {base : Heap} {c : Cst}
theorem sc_is_list : FnScope ["thing"] ["thing"] (defScope (topS 11)) := ⟨rfl, rfl, rfl, by decide +kernel, rfl, by decide +kernel, by decide +kernel⟩
@[simp] def f_is_list : List DV → DV
  | [.py d] => .py (.bool (seqOf (.py d)).isSome)
  | _ => .py .none
def pre_any (ds : List DV) (_ : Nat) : Prop := ∃ d, ds = [.py d]
theorem ok_is_list (D : DefAt K mg "is_list" (topS 11)) (B : Bn mg) : OkD P w K mg base c "is_list" ["thing"] 1 pre_any (pv1 f_is_list) := by
  refine ok_def D (fun _ _ _ _ _ _ us hl => match us, hl with | [_], _ => rfl) sc_is_list (fun ds n h => ?_) (fun f cdv A outer s H E hr => ?_)
  · obtain ⟨a, rfl⟩ := h; rfl
  · refine ⟨_, (dss_one (ds_ret (de_isiT (ts := ["list", "tuple"]) rfl B.isinstance (de_v 0 (pv 0)) (.cons (t := "list") (pe_bltn rfl B.list (by decide +kernel) rfl) rfl (by simp [okTy]) (.cons (t := "tuple") (pe_bltn rfl B.tuple (by decide +kernel) rfl) rfl (by simp [okTy]) .nil)) (by decide)))), fun ds n h => ?_⟩
    obtain ⟨d, rfl⟩ := h
    simp [startD, pv1]
    cases d <;> simp [isiD, tyName, subTy]
theorem sc_is_odd_ring : FnScope ["debate", "thing", "index", "one", "at"] ["debate", "thing"] (defScope (topS 43)) := ⟨rfl, rfl, rfl, by decide +kernel, rfl, by decide +kernel, by decide +kernel⟩
def pre_ring (ds : List DV) (_ : Nat) : Prop := ∃ D d, DOk D ∧ (∀ es, seqOf (.py d) = some es → es.length ≤ 1000 ∧ ∀ e ∈ es, layD e = true ∧ e.depth ≤ 60) ∧ ds = [.deb D, .py d]
def post_ring (ds : List DV) (n : Nat) (d : DV) (n' : Nat) : Prop := n' = n ∧ ∃ D t b, ds = [.deb D, .py t] ∧ d = .py (.bool b) ∧ (b = true ↔ RingP D.ns D.ps t)
theorem ok_is_odd_ring (D : DefAt K mg "is_odd_ring" (topS 43)) (B : Bn mg) (DT : DebT K c.C) (O_is_list : OkD P w K mg base c "is_list" ["thing"] 1 pre_any (pv1 f_is_list)) :
    OkD P w K mg base c "is_odd_ring" ["debate", "thing"] 2 pre_ring post_ring := by
  refine ok_def D (fun _ _ _ _ _ _ us hl => match us, hl with | [_, _], _ => rfl) sc_is_odd_ring (fun ds n h => ?_) (fun f cdv A outer s H E hr => ?_)
  · obtain ⟨a, b, _, _, rfl⟩ := h; rfl
  · refine ⟨_, (dss_cons (ds_if (DW.dt (dw_or (dt_not (dt_val (de_ok O_is_list hr (by decide) rfl (da_cons (de_v 1 (pv 1)) da_nil)))) (dw_or1 (dt_eq (hu64 hr) (de_mod (de_len rfl B.len (de_v 1 (pv 1))) de_int) de_int)))) (dss_one (ds_ret de_bl)) dss_nil) (dss_cons (ds_for (.two 2 3) PassesOwn.never rfl (di_enum rfl B.enumerate (de_v 1 (pv 1))) (pg_tup rfl (pgs_cons (pg_name (i := 2) sc_is_odd_ring.nd rfl (Or.inl rfl)) (pgs_cons (pg_name (i := 3) sc_is_odd_ring.nd rfl (Or.inl rfl)) pgs_nil))) (dss_one (ds_if (DW.dt (dw_or (dt_not (dt_val (de_isi (t := "str") rfl B.isinstance (de_v 3 (pv 3)) rfl B.str (by decide +kernel) (by simp [okTy])))) (dw_or (dt_dNotIn (hu1 hr) (de_v 3 (pv 3)) (de_fld DT.cls DT.nR (de_v 0 (pv 0)))) (dw_or1 (dt_inQ (hu65 hr) (de_v 3 (pv 3)) (de_cut (de_v 1 (pv 1)) do_none (do_some (de_v 2 (pv 2))))))))) (dss_one (ds_ret de_bl)) dss_nil))) (dss_one (ds_ret (de_all rfl rfl B.all (de_lc (own := [("at", 4), ("one", 3)]) (.two 4 3) rfl sc_is_odd_ring.nd (di_enum rfl B.enumerate (de_v 1 (pv 1))) (blkOk_by (N := ["debate", "thing", "index", "one", "at"]) (sc := defScope (topS 43)) (own := [("at", 4), ("one", 3)]) (by decide +kernel)) (fun _ _ _ _ _ => (pg_tup rfl (pgs_cons (pg_name (i := 4) sc_is_odd_ring.nd rfl (Or.inl rfl)) (pgs_cons (pg_name (i := 3) sc_is_odd_ring.nd rfl (Or.inl rfl)) pgs_nil)))) (fun _ _ _ _ _ => dts_nil) (fun _ _ _ _ _ => (de_in (hu65 hr) (de_ix (de_v 1 (pv 1)) (de_sub (de_v 4 (pv 4)) de_int)) (de_get (hu1 hr) (de_fld DT.cls DT.nR (de_v 0 (pv 0))) (de_v 3 (pv 3))))))))))), fun ds n h => ?_⟩
    obtain ⟨D, t, hD, ht, rfl⟩ := h
    simp [startD, pv1, -Bool.exists_bool, -seqOf, -lenD, lenD_seq]
    refine ⟨⟨t, rfl⟩, ?_⟩
    cases hs : seqOf (.py t) with
    | none =>
      simp
      refine ⟨rfl, D, t, false, rfl, rfl, by simp, fun h => ?_⟩
      obtain ⟨ws, h1, _⟩ := h
      rcases h1 with rfl | rfl <;> simp at hs
    | some es =>
      obtain ⟨hl, hz⟩ := ht es hs
      have bad : (RingP D.ns D.ps t → False) → post_ring [DV.deb D, DV.py t] n (DV.py (PyData.bool false)) n := fun h => ⟨rfl, D, t, false, rfl, rfl, by simpa using h⟩
      simp
      by_cases hodd : es.length % 2 = 1
      · have e0 : (PyData.int ((es.length : Int) % 2)).eqv (.int 0) = false := by
          have : ((es.length : Int) % 2) = 1 := by omega
          rw [this]; decide +kernel
        rw [e0]
        simp only [Bool.false_eq_true, if_false]
        refine for_t2 (List.range es.length) (fun i => .int (i : Nat)) (fun i => es.getD i .none) (fun k r n' => (∃ a b, r = [some (.dat (.deb D)), some (.dat (.py t)), a, b, none]) ∧ n' = n ∧ ∀ i < k, goodAt D es i) (fun K h => by simp [-seqOf, hs, enumD_eq]; exact h) ⟨⟨_, _, rfl⟩, rfl, fun i hi => by omega⟩ (fun k x r n' hx ⟨⟨a, b, e⟩, en, hI⟩ => ?_) (fun r n' ⟨⟨a, b, e⟩, en, hI⟩ => ?_)
        · subst e en
          have hk : k < es.length := by simpa using (List.getElem?_eq_some_iff.mp hx).1
          have ex : x = k := by rw [List.getElem?_range hk] at hx; exact (Option.some.inj hx).symm
          subst ex
          have eg : es.getD x .none = es[x] := by simp [List.getD, hk]
          have ee : es[x]? = some es[x] := List.getElem?_eq_getElem hk
          have hme : es[x] ∈ es := List.getElem_mem hk
          rw [eg]
          generalize es[x] = q at ee hme
          simp [-Bool.exists_bool, -seqOf]
          by_cases hq : isiD q ["str"] = true
          · obtain ⟨z, rfl⟩ := isi_str hq
            rw [hq]
            simp [-Bool.exists_bool, -seqOf]
            by_cases hzn : z ∈ D.ns
            · simp only [hzn, if_true]
              try simp [-Bool.exists_bool, -seqOf]
              refine cut_pre hs hk ⟨shape_list fun e he => hz e (List.mem_of_mem_take he), ?_⟩
              cases hin : inD (.str z) (es.take x) with
              | true =>
                simp
                refine bad fun hr => ?_
                obtain ⟨_, ws, rfl, w1, w2, _⟩ := ring_good hs hr
                obtain ⟨y, y1, y2, y3⟩ := good_of w1 w2 (show x < ws.length by simpa using hk)
                rw [ee] at y1
                cases y1
                rw [hin] at y3; cases y3
              | false =>
                simp
                intro i hi
                by_cases h2 : i = x
                · subst h2; exact ⟨z, ee, hzn, hin⟩
                · exact hI i (by omega)
            · simp only [hzn, if_false]
              try simp [-Bool.exists_bool, -seqOf]
              refine bad fun hr => ?_
              obtain ⟨_, ws, rfl, w1, w2, _⟩ := ring_good hs hr
              obtain ⟨y, y1, y2, y3⟩ := good_of w1 w2 (show x < ws.length by simpa using hk)
              rw [ee] at y1
              cases y1
              exact hzn y2
          · have hq' : isiD q ["str"] = false := by simpa using hq
            rw [hq']
            simp
            refine bad fun hr => ?_
            obtain ⟨_, ws, rfl, w1, w2, _⟩ := ring_good hs hr
            obtain ⟨y, y1, y2, y3⟩ := good_of w1 w2 (show x < ws.length by simpa using hk)
            rw [ee] at y1
            cases y1
            exact hq (by simp [isiD, subTy, tyName])
        · subst e en
          obtain ⟨ws, k1, k2, k3⟩ := good_all (D := D) es.length (Nat.le_refl _) fun i hi => hI i (by simpa using hi)
          rw [List.take_length] at k1
          subst k1
          have hlen : 0 < ws.length := by
            simp at hodd; omega
          have hl2 : ws.length ≤ 1000 := by rw [show (sts ws).length = ws.length by simp] at hl; exact hl
          simp only [sRet, dCB, dCons, dNil]
          have prev : ∀ i, i < ws.length → ∃ x, L2.atI ws ((i : Int) - 1) = some x := fun i hi => by
            cases i with
            | zero => exact ⟨ws[ws.length - 1], by rw [show ((0 : Nat) : Int) - 1 = -1 by omega, atI_last hlen]; exact List.getElem?_eq_getElem (by omega)⟩
            | succ i => exact ⟨ws[i], by rw [show ((i + 1 : Nat) : Int) - 1 = (i : Int) by omega]; exact atI_nat (List.getElem?_eq_getElem (by omega))⟩
          refine lct2w [some (.dat (.deb D)), some (.dat (.py t)), a, none, none] (List.range ws.length) (fun i => .int (i : Nat)) (fun i => (sts ws).getD i .none) (fun i => .bool (decide (((L2.atI ws ((i : Int) - 1)).getD "", ws.getD i "") ∈ D.ps))) (fun K h => by simp [-seqOf, hs, enumD_eq]; simpa using h) (by simp) (by simp) (by rw [List.length_range, szL]; omega) rfl rfl (fun i hi K hK => ?_) ?_
          · have hi' : i < ws.length := by simpa using hi
            obtain ⟨x, hx⟩ := prev i hi'
            have e1 : (sts ws).getD i .none = .str ws[i] := by simp [List.getD, sts, hi']
            have e2 : ws.getD i "" = ws[i] := by simp [List.getD, hi']
            have e3 : L2.atI (sts ws) ((i : Int) - 1) = some (.str x) := by
              unfold L2.atI at hx ⊢
              rw [show (sts ws).length = ws.length by simp]
              cases q : ixN ws.length ((i : Int) - 1) with
              | none => rw [q] at hx; cases hx
              | some j =>
                rw [q] at hx
                have hx' : ws[j]? = some x := hx
                show (sts ws)[j]? = _
                simp [sts, hx']
            rw [e1]
            simp [-Bool.exists_bool, -seqOf]
            rw [e2, hx] at hK
            refine ⟨_, hs, _, e3, ?_⟩
            have hin : ws[i] ∈ D.ns := k3 _ (List.getElem_mem hi')
            simp [hin]
            have : decide (x ∈ objs D ws[i]) = decide ((x, ws[i]) ∈ D.ps) := by simp [mem_objs]
            rw [this]
            rw [e1] at hK
            exact hK
          · refine ⟨(List.range ws.length).map _, by rw [mapB], ?_⟩
            dsimp only
            rw [all_dec]
            refine ⟨rfl, rfl, D, t, _, rfl, rfl, ?_⟩
            rw [List.all_eq_true]
            refine ⟨fun h => good_ring hs (by simpa using hodd) k2 k3 fun i x y hy hx => ?_, fun h i hi => ?_⟩
            · have hi : i < ws.length := (List.getElem?_eq_some_iff.mp hy).1
              have := h i (by simpa using hi)
              rw [hx] at this
              simpa [List.getD, hy] using this
            · have hi' : i < ws.length := by simpa using hi
              obtain ⟨_, vs, e, _, _, hc⟩ := ring_good hs h
              have := sts_inj e
              subst this
              obtain ⟨x, hx⟩ := prev i hi'
              have e2 : ws[i]? = some ws[i] := List.getElem?_eq_getElem hi'
              have := hc i x ws[i] e2 hx
              rw [hx]
              simpa [List.getD, e2] using this
      · have e0 : (PyData.int ((es.length : Int) % 2)).eqv (.int 0) = true := by
          have : ((es.length : Int) % 2) = 0 := by omega
          rw [this]; decide +kernel
        rw [e0]
        simp only [if_true]
        exact bad fun h => hodd (ring_good hs h).1
end
end K21

set_option Elab.async false
set_option linter.all false
set_option maxHeartbeats 4000000
/-! K21X: walks, level by level (plain Lean). -/
namespace K21
open PySem PySem.Spec
inductive Wk (ps : List (Str × Str)) (a : Str) : List Str → Str → Prop
  | nil : Wk ps a [] a
  | snoc {w : List Str} {x y : Str} : Wk ps a w x → (x, y) ∈ ps → Wk ps a (w ++ [x]) y
abbrev Plc := Str × Nat
abbrev Kn := List (Plc × List Str)
def lookP (kn : Kn) (p : Plc) : Option (List Str) := (kn.find? fun e => decide (e.1 = p)).map (·.2)
def stepK (st : Kn × List Plc) (e : Plc × Str) : Kn × List Plc :=
  if (lookP st.1 (e.2, 1 - e.1.2)).isSome then st else (st.1 ++ [((e.2, 1 - e.1.2), (lookP st.1 e.1).getD [] ++ [e.1.1])], st.2 ++ [(e.2, 1 - e.1.2)])
def outs (D : Deb) (lvl : List Plc) : List (Plc × Str) := lvl.flatMap fun p => (objd D p.1).map fun y => (p, y)
def levK (D : Deb) (kn : Kn) (lvl : List Plc) : Kn × List Plc := (outs D lvl).foldl stepK (kn, [])
theorem lookP_some {kn : Kn} {p : Plc} {w : List Str} (h : lookP kn p = some w) : (p, w) ∈ kn := by
  simp only [lookP, Option.map_eq_some_iff] at h
  obtain ⟨e, h1, h2⟩ := h
  have h3 := List.find?_some h1
  have h4 := List.mem_of_find?_eq_some h1
  simp only [decide_eq_true_eq] at h3
  rw [← h3, ← h2]; exact h4
theorem lookP_none {kn : Kn} {p : Plc} (h : lookP kn p = none) : p ∉ kn.map (·.1) := by
  simp only [lookP, Option.map_eq_none_iff, List.find?_eq_none, decide_eq_true_eq] at h
  intro hm
  obtain ⟨e, h1, h2⟩ := List.mem_map.mp hm
  exact h e h1 h2
theorem lookP_in {kn : Kn} {p : Plc} (h : ∃ e ∈ kn, e.1 = p) : ∃ w, lookP kn p = some w ∧ (p, w) ∈ kn := by
  cases q : lookP kn p with
  | none =>
    obtain ⟨e, h1, h2⟩ := h
    exact absurd (List.mem_map.mpr ⟨e, h1, h2⟩) (lookP_none q)
  | some w => exact ⟨w, rfl, lookP_some q⟩
structure BInv (D : Deb) (a : Str) (L : Nat) (kn : Kn) (lvl : List Plc) : Prop where
  nd : (kn.map (·.1)).Nodup
  snd : ∀ e ∈ kn, Wk D.ps a e.2 e.1.1 ∧ e.2.length % 2 = e.1.2 ∧ e.2.length ≤ L ∧ e.1.1 ∈ D.ns
  cmp : ∀ w y, Wk D.ps a w y → w.length ≤ L → ∃ e ∈ kn, e.1 = (y, w.length % 2) ∧ e.2.length ≤ w.length
  lin : ∀ p ∈ lvl, ∃ e ∈ kn, e.1 = p
  lal : ∀ e ∈ kn, e.2.length = L → e.1 ∈ lvl
structure SInv (D : Deb) (a : Str) (L : Nat) (kn0 : Kn) (dn : List (Plc × Str)) (st : Kn × List Plc) : Prop where
  nw : ∃ nw, st.1 = kn0 ++ nw ∧ st.2 = nw.map (·.1) ∧ ∀ e ∈ nw, Wk D.ps a e.2 e.1.1 ∧ e.2.length % 2 = e.1.2 ∧ e.2.length ≤ L + 1 ∧ e.1.1 ∈ D.ns
  nd : (st.1.map (·.1)).Nodup
  dn : ∀ q ∈ dn, ∃ e ∈ st.1, e.1 = (q.2, 1 - q.1.2)
theorem lookP_app {kn nw : Kn} {p : Plc} {w : List Str} (h : lookP kn p = some w) : lookP (kn ++ nw) p = some w := by
  simp only [lookP, Option.map_eq_some_iff] at h
  obtain ⟨e, h1, h2⟩ := h
  simp only [lookP, List.find?_append, h1]
  simpa using h2
theorem sInv_step {D : Deb} {a : Str} {L : Nat} {kn0 : Kn} {lvl : List Plc} (hD : DOk D) (B : BInv D a L kn0 lvl) {dn : List (Plc × Str)} {st : Kn × List Plc} (S : SInv D a L kn0 dn st) {q : Plc × Str} (hq : q.1 ∈ lvl) (he : (q.1.1, q.2) ∈ D.ps) :
    SInv D a L kn0 (dn ++ [q]) (stepK st q) ∧ (lookP st.1 q.1).isSome = true := by
  obtain ⟨nw, e1, e2, h3⟩ := S.nw
  obtain ⟨w, hw, hm⟩ := lookP_in (B.lin q.1 hq)
  obtain ⟨k1, k2, k3, k4⟩ := B.snd _ hm
  have hl : lookP st.1 q.1 = some w := by rw [e1]; exact lookP_app hw
  refine ⟨?_, by rw [hl]; rfl⟩
  unfold stepK
  cases hs : lookP st.1 (q.2, 1 - q.1.2) with
  | some v =>
    rw [if_pos (by simp)]
    refine ⟨S.nw, S.nd, fun z hz => ?_⟩
    rcases List.mem_append.mp hz with h | h
    · exact S.dn z h
    · rw [List.mem_singleton.mp h]
      exact ⟨_, lookP_some hs, rfl⟩
  | none =>
    rw [if_neg (by simp)]
    rw [hl]
    have hnew := lookP_none hs
    refine ⟨⟨nw ++ [((q.2, 1 - q.1.2), w ++ [q.1.1])], by simp [e1], by simp [e2], fun e hm => ?_⟩, ?_, fun z hz => ?_⟩
    · rcases List.mem_append.mp hm with h | h
      · exact h3 e h
      · rw [List.mem_singleton.mp h]
        refine ⟨.snoc k1 he, ?_, ?_, (hD.inn _ he).2⟩
        · rw [List.length_append, List.length_singleton]
          show (w.length + 1) % 2 = 1 - q.1.2
          have : w.length % 2 = q.1.2 := k2
          omega
        · rw [List.length_append, List.length_singleton]
          have : w.length ≤ L := k3
          omega
    · rw [List.map_append, List.nodup_append]
      refine ⟨S.nd, by simp, fun x hx y hy => ?_⟩
      simp only [List.map_cons, List.map_nil, List.mem_singleton] at hy
      subst hy
      intro z
      rw [z] at hx
      exact hnew hx
    · rcases List.mem_append.mp hz with h | h
      · obtain ⟨e, h1, h2⟩ := S.dn z h
        exact ⟨e, by simp [h1], h2⟩
      · rw [List.mem_singleton.mp h]
        exact ⟨((q.2, 1 - q.1.2), w ++ [q.1.1]), by simp, rfl⟩
theorem sInv_start {D : Deb} {a : Str} {L : Nat} {kn0 : Kn} {lvl : List Plc} (B : BInv D a L kn0 lvl) : SInv D a L kn0 [] (kn0, []) := ⟨⟨[], by simp, by simp, by simp⟩, B.nd, by simp⟩
theorem mem_outs {D : Deb} {lvl : List Plc} {p : Plc} {y : Str} : (p, y) ∈ outs D lvl ↔ p ∈ lvl ∧ (p.1, y) ∈ D.ps := by
  simp only [outs, List.mem_flatMap, List.mem_map]
  constructor
  · rintro ⟨p', h1, y', h2, h3⟩
    cases h3
    exact ⟨h1, mem_objd.mp h2⟩
  · rintro ⟨h1, h2⟩
    exact ⟨p, h1, y, mem_objd.mpr h2, rfl⟩
theorem sInv_all {D : Deb} {a : Str} {L : Nat} {kn0 : Kn} {lvl : List Plc} (hD : DOk D) (B : BInv D a L kn0 lvl) : ∀ (es dn : List (Plc × Str)) (st : Kn × List Plc), (∀ q ∈ es, q.1 ∈ lvl ∧ (q.1.1, q.2) ∈ D.ps) → SInv D a L kn0 dn st → SInv D a L kn0 (dn ++ es) (es.foldl stepK st)
  | [], dn, st, _, S => by simpa using S
  | q :: es, dn, st, h, S => by
    have h1 := h q (by simp)
    have S' := (sInv_step hD B S h1.1 h1.2).1
    have := sInv_all hD B es (dn ++ [q]) (stepK st q) (fun z hz => h z (by simp [hz])) S'
    simpa using this
theorem wk_snoc_inv {ps : List (Str × Str)} {a : Str} {w : List Str} {y : Str} (h : Wk ps a w y) (n : w ≠ []) : ∃ w0 x, w = w0 ++ [x] ∧ Wk ps a w0 x ∧ (x, y) ∈ ps := by
  cases h with
  | nil => exact absurd rfl n
  | snoc h1 h2 => exact ⟨_, _, rfl, h1, h2⟩
theorem bInv_step {D : Deb} {a : Str} {L : Nat} {kn : Kn} {lvl : List Plc} (hD : DOk D) (B : BInv D a L kn lvl) : BInv D a (L + 1) (levK D kn lvl).1 (levK D kn lvl).2 ∧ (levK D kn lvl).1.length = kn.length + (levK D kn lvl).2.length := by
  have S := sInv_all hD B (outs D lvl) [] (kn, []) (fun q hq => mem_outs.mp hq) (sInv_start B)
  rw [List.nil_append] at S
  change SInv D a L kn (outs D lvl) (levK D kn lvl) at S
  generalize levK D kn lvl = st at S
  obtain ⟨nw, e1, e2, h3⟩ := S.nw
  refine ⟨⟨S.nd, fun e he => ?_, fun w y hw hl => ?_, fun p hp => ?_, fun e he hl => ?_⟩, by rw [e1, e2]; simp⟩
  · rw [e1] at he
    rcases List.mem_append.mp he with h | h
    · obtain ⟨k1, k2, k3, k4⟩ := B.snd e h
      exact ⟨k1, k2, by omega, k4⟩
    · exact h3 e h
  · by_cases hL : w.length ≤ L
    · obtain ⟨e, k1, k2, k3⟩ := B.cmp w y hw hL
      exact ⟨e, by rw [e1]; simp [k1], k2, k3⟩
    · have hl' : w.length = L + 1 := by omega
      obtain ⟨w0, x, rfl, h1, h2⟩ := wk_snoc_inv hw (by intro z; rw [z] at hl'; cases hl')
      rw [List.length_append, List.length_singleton] at hl' ⊢
      have hw0 : w0.length = L := by omega
      obtain ⟨e0, k1, k2, k3⟩ := B.cmp w0 x h1 (by omega)
      obtain ⟨j1, j2, j3, j4⟩ := B.snd e0 k1
      by_cases hlt : e0.2.length < L
      · have ex : e0.1.1 = x := by rw [k2]
        have ep : e0.1.2 = w0.length % 2 := by rw [k2]
        rw [ex] at j1
        obtain ⟨e, i1, i2, i3⟩ := B.cmp _ _ (Wk.snoc j1 h2) (by rw [List.length_append, List.length_singleton]; omega)
        rw [List.length_append, List.length_singleton] at i2 i3
        refine ⟨e, by rw [e1]; simp [i1], ?_, by omega⟩
        rw [i2]
        congr 1
        omega
      · have hin := B.lal e0 k1 (by omega)
        obtain ⟨e, i1, i2⟩ := S.dn (e0.1, y) (mem_outs.mpr ⟨hin, by rw [k2]; exact h2⟩)
        refine ⟨e, i1, ?_, ?_⟩
        · rw [i2, k2]
          show (y, 1 - w0.length % 2) = _
          congr 1
          omega
        · rw [e1] at i1
          rcases List.mem_append.mp i1 with h | h
          · have := (B.snd e h).2.2.1; omega
          · have := (h3 e h).2.2.1; omega
  · rw [e2] at hp
    obtain ⟨e, k1, k2⟩ := List.mem_map.mp hp
    exact ⟨e, by rw [e1]; simp [k1], k2⟩
  · rw [e1] at he
    rcases List.mem_append.mp he with h | h
    · have := (B.snd e h).2.2.1; omega
    · rw [e2]; exact List.mem_map.mpr ⟨e, h, rfl⟩
theorem nodup_len {α : Type} [DecidableEq α] : ∀ {xs ys : List α}, xs.Nodup → (∀ x ∈ xs, x ∈ ys) → xs.length ≤ ys.length
  | [], _, _, _ => Nat.zero_le _
  | x :: xs, ys, h, s => by
    have hx : x ∈ ys := s x (by simp)
    have h1 := (List.nodup_cons.mp h)
    have := nodup_len (xs := xs) (ys := ys.erase x) h1.2 fun z hz => by
      have : z ≠ x := fun e => h1.1 (e ▸ hz)
      exact (List.mem_erase_of_ne this).mpr (s z (by simp [hz]))
    rw [List.length_erase_of_mem hx] at this
    have : 0 < ys.length := List.length_pos_of_mem hx
    rw [List.length_cons]
    omega
theorem bInv_len {D : Deb} {a : Str} {L : Nat} {kn : Kn} {lvl : List Plc} (B : BInv D a L kn lvl) : kn.length ≤ 2 * D.ns.length := by
  have := nodup_len (ys := D.ns.map (fun x => (x, 0)) ++ D.ns.map fun x => (x, 1)) B.nd fun p hp => by
    obtain ⟨e, h1, rfl⟩ := List.mem_map.mp hp
    obtain ⟨_, k2, _, k4⟩ := B.snd e h1
    have : e.1.2 = 0 ∨ e.1.2 = 1 := by omega
    rw [List.mem_append, List.mem_map, List.mem_map]
    rcases this with h | h
    · exact .inl ⟨e.1.1, k4, by rw [← h]⟩
    · exact .inr ⟨e.1.1, k4, by rw [← h]⟩
  rw [List.length_map, List.length_append, List.length_map, List.length_map] at this
  omega
theorem bInv_start {D : Deb} {a : Str} (ha : a ∈ D.ns) : BInv D a 0 [((a, 0), [])] [(a, 0)] := by
  refine ⟨by simp, fun e he => ?_, fun w y hw hl => ?_, fun p hp => ?_, fun e he _ => ?_⟩
  · rw [List.mem_singleton.mp he]; exact ⟨.nil, rfl, Nat.le_refl _, ha⟩
  · cases hw with
    | nil => exact ⟨_, List.mem_singleton.mpr rfl, rfl, Nat.le_refl _⟩
    | snoc _ _ => simp at hl
  · rw [List.mem_singleton.mp hp]; exact ⟨_, List.mem_singleton.mpr rfl, rfl⟩
  · rw [List.mem_singleton.mp he]; exact List.mem_singleton.mpr rfl
theorem bInv_full {D : Deb} {a : Str} {L : Nat} {kn : Kn} (B : BInv D a L kn []) : ∀ (k : Nat) w y, w.length ≤ k → Wk D.ps a w y → ∃ e ∈ kn, e.1 = (y, w.length % 2) ∧ e.2.length ≤ w.length := by
  intro k
  induction k with
  | zero => exact fun w y hk hw => B.cmp w y hw (by omega)
  | succ k ih =>
    intro w y hk hw
    by_cases hL : w.length ≤ L
    · exact B.cmp w y hw hL
    · obtain ⟨w0, x, rfl, h1, h2⟩ := wk_snoc_inv hw (by intro z; rw [z] at hL; simp at hL)
      have hk' := hk
      rw [List.length_append, List.length_singleton] at hk' hL ⊢
      obtain ⟨e0, k1, k2, k3⟩ := ih w0 x (by omega) h1
      obtain ⟨j1, j2, j3, j4⟩ := B.snd e0 k1
      have hlt : e0.2.length < L := by
        apply Classical.byContradiction
        intro z
        have := B.lal e0 k1 (by omega)
        cases this
      have ex : e0.1.1 = x := by rw [k2]
      have ep : e0.1.2 = w0.length % 2 := by rw [k2]
      rw [ex] at j1
      obtain ⟨e, i1, i2, i3⟩ := B.cmp _ _ (Wk.snoc j1 h2) (by rw [List.length_append, List.length_singleton]; omega)
      rw [List.length_append, List.length_singleton] at i2 i3
      refine ⟨e, i1, ?_, by omega⟩
      rw [i2]
      congr 1
      omega
/-- what odd_walk tells -/
def OddW (ps : List (Str × Str)) (a : Str) : Option (List Str) → Prop
  | none => ∀ w, Wk ps a w a → w.length % 2 = 0
  | some w => Wk ps a w a ∧ w.length % 2 = 1 ∧ ∀ v, Wk ps a v a → v.length % 2 = 1 → w.length ≤ v.length
theorem bInv_end {D : Deb} {a : Str} {L : Nat} {kn : Kn} (B : BInv D a L kn []) : OddW D.ps a (lookP kn (a, 1)) := by
  have full := bInv_full B
  cases h : lookP kn (a, 1) with
  | none =>
    intro w hw
    apply Classical.byContradiction
    intro hn
    obtain ⟨e, h1, h2, _⟩ := full w.length w a (Nat.le_refl _) hw
    have : w.length % 2 = 1 := by omega
    rw [this] at h2
    exact lookP_none h (List.mem_map.mpr ⟨e, h1, h2⟩)
  | some w =>
    have hm := lookP_some h
    obtain ⟨k1, k2, k3, k4⟩ := B.snd _ hm
    refine ⟨k1, k2, fun v hv ho => ?_⟩
    obtain ⟨e, h1, h2, h3⟩ := full v.length v a (Nat.le_refl _) hv
    rw [ho] at h2
    have : e = ((a, 1), w) := by
      have key : ∀ {l : Kn}, (l.map (·.1)).Nodup → e ∈ l → ((a, 1), w) ∈ l → e = ((a, 1), w) := by
        intro l
        induction l with
        | nil => intro _ h; cases h
        | cons z l ih =>
          intro hn he hw
          rw [List.map_cons, List.nodup_cons] at hn
          rcases List.mem_cons.mp he with q | q <;> rcases List.mem_cons.mp hw with q' | q'
          · rw [q, q']
          · exact absurd (List.mem_map.mpr ⟨_, q', by rw [← q, h2]⟩) hn.1
          · exact absurd (List.mem_map.mpr ⟨_, q, by rw [← q', h2]⟩) hn.1
          · exact ih hn.2 q q'
      exact key B.nd h1 hm
    rw [this] at h3
    exact h3
/-! ### the walk told, as a function -/
def bfsF (D : Deb) : Nat → Kn → List Plc → Kn
  | 0, kn, _ => kn
  | f + 1, kn, lvl => if lvl = [] then kn else bfsF D f (levK D kn lvl).1 (levK D kn lvl).2
def bfsM (D : Deb) (kn : Kn) (lvl : List Plc) : Nat := 2 * (2 * D.ns.length - kn.length) + (if lvl = [] then 0 else 1)
theorem bfsM_step {D : Deb} {a : Str} {L : Nat} {kn : Kn} {lvl : List Plc} (hD : DOk D) (B : BInv D a L kn lvl) (hne : lvl ≠ []) : bfsM D (levK D kn lvl).1 (levK D kn lvl).2 < bfsM D kn lvl := by
  obtain ⟨B2, hlen⟩ := bInv_step hD B
  have l1 := bInv_len B
  have l2 := bInv_len B2
  unfold bfsM
  rw [if_neg hne]
  by_cases h0 : (levK D kn lvl).2 = []
  · have : (levK D kn lvl).2.length = 0 := by rw [h0]; rfl
    rw [if_pos h0]; omega
  · rw [if_neg h0]
    have : 0 < (levK D kn lvl).2.length := List.length_pos_iff.mpr h0
    omega
theorem bfsF_end {D : Deb} {a : Str} (hD : DOk D) : ∀ (f L : Nat) (kn : Kn) (lvl : List Plc), BInv D a L kn lvl → bfsM D kn lvl ≤ f → ∃ L', BInv D a L' (bfsF D f kn lvl) []
  | 0, L, kn, lvl, B, h => by
    have : lvl = [] := by
      apply Classical.byContradiction
      intro z
      unfold bfsM at h
      rw [if_neg z] at h
      omega
    subst this
    exact ⟨L, B⟩
  | f + 1, L, kn, lvl, B, h => by
    by_cases hne : lvl = []
    · subst hne
      exact ⟨L, B⟩
    · have e : bfsF D (f + 1) kn lvl = bfsF D f (levK D kn lvl).1 (levK D kn lvl).2 := by
        show (if lvl = [] then kn else _) = _
        rw [if_neg hne]
      rw [e]
      exact bfsF_end hD f (L + 1) _ _ (bInv_step hD B).1 (by have := bfsM_step hD B hne; omega)
def bfsN (D : Deb) : Nat := 4 * D.ns.length + 1
def walkF (D : Deb) (a : Str) : Option (List Str) := lookP (bfsF D (bfsN D) [((a, 0), [])] [(a, 0)]) (a, 1)
theorem walkF_ok {D : Deb} {a : Str} (hD : DOk D) (ha : a ∈ D.ns) : OddW D.ps a (walkF D a) := by
  obtain ⟨L, B⟩ := bfsF_end hD (bfsN D) 0 _ _ (bInv_start ha) (by
    unfold bfsM bfsN
    rw [if_neg (by simp)]
    simp only [List.length_singleton]
    omega)
  exact bInv_end B
end K21

set_option Elab.async false
set_option linter.all false
set_option maxRecDepth 100000
set_option maxHeartbeats 4000000
/-! K21Q: a dict display with one tuple key; known, level = ({k: v}, [..]). -/
namespace K21
open PySem PySem.Spec PyProof.Rows L2
def tDisp1T (tk tv : TE) : TE := fun σ H Q => ∀ p, H p = none → tPairs [(tk, tv)] σ (upd H p (.dT [])) fun ps H2 => H2 p = some (.dT []) ∧ ∃ ks b y, ps = [(.ref b, y)] ∧ H2 b = some (.tup (ks.map kV)) ∧ Q (.ref p) (upd H2 p (.dT [(ks, y)]))
theorem pe_disp1T {X : Cx} {pos : Pos} {k v : Expr} {tk tv : TE} (hu : X.A.units + 1 < cLine) (hk : PE X k tk) (hv : PE X v tv) : PE X (.Dict [some k] [v] pos) (tDisp1T tk tv) := by
  refine ⟨fun pins s σ H Q I q => ?_⟩
  have hn := I.hok.fresh (Nat.le_refl s.heap.objs.size)
  have big := I.big
  have I1 := I.laid (a := s.heap.objs.size) (t' := s.toks) (o := .dT []) (h' := s.heap.push { cls := .type "dict", data := .dict #[] }) (fun _ _ z => Heap.get?_push_of_some _ z) (Nat.le_refl _) (dt_empty s.heap big)
  have hp : PPs X pos [some k] [v] [(tk, tv)] := pps_cons hk hv pps_nil
  have sh := zip_pairTrees [some k] [v] X.env pos rfl rfl
  have room : (tupleKind (mixKind X.prog X.w)).room X.A := by
    show X.A.units < cLine
    omega
  rw [arm_eval_Dict, sh, dictDisplay_pairs _ (by simp [pairTrees]) (by simp [pairTrees])]
  refine wpAny_bind (wpAny_standAt (wpAny_bind (wpAny_subDictH (knd := tupleKind (mixKind X.prog X.w)) room (by simp [pairTrees]) (thn (hp.run pins _ σ _ _ I1 (q _ hn)) fun ws s2 ⟨ps, H2, I2, rel, e, ks, b, y, ep, eb, q2⟩ => ?_))))
  subst ep
  cases rel with
  | @cons _ wp _ _ h t =>
    cases t
    obtain ⟨w1, w2⟩ := wp
    obtain ⟨h1, h2⟩ := h
    have h1' : w1 = Value.ref b := h1
    subst h1'
    obtain ⟨z, hd, xs, rel, dd⟩ := dt_of I2.hok e
    cases rel
    refine ⟨[(ks, b, w2)], ⟨rfl, rfl, key_of I2.hok eb, trivial⟩, dd, fun h' tk dd' hs => wpAny_pure ⟨.ref s.heap.objs.size, _, ?_, rfl, q2⟩⟩
    obtain ⟨o, es, ep, ho, g2, g3, g4, _, g5⟩ := dd'
    have ne : b ≠ s.heap.objs.size := fun z => by rw [z, e] at eb; cases eb
    refine d_write I2 (by rw [e]; exact True.intro) hs ⟨o, ho⟩ ⟨by show 1 ≤ sizeLine; rw [sizeLine_eq]; omega, hd, _, .cons ⟨rfl, by rw [upd_ne ne]; exact eb, h2⟩ .nil, o, es, ep, ho, g2, g3, g4, g5⟩

/-- known, level = ({k: v}, e): the dict is new, the rest data -/
@[simp] def sParTo (i j : Nat) (tk tv te : TED) : TSD := fun E r n => tk r n fun kd r1 n1 => tv r1 n1 fun vd r2 n2 => ∃ ds ks w, kd = .py (.tuple ds) ∧ keysOf ds = some ks ∧ vd = .py w ∧ te r2 n2 fun d r3 n3 => E.nx ((r3.set i (some (.mu (.dT [(ks, w)])))).set j (some (.dat d))) n3
section
variable {X : Cx} {c : Cst} {st : Stmt} {a b e : Expr} {ta tb te : TED} {i j : Nat} {q0 : Pos}
theorem ds_parTo (hu : X.A.units + 1 < cLine) (hp : Par2 X st [.Dict [some a] [b] q0, e] i j) (hij : i ≠ j) (h1 : DE c X a ta) (h2 : DE c X b tb) (h3 : DE c X e te) (hs : starEach (.Dict [some a] [b] q0 :: [e]) X.env = (false, eval (.Dict [some a] [b] q0) X.env) :: starEach [e] X.env := by rfl) (hs2 : starEach (e :: []) X.env = (false, eval e X.env) :: starEach [] X.env := by rfl) :
    DS c X st (sParTo i j ta tb te) := ⟨fun g hg => by
  have body : ∀ (D : Ends) (s : L2.St) (H : Hp), liftS g (sParTo i j ta tb te) D s H → ∀ K : V → V → Hp → Prop, (∀ v w H1, (∃ F r n E, Rel g F r n ((s.set i (some v)).set j (some w)) H1 ∧ E.nx r n ∧ EndsOk g F E D) → K v w H1) → tDisp1T (liftX c ta) (liftX c tb) s H fun v H1 => liftX c te s H1 fun w H2 => K v w H2 := by
    rintro D s H ⟨F, r, n, E, R, p, k⟩ K hK p0 hp0
    have R0 := R.laidM (o := .dT []) hp0
    have f0 : F p0 = none := R.bas.und.some hp0
    have g0 : g.H0 p0 = none := R.bas.free0 hp0
    have s0 : ¬ InS g.S p0 := R.bas.notS hp0
    have n0 : ¬ owned r s p0 := fun z => by
      obtain ⟨o, ho, _⟩ := (R.own z).2.2.2
      rw [hp0] at ho; cases ho
    have k1 : strip r s (upd H p0 (.dT [])) p0 = some (.dT []) := by rw [strip_not n0]; exact upd_same
    have I0 := R0.into
    generalize hgi : g.inner F r s (upd H p0 (.dT [])) = gi at I0
    have gic : gi.c = c := by rw [← hgi]; exact hg
    have giH : gi.H0 p0 = some (.dT []) := by rw [← hgi]; exact k1
    have giS : ¬ InS gi.S p0 := by rw [← hgi]; exact s0
    have back : ∀ {F' r' n' s' H'}, Rel gi F' r' n' s' H' → Rel g F' r' n' s' H' := fun R' => by rw [← hgi] at R'; exact R0.back R'
    refine ⟨gi, gic, F, r, n, _, I0, p, fun F1 kd r1 n1 kv H1 sb1 R1 rk p1 => ⟨gi, gic, F1, r1, n1, _, R1, p1, fun F2 vd r2 n2 vv H2 sb2 R2 rv p2 => ?_⟩⟩
    obtain ⟨ds, ks, w, rfl, ek, rfl, p3⟩ := p2
    have e2 : H2 p0 = some (.dT []) := R2.bas.fr p0 _ giH (fun _ z => by cases z) giS
    have f2 : F2 p0 = none := by
      cases q : F2 p0 with
      | none => rfl
      | some o =>
        have z := R2.bas.new p0 o (by rw [← hgi]; exact f0) q (R2.bas.und.ntup q e2 fun _ z => by cases z)
        rw [giH] at z; cases z
    have no2 : ¬ owned r2 s p0 := fun z => by
      have := (R2.own z).2.1
      rw [giH] at this; cases this
    obtain ⟨b, rfl, hb⟩ := Dz.tupKey R2.bas.und (Dz.mono sb2 rk) ek
    refine ⟨e2, ks, b, vv, rfl, hb, ?_⟩
    have R3 : Rel g F2 r2 n2 s (upd H2 p0 (.dT [(ks, vv)])) := by
      have Rb := back R2
      refine ⟨Rb.bas.write e2 (fun _ z => by cases z) (fun c q z => by unfold LamX.CodeO at z; cases z) f2 g0 s0, Rb.len, fun l z e => ?_, Rb.dis⟩
      obtain ⟨v, e1, h⟩ := Rb.slot l z e
      refine ⟨v, e1, ?_⟩
      cases z with
      | dat d => exact h
      | mu m =>
        obtain ⟨q, rfl, h1, h2, h3, h4⟩ := h
        have ne : q ≠ p0 := fun z => no2 ⟨l, m, e, by rw [e1, z]⟩
        exact ⟨q, rfl, h1, h2, h3, h4.at fun u hu _ => by rw [upd_ne ne]; exact hu⟩
    have J0 := R3.into
    have k2 : strip r2 s (upd H2 p0 (.dT [(ks, vv)])) p0 = some (.dT [(ks, vv)]) := by rw [strip_not no2]; exact upd_same
    generalize hgj : g.inner F2 r2 s (upd H2 p0 (.dT [(ks, vv)])) = gj at J0
    have gjc : gj.c = c := by rw [← hgj]; exact hg
    have gjH : gj.H0 p0 = some (.dT [(ks, vv)]) := by rw [← hgj]; exact k2
    have gjS : ¬ InS gj.S p0 := by rw [← hgj]; exact s0
    refine ⟨gj, gjc, F2, r2, n2, _, J0, p3, fun F4 d r4 n4 wv H4 sb4 R4 rw4 p4 => ?_⟩
    have e4 : H4 p0 = some (.dT [(ks, vv)]) := R4.bas.fr p0 _ gjH (fun _ z => by cases z) gjS
    have f4 : F4 p0 = none := by
      cases q : F4 p0 with
      | none => rfl
      | some o =>
        have z := R4.bas.new p0 o (by rw [← hgj]; exact f2) q (R4.bas.und.ntup q e4 fun _ z => by cases z)
        rw [gjH] at z; cases z
    have no4 : ¬ owned r4 s p0 := fun z => by
      have := (R4.own z).2.1
      rw [gjH] at this; cases this
    have R5 : Rel g F4 r4 n4 s H4 := by rw [← hgj] at R4; exact R3.back R4
    have rv' : Dz F4 vv w := by
      have : RepD gi F2 vv (.py w) := rv
      exact Dz.mono sb4 this
    have R6 := R5.setM (i := i) (p := p0) (m := .dT [(ks, w)]) f4 g0 s0 ⟨[(ks, vv)], e4, .cons ⟨rfl, rv'⟩ .nil⟩ fun l m' e1 e2 => no4 ⟨l, m', e1, e2⟩
    have rd : RepD g F4 wv d := by
      rw [← hgj] at rw4
      exact RepD.inner.mp rw4
    exact hK _ _ _ ⟨F4, _, n4, E, R6.set (i := j) rd, p4, k.to⟩
  rcases hp.run _ (pa_cons (pe_disp1T hu h1.x h2.x) (pa_cons h3.x pa_nil hs2) hs) with hq | hq
  · refine PS.imp hq fun D s H h => body D s H h (fun v w H1 => ∃ v' w', [v, w] = [v', w'] ∧ D.nx ((s.set i (some v')).set j (some w')) H1) fun v w H1 ⟨F, r, n, E, R, p, k⟩ => ⟨v, w, rfl, k.nx F r n _ H1 (.refl F) R p⟩
  · refine PS.imp hq fun D s H h => body D s H h (fun v w H2 => 2 ≤ sizeLine ∧ ∀ q, H2 q = none → gTup X.K 2 (gCons (gName i) (gCons (gName j) gNil)) (.ref q) s (upd H2 q (.tup [v, w])) D.nx) fun v w H1 ⟨F, r, n, E, R, p, k⟩ => ⟨by decide, fun q hq => ⟨q, _, rfl, .of upd_same, rfl, v, _, rfl, w, _, rfl, rfl, k.nx F r n _ _ (.refl F) (R.laidM hq) p⟩⟩⟩
end
end K21

set_option Elab.async false
set_option linter.all false
set_option maxRecDepth 100000
set_option maxHeartbeats 4000000
/-! K21R: odd walks, the least odd ring. -/
namespace K21
open PySem PySem.Spec PyProof.Rows L2
def plcD (p : Plc) : PD := .tuple [.str p.1, .int (p.2 : Nat)]
def plcK (p : Plc) : List Key := [Sum.inr p.1, Sum.inl (p.2 : Int)]
def knD (kn : Kn) : List (List Key × PD) := kn.map fun e => (plcK e.1, .list (sts e.2))
theorem plcK_inj {p q : Plc} : plcK p = plcK q ↔ p = q := by
  obtain ⟨a, b⟩ := p
  obtain ⟨x, y⟩ := q
  simp only [plcK, List.cons.injEq, Sum.inr.injEq, Sum.inl.injEq, and_true, Prod.mk.injEq]
  constructor
  · rintro ⟨h1, h2⟩; exact ⟨h1, by omega⟩
  · rintro ⟨h1, h2⟩; exact ⟨h1, by omega⟩
theorem sInv_len {D : Deb} {a : Str} {L : Nat} {kn : Kn} {lvl : List Plc} {dn : List (Plc × Str)} {st : Kn × List Plc} (B : BInv D a L kn lvl) (S : SInv D a L kn dn st) : st.1.length ≤ 2 * D.ns.length ∧ st.2.length ≤ st.1.length := by
  obtain ⟨nw, e1, e2, h3⟩ := S.nw
  refine ⟨?_, by rw [e1, e2]; simp⟩
  have := nodup_len (ys := D.ns.map (fun x => (x, 0)) ++ D.ns.map fun x => (x, 1)) S.nd fun p hp => by
    obtain ⟨e, h1, rfl⟩ := List.mem_map.mp hp
    have h4 : e.2.length % 2 = e.1.2 ∧ e.1.1 ∈ D.ns := by
      rw [e1] at h1
      rcases List.mem_append.mp h1 with z | z
      · have := B.snd e z; exact ⟨this.2.1, this.2.2.2⟩
      · have := h3 e z; exact ⟨this.2.1, this.2.2.2⟩
    have : e.1.2 = 0 ∨ e.1.2 = 1 := by omega
    rw [List.mem_append, List.mem_map, List.mem_map]
    rcases this with h | h
    · exact .inl ⟨e.1.1, h4.2, by rw [← h]⟩
    · exact .inr ⟨e.1.1, h4.2, by rw [← h]⟩
  rw [List.length_map, List.length_append, List.length_map, List.length_map] at this
  omega
theorem outs_app (D : Deb) (l m : List Plc) : outs D (l ++ m) = outs D l ++ outs D m := by simp [outs]
theorem outs_one (D : Deb) (p : Plc) : outs D [p] = (objd D p.1).map fun y => (p, y) := by simp [outs]
theorem lookT_kn (kn : Kn) (p : Plc) : lookT (knD kn) (plcK p) = (lookP kn p).map fun w => .list (sts w) := by
  unfold lookT lookP knD
  rw [List.find?_map, Option.map_map, Option.map_map]
  congr 1
  congr 1
  funext e
  simp [Function.comp, plcK_inj]
theorem putT_kn {kn : Kn} {p : Plc} (h : lookP kn p = none) (w : List Str) : putT (knD kn) (plcK p) (.list (sts w)) = knD (kn ++ [(p, w)]) := by
  unfold putT
  rw [lookT_kn, h]
  simp [knD]
section
variable {P : Program} {w : World} {K : PySem.W.Frag} {mg : Str → Option Value} {base : Heap} {c : Cst}
theorem sc_odd_walk : FnScope ["debate", "first", "begun", "known", "level", "later", "one", "odd", "other", "place"] ["debate", "first"] (defScope (topS 44)) := ⟨rfl, rfl, rfl, by decide +kernel, rfl, by decide +kernel, by decide +kernel⟩
def pre_ow (ds : List DV) (_ : Nat) : Prop := ∃ D a, DOk D ∧ a ∈ D.ns ∧ ds = [.oldB D, .py (.str a)]
def post_ow (ds : List DV) (n : Nat) (d : DV) (n' : Nat) : Prop := n' = n ∧ ∃ D a o, ds = [.oldB D, .py (.str a)] ∧ d = .py (optW o) ∧ o = walkF D a
theorem ok_odd_walk (D : DefAt K mg "odd_walk" (topS 44)) (B : Bn mg) (DT : DebT K c.C) :
    OkA P w K mg base c "odd_walk" ["debate", "first"] 1 pre_ow post_ow := by
  refine ok_defA D (fun _ _ _ _ _ _ us hl => match us, hl with | [_, _], _ => rfl) sc_odd_walk (fun ds n h => ?_) (fun f cdv A outer s H E hr => ?_)
  · obtain ⟨a, b, _, _, rfl⟩ := h; rfl
  · refine ⟨_, (dss_cons (ds_set (i := 2) sc_odd_walk.nd rfl (Or.inl rfl) (de_tup (da_cons (de_v 1 (pv 1)) (da_cons de_int da_nil)))) (dss_cons (ds_parTo (hu1 hr) (par2_S (i := 3) (j := 4) rfl sc_odd_walk.nd rfl rfl (by decide) rfl rfl rfl) (by decide) (de_v 2 (pv 2)) (de_lst da_nil) (de_lst (da_cons (de_v 2 (pv 2)) da_nil))) (dss_cons (ds_while PassesOwn.never (dt_truL (de_v 4 (pv 4))) (dss_cons (ds_newL (i := 5) sc_odd_walk.nd rfl (Or.inl rfl) da_nil) (dss_cons (ds_for (.two 6 7) PassesOwn.never rfl (di_lst (de_v 4 (pv 4))) (pg_tup rfl (pgs_cons (pg_name (i := 6) sc_odd_walk.nd rfl (Or.inl rfl)) (pgs_cons (pg_name (i := 7) sc_odd_walk.nd rfl (Or.inl rfl)) pgs_nil))) (dss_one (ds_for (.one 8) PassesOwn.never rfl (di_getA 0 (hu1 hr) DT.cls DT.nD (pv 0) (de_v 6 (pv 6))) (pg_name (i := 8) sc_odd_walk.nd rfl (Or.inl rfl)) (dss_cons (ds_set (i := 9) sc_odd_walk.nd rfl (Or.inl rfl) (de_tup (da_cons (de_v 8 (pv 8)) (da_cons (de_sub de_int (de_v 7 (pv 7))) da_nil)))) (dss_one (ds_if (dt_notInT 3 (hu1 hr) (de_v 9 (pv 9)) (pv 3)) (dss_cons (ds_putT 3 (hu1 hr) (pv 3) (de_cat (de_getT 3 (hu1 hr) (pv 3) (de_tup (da_cons (de_v 6 (pv 6)) (da_cons (de_v 7 (pv 7)) da_nil)))) (de_lst (da_cons (de_v 6 (pv 6)) da_nil))) (de_v 9 (pv 9))) (dss_one (ds_expr (de_append 5 (pv 5) (de_v 9 (pv 9)))))) dss_nil)))))) (dss_one (ds_set (i := 4) sc_odd_walk.nd rfl (Or.inl rfl) (de_frz 5 (pv 5))))))) (dss_one (ds_ret (de_get1T 3 (hu1 hr) (pv 3) (de_tup (da_cons (de_v 1 (pv 1)) (da_cons de_int da_nil))) ⟨rfl, rfl, rfl, rfl⟩)))))), fun ds n h => ?_⟩
    obtain ⟨D, a, hD, ha, rfl⟩ := h
    simp [startD, -Bool.exists_bool]
    refine ⟨by rw [szL]; omega, by rw [szL]; omega, ?_⟩
    have h64 := hD.l1
    have mk : ∀ (kn : Kn) (lvl : List Plc) (L : Nat) (dn : List (Plc × Str)), BInv D a L kn lvl → (∀ q ∈ dn, q ∈ outs D lvl) → SInv D a L kn dn (dn.foldl stepK (kn, [])) := fun kn lvl L dn Bi h => by
      have := sInv_all hD Bi dn [] (kn, []) (fun q hq => mem_outs.mp (h q hq)) (sInv_start Bi)
      simpa using this
    refine ⟨fun m r n' => ∃ kn lvl L x5 x6 x7 x8 x9, r = [some (.dat (.oldB D)), some (.dat (.py (.str a))), some (.dat (.py (.tuple [.str a, .int 0]))), some (.mu (.dT (knD kn))), some (.dat (.py (.list (lvl.map plcD)))), x5, x6, x7, x8, x9] ∧ n' = n ∧ BInv D a L kn lvl ∧ (lvl ≠ [] → L < kn.length) ∧ bfsM D kn lvl ≤ m ∧ bfsF D m kn lvl = bfsF D (bfsN D) [((a, 0), [])] [(a, 0)], ⟨bfsN D, [((a, 0), [])], [(a, 0)], 0, _, _, _, _, _, rfl, rfl, bInv_start ha, fun _ => by simp, by unfold bfsM bfsN; rw [if_neg (by simp)]; simp only [List.length_singleton]; omega, rfl⟩, ?_⟩
    rintro m r n' ⟨kn, lvl, L, x5, x6, x7, x8, x9, rfl, rfl, Bi, hLk, hms, hfn⟩
    cases lvl with
    | nil =>
      simp [-Bool.exists_bool]
      have efn : kn = bfsF D (bfsN D) [((a, 0), [])] [(a, 0)] := by
        rw [← hfn]
        cases m with
        | zero => rfl
        | succ m => show kn = if ([] : List Plc) = [] then kn else _; rw [if_pos rfl]
      refine ⟨by rw [szL]; omega, rfl, D, a, lookP kn (a, 1), rfl, ?_, by rw [efn]; rfl⟩
      have := lookT_kn kn (a, 1)
      rw [show ([Sum.inr a, Sum.inl 1] : List Key) = plcK (a, 1) from rfl, this]
      cases lookP kn (a, 1) <;> rfl
    | cons p0 lvl0 =>
      generalize hlv : p0 :: lvl0 = lvl at Bi hLk hms hfn
      have hne : lvl ≠ [] := by rw [← hlv]; simp
      have hemp : (lvl.map plcD).isEmpty = false := by rw [← hlv]; rfl
      simp only [tTruL, dVar, List.getElem?_cons_succ, List.getElem?_cons_zero, Option.some.injEq, Slot.dat.injEq, exists_eq_left', DV.py.injEq, PyData.list.injEq, hemp, Bool.not_false, if_true, hne, if_false]
      simp only [sSeq, sNewL, dNil, pys, Option.some.injEq, exists_eq_left', List.length_nil, Nat.zero_le, true_and, List.set_cons_succ, List.set_cons_zero]
      refine for_t2 lvl (fun p => .str p.1) (fun p => .int (p.2 : Nat)) (fun k r n1 => ∃ x6 x7 x8 x9, r = [some (.dat (.oldB D)), some (.dat (.py (.str a))), some (.dat (.py (.tuple [.str a, .int 0]))), some (.mu (.dT (knD ((outs D (lvl.take k)).foldl stepK (kn, [])).1))), some (.dat (.py (.list (lvl.map plcD)))), some (.mu (.lst (((outs D (lvl.take k)).foldl stepK (kn, [])).2.map plcD))), x6, x7, x8, x9] ∧ n1 = n') (fun K h => by simp; exact h) ⟨x6, x7, x8, x9, rfl, rfl⟩ (fun k p r n1 hp hI => ?_) (fun r n1 hI => ?_)
      · obtain ⟨y6, y7, y8, y9, rfl, rfl⟩ := hI
        have hpl : p ∈ lvl := List.mem_of_getElem? hp
        obtain ⟨e0, q1, q2⟩ := Bi.lin p hpl
        have hpar := (Bi.snd e0 q1).2.1
        have hpn : p.1 ∈ D.ns := by rw [← q2]; exact (Bi.snd e0 q1).2.2.2
        rw [q2] at hpar
        have hp1 : p.2 ≤ 1 := by omega
        have hint : (1 : Int) - (p.2 : Int) = ((1 - p.2 : Nat) : Int) := by omega
        have sub : ∀ j, ∀ q ∈ outs D (lvl.take k) ++ ((objd D p.1).take j).map (fun y => (p, y)), q ∈ outs D lvl := fun j q hq => by
          rw [← List.take_append_drop k lvl, drop_get hp, outs_app]
          rcases List.mem_append.mp hq with h | h
          · exact List.mem_append.mpr (.inl h)
          · obtain ⟨y, hy, rfl⟩ := List.mem_map.mp h
            refine List.mem_append.mpr (.inr (mem_outs.mpr ⟨by simp, mem_objd.mp (List.mem_of_mem_take hy)⟩))
        refine for_t (objd D p.1) PyData.str (fun j r n2 => ∃ x8 x9, r = [some (.dat (.oldB D)), some (.dat (.py (.str a))), some (.dat (.py (.tuple [.str a, .int 0]))), some (.mu (.dT (knD ((outs D (lvl.take k) ++ ((objd D p.1).take j).map (fun y => (p, y))).foldl stepK (kn, [])).1))), some (.dat (.py (.list (lvl.map plcD)))), some (.mu (.lst (((outs D (lvl.take k) ++ ((objd D p.1).take j).map (fun y => (p, y))).foldl stepK (kn, [])).2.map plcD))), some (.dat (.py (.str p.1))), some (.dat (.py (.int (p.2 : Nat)))), x8, x9] ∧ n2 = n1) (fun K h => by simp [iGetA, hpn]; exact ⟨_, rfl, h⟩) ⟨y8, y9, by simp, rfl⟩ (fun j y r n2 hy hJ => ?_) (fun r n2 hJ => ?_)
        · obtain ⟨z8, z9, rfl, rfl⟩ := hJ
          have hym : y ∈ objd D p.1 := List.mem_of_getElem? hy
          have S := mk kn lvl L _ Bi (sub j)
          have St := sInv_step hD Bi S (q := (p, y)) hpl (mem_objd.mp hym)
          have nxt : (outs D (lvl.take k) ++ ((objd D p.1).take (j + 1)).map (fun y => (p, y))).foldl stepK (kn, []) = stepK ((outs D (lvl.take k) ++ ((objd D p.1).take j).map (fun y => (p, y))).foldl stepK (kn, [])) (p, y) := by
            rw [take_succ_get hy, List.map_append, ← List.append_assoc, List.foldl_append]
            rfl
          rw [nxt]
          obtain ⟨len1, len2⟩ := sInv_len Bi S
          generalize (outs D (lvl.take k) ++ ((objd D p.1).take j).map (fun y => (p, y))).foldl stepK (kn, []) = st at S St len1 len2
          obtain ⟨w, hw⟩ := Option.isSome_iff_exists.mp St.2
          have hwl : w.length ≤ 200 := by
            obtain ⟨nw, e1, e2, h3⟩ := S.nw
            have hm := lookP_some hw
            have b1 := bInv_len Bi
            have b2 := hLk hne
            rw [e1] at hm
            rcases List.mem_append.mp hm with h | h
            · have := (Bi.snd _ h).2.2.1
              have : w.length ≤ L := this
              omega
            · have := (h3 _ h).2.2.1
              have : w.length ≤ L + 1 := this
              omega
          have k1 := lookT_kn st.1 (y, 1 - p.2)
          have k2 := lookT_kn st.1 p
          have hw' : lookP st.1 p = some w := hw
          rw [hw'] at k2
          simp only [plcK, Option.map_some] at k1 k2
          have hdef : stepK st (p, y) = if (lookP st.1 (y, 1 - p.2)).isSome then st else (st.1 ++ [((y, 1 - p.2), w ++ [p.1])], st.2 ++ [(y, 1 - p.2)]) := by
            unfold stepK
            simp only [hw', Option.getD_some]
          rw [hdef]
          simp [-Bool.exists_bool, hint, k1, k2]
          refine ⟨by rw [szL]; omega, ?_⟩
          cases hq : lookP st.1 (y, 1 - p.2) with
          | some v => simp
          | none =>
            have pt := putT_kn hq (w ++ [p.1])
            have lk : (knD st.1).length = st.1.length := by simp [knD]
            simp only [plcK, List.map_append, List.map_cons, List.map_nil] at pt
            rw [lk, szL]
            simp
            refine ⟨by omega, by omega, by omega, by simpa using pt, rfl⟩
        · obtain ⟨z8, z9, rfl, rfl⟩ := hJ
          have e : outs D (lvl.take k) ++ ((objd D p.1).take (objd D p.1).length).map (fun y => (p, y)) = outs D (lvl.take (k + 1)) := by
            rw [List.take_length, take_succ_get hp, outs_app, outs_one]
          rw [e]
          exact ⟨_, _, _, _, rfl, rfl⟩
      · obtain ⟨y6, y7, y8, y9, rfl, rfl⟩ := hI
        rw [List.take_length]
        obtain ⟨B2, hlen⟩ := bInv_step hD Bi
        have l2 := bInv_len B2
        simp [-Bool.exists_bool]
        have hst := bfsM_step hD Bi hne
        obtain ⟨m0, rfl⟩ : ∃ m0, m = m0 + 1 := ⟨m - 1, by omega⟩
        have hfs : bfsF D (m0 + 1) kn lvl = bfsF D m0 (levK D kn lvl).1 (levK D kn lvl).2 := by
          show (if lvl = [] then kn else _) = _
          rw [if_neg hne]
        refine ⟨m0, by omega, (levK D kn lvl).1, (levK D kn lvl).2, ⟨rfl, rfl⟩, L + 1, B2, fun h => ?_, by omega, by rw [← hfs]; exact hfn⟩
        have : 0 < (levK D kn lvl).2.length := List.length_pos_iff.mpr h
        have := hLk hne
        omega
theorem lctR {α β : Type} {i : Nat} {src : TSrc} {te : TED} {vs : List Nat} {r : DEnv} {n : Nat} {P : DV → DEnv → Nat → Prop} (xs : List α) (enc : α → PD) (R : α → β → Prop) (f : β → PD) (hs : ∀ K : List PD → DEnv → Nat → Prop, K (xs.map enc) r n → src r n K) (hi : i ∈ vs) (hl : xs.length ≤ sizeLine) (hw : wipeD r vs = r)
    (he : ∀ x ∈ xs, ∀ K : DV → DEnv → Nat → Prop, (∀ b, R x b → K (.py (f b)) (r.set i (some (.dat (.py (enc x))))) n) → te (r.set i (some (.dat (.py (enc x))))) n K) (hP : ∀ bs, Paired R xs bs → P (.py (.list (bs.map f))) r n) : tLcD (.one i) src tYesD te vs r n P := by
  refine hs _ ⟨fun k acc r' n' => r' = r ∧ n' = n ∧ ∃ bs, Paired R (xs.take k) bs ∧ acc = bs.map f, ⟨hw, rfl, [], .nil, rfl⟩, ?_, fun acc r' n' ⟨e1, e2, bs, e3, e4⟩ => ?_⟩
  · rintro k d acc r' n' hd ⟨rfl, rfl, bs, hb, rfl⟩
    rw [List.getElem?_map] at hd
    cases hp : xs[k]? with
    | none => rw [hp] at hd; cases hd
    | some x =>
      rw [hp] at hd
      cases hd
      have hm : x ∈ xs := List.mem_of_getElem? hp
      have e1 : wipeD (r'.set i (some (.dat (.py (enc x))))) vs = r' := by rw [wipeD_set hi, hw]
      refine he x hm _ fun b hb' => ⟨f b, rfl, ?_, e1, rfl, bs ++ [b], ?_, by simp⟩
      · have h1 : k < xs.length := (List.getElem?_eq_some_iff.mp hp).1
        have h2 := Paired.length hb
        rw [List.length_take] at h2
        rw [List.length_map]
        omega
      · rw [take_succ_get hp]
        exact Paired.snoc hb hb'
  · subst e1 e2 e4
    rw [List.length_map, List.take_length] at e3
    exact hP bs e3
/-- what odd_ring tells -/
def LeastW (D : Deb) : Option (List Str) → Prop
  | none => ∀ a ∈ D.ns, ∀ w, Wk D.ps a w a → w.length % 2 = 0
  | some w => ∃ a ∈ D.ns, Wk D.ps a w a ∧ w.length % 2 = 1 ∧ ∀ b ∈ D.ns, ∀ v, Wk D.ps b v b → v.length % 2 = 1 → w.length ≤ v.length
theorem paired_in {α β : Type} {R : α → β → Prop} : ∀ {as : List α} {bs : List β}, Paired R as bs → (∀ a ∈ as, ∃ b ∈ bs, R a b) ∧ ∀ b ∈ bs, ∃ a ∈ as, R a b
  | _, _, .nil => ⟨by simp, by simp⟩
  | _, _, .cons (a := a) (b := b) h t => by
    obtain ⟨i1, i2⟩ := paired_in t
    refine ⟨fun x hx => ?_, fun y hy => ?_⟩
    · rcases List.mem_cons.mp hx with rfl | hx
      · exact ⟨b, by simp, h⟩
      · obtain ⟨z, h1, h2⟩ := i1 x hx
        exact ⟨z, by simp [h1], h2⟩
    · rcases List.mem_cons.mp hy with rfl | hy
      · exact ⟨a, by simp, h⟩
      · obtain ⟨z, h1, h2⟩ := i2 y hy
        exact ⟨z, by simp [h1], h2⟩
def someW (os : List (Option (List Str))) : List (List Str) := (os.filter Option.isSome).map fun o => o.getD []
theorem mem_someW {os : List (Option (List Str))} {w : List Str} : w ∈ someW os ↔ some w ∈ os := by
  simp only [someW, List.mem_map, List.mem_filter]
  constructor
  · rintro ⟨o, ⟨h1, h2⟩, rfl⟩
    cases o with
    | none => cases h2
    | some v => exact h1
  · intro h
    exact ⟨some w, ⟨h, rfl⟩, rfl⟩
theorem leastW_of {D : Deb} {os : List (Option (List Str))} (h : Paired (OddW D.ps) D.ns os) : LeastW D (sortW (someW os)).head? := by
  obtain ⟨h1, h2⟩ := paired_in h
  have pm : (sortW (someW os)).Perm (someW os) := sort_pm lwD _
  have pw := sort_pw lwD (someW os)
  change (sortW (someW os)).Pairwise _ at pw
  cases e : sortW (someW os) with
  | nil =>
    intro a ha w hw
    obtain ⟨o, k1, k2⟩ := h1 a ha
    cases o with
    | none => exact k2 w hw
    | some v =>
      have : v ∈ sortW (someW os) := pm.mem_iff.mpr (mem_someW.mpr k1)
      rw [e] at this; cases this
  | cons w ws =>
    have hw : some w ∈ os := mem_someW.mp (pm.mem_iff.mp (by rw [e]; simp))
    obtain ⟨a, k1, k2, k3, _⟩ := h2 _ hw
    refine ⟨a, k1, k2, k3, fun b hb v hv hodd => ?_⟩
    obtain ⟨o, j1, j2⟩ := h1 b hb
    cases o with
    | none => have := j2 v hv; omega
    | some u =>
      have hu : u ∈ sortW (someW os) := pm.mem_iff.mpr (mem_someW.mpr j1)
      have l1 : u.length ≤ v.length := j2.2.2 v hv hodd
      rw [e] at hu pw
      rcases List.mem_cons.mp hu with rfl | hu
      · exact l1
      · exact Nat.le_trans (lw_le ((List.pairwise_cons.mp pw).1 u hu)) l1
theorem paired_fn {α β : Type} {f : α → β} : ∀ {as : List α} {bs : List β}, Paired (fun a b => b = f a) as bs → bs = as.map f
  | _, _, .nil => rfl
  | _, _, .cons h t => by rw [h, paired_fn t]; rfl
def ringF (D : Deb) : Option (List Str) := (sortW (someW (D.ns.map (walkF D)))).head?
theorem fn_paired {α β : Type} {R : α → β → Prop} {f : α → β} : ∀ {as : List α}, (∀ a ∈ as, R a (f a)) → Paired R as (as.map f)
  | [], _ => .nil
  | a :: as, h => .cons (h a (by simp)) (fn_paired fun b hb => h b (by simp [hb]))
theorem ringF_ok {D : Deb} (hD : DOk D) : LeastW D (ringF D) := leastW_of (fn_paired fun a ha => walkF_ok hD ha)
theorem sc_odd_ring : FnScope ["debate", "some", "found", "one", "walk"] ["debate"] (defScope (topS 45)) := ⟨rfl, rfl, rfl, by decide +kernel, rfl, by decide +kernel, by decide +kernel⟩
def pre_or (ds : List DV) (_ : Nat) : Prop := ∃ D, DOk D ∧ ds = [.oldB D]
def post_or (ds : List DV) (n : Nat) (d : DV) (n' : Nat) : Prop := n' = n ∧ ∃ D o, ds = [.oldB D] ∧ d = .py (optW o) ∧ o = ringF D
theorem ok_odd_ring (D : DefAt K mg "odd_ring" (topS 45)) (B : Bn mg) (DT : DebT K c.C) (O_odd_walk : OkA P w K mg base c "odd_walk" ["debate", "first"] 1 pre_ow post_ow) :
    OkA P w K mg base c "odd_ring" ["debate"] 2 pre_or post_or := by
  refine ok_defA D (fun _ _ _ _ _ _ us hl => match us, hl with | [_], _ => rfl) sc_odd_ring (fun ds n h => ?_) (fun f cdv A outer s H E hr => ?_)
  · obtain ⟨a, _, rfl⟩ := h; rfl
  · refine ⟨_, (dss_cons (ds_setLc (i := 1) (y := "some") rfl rfl (own := [("one", 3)]) (.one 3) rfl sc_odd_ring.nd (di_fldA 0 DT.cls DT.nS (pv 0)) (blkOk_by (N := ["debate", "some", "found", "one", "walk"]) (sc := defScope (topS 45)) (own := [("one", 3)]) (by decide +kernel)) (fun _ _ _ _ _ => (pg_name (i := 3) sc_odd_ring.nd rfl (Or.inl rfl))) (fun _ _ _ _ _ => dts_nil) (fun _ _ _ _ _ => (de_callP O_odd_walk hr (by decide) rfl (da_cons (de_v 0 (pv 0)) (da_cons (de_v 3 (pv 3)) da_nil)))) (sw_true rfl rfl rfl (by decide +kernel))) (dss_cons (ds_set (i := 2) sc_odd_ring.nd rfl (Or.inl rfl) (de_sorted (hu64 hr) rfl B.sorted (de_lc (own := [("walk", 4)]) (.one 4) rfl sc_odd_ring.nd (di_lst (de_v 1 (pv 1))) (blkOk_by (N := ["debate", "some", "found", "one", "walk"]) (sc := defScope (topS 45)) (own := [("walk", 4)]) (by decide +kernel)) (fun _ _ _ _ _ => (pg_name (i := 4) sc_odd_ring.nd rfl (Or.inl rfl))) (fun _ _ _ _ _ => (dts_one (dt_notN (de_v 4 (pv 4)) de_non))) (fun _ _ _ _ _ => (de_tup (da_cons (de_len rfl B.len (de_v 4 (pv 4))) (da_cons (de_v 4 (pv 4)) da_nil))))))) (dss_one (ds_ret (de_if (dt_ne (hu64 hr) (de_v 2 (pv 2)) (de_lst da_nil)) (de_ix (de_ix (de_v 2 (pv 2)) de_int) de_int) de_non))))), fun ds n h => ?_⟩
    obtain ⟨D, hD, rfl⟩ := h
    have h64 := hD.l1
    simp [startD, -Bool.exists_bool, -kSort]
    refine lctR D.ns PyData.str (fun a o => o = walkF D a) optW (fun K h => ⟨D, D.ns, rfl, rfl, h⟩) (by simp) (by rw [szL]; omega) rfl (fun a ha K hK => ?_) fun os hos => ?_
    · simp [flatP]
      refine ⟨⟨D, a, hD, ha, rfl⟩, fun d n2 hp => ?_⟩
      obtain ⟨rfl, D', a', o, e, rfl, ho⟩ := hp
      simp only [List.cons.injEq, DV.oldB.injEq, DV.py.injEq, PyData.str.injEq, and_true] at e
      obtain ⟨rfl, rfl⟩ := e
      exact ⟨optW o, rfl, hK o ho⟩
    · have hlen := Paired.length hos
      simp [-Bool.exists_bool, -kSort]
      have key : ((os.filter Option.isSome).map fun o => lwD (o.getD [])) = (someW os).map lwD := by simp [someW]
      have hfl := List.length_filter_le Option.isSome os
      refine lct os optW Option.isSome (fun o => lwD (o.getD [])) (fun K h => by simp; exact h) (by simp) (by rw [szL]; omega) rfl (fun o ho K hK => ?_) (fun o ho hq K hK => ?_) ?_
      · simp [-Bool.exists_bool]
        cases o <;> exact hK
      · cases o with
        | none => cases hq
        | some w =>
          simp [-Bool.exists_bool]
          refine ⟨by rw [szL]; omega, ?_⟩
          simpa [lwD] using hK
      · rw [key]
        have hsl : (someW os).length ≤ sizeLine := by unfold someW; rw [List.length_map, szL]; omega
        refine kSort_lw hsl ?_
        have eos : os = D.ns.map (walkF D) := paired_fn hos
        have pst : (sortW (someW os)).head? = ringF D := by rw [eos]; rfl
        cases e : sortW (someW os) with
        | nil =>
          rw [e] at pst
          simp [-Bool.exists_bool]
          exact ⟨rfl, D, none, rfl, rfl, pst⟩
        | cons w ws =>
          rw [e] at pst
          simp [-Bool.exists_bool, lwD]
          have sh : shapeD (.list ((w :: ws).map lwD)) = true := shape_list fun d hd => by
            obtain ⟨x, _, rfl⟩ := List.mem_map.mp hd
            exact ⟨by simp [lwD, layD, layD.layDAll, lay_sts], by simp [lwD, PyData.depth, PyData.depthAll, depth_sts]⟩
          exact ⟨by simpa [lwD] using sh, rfl, D, some w, rfl, rfl, pst⟩
end
end K21

set_option Elab.async false
set_option linter.all false
set_option maxRecDepth 100000
set_option maxHeartbeats 4000000
/-! K21U: the law's own words over names and pairs. -/
namespace K21
open PySem PySem.Spec PyProof.Rows L2
def lobjs (ps : List (Str × Str)) (x : Str) : List Str := sortS ((ps.filter fun p => decide (p.2 = x)).map (·.1))
def lobjd (ps : List (Str × Str)) (x : Str) : List Str := sortS ((ps.filter fun p => decide (p.1 = x)).map (·.2))
def lhits (ps : List (Str × Str)) (lot : List Str) (x : Str) : Bool := (lobjs ps x).any fun y => decide (y ∈ lot)
def lans (ps : List (Str × Str)) (lot : List Str) (x : Str) : Bool := (lobjs ps x).all (lhits ps lot)
def lcalm (ps : List (Str × Str)) (lot : List Str) : Bool := !(ps.any fun p => decide (p.1 ∈ lot) && decide (p.2 ∈ lot))
def lheld (ps : List (Str × Str)) (lot : List Str) : Bool := lcalm ps lot && lot.all (lans ps lot)
def growS (fd : List (List Str)) (s : Str) : List (List Str) := fd ++ fd.map (· ++ [s])
def subsL (ns : List Str) : List (List Str) := ns.foldl growS [[]]
def subsets (ns : List Str) : List (List Str) := sortL (subsL (sortS ns))
def unP : List PD → List (Str × Str)
  | .tuple [.str a, .str b] :: r => (a, b) :: unP r
  | _ :: r => unP r
  | [] => []
@[simp] theorem unP_pairs : ∀ ps : List (Str × Str), unP (ps.map pairD) = ps
  | [] => rfl
  | p :: ps => congrArg (p :: ·) (unP_pairs ps)
theorem mem_sortS {xs : List Str} {x : Str} : x ∈ sortS xs ↔ x ∈ xs := (sort_pm PyData.str xs).mem_iff
theorem len_sortS (xs : List Str) : (sortS xs).length = xs.length := (sort_pm PyData.str xs).length_eq
theorem mem_lobjs {ps : List (Str × Str)} {x y : Str} : y ∈ lobjs ps x ↔ (y, x) ∈ ps := by
  simp only [lobjs, mem_sortS, List.mem_map, List.mem_filter, decide_eq_true_eq]
  exact ⟨fun ⟨p, ⟨h1, h2⟩, h3⟩ => by subst h2 h3; exact h1, fun h => ⟨(y, x), ⟨h, rfl⟩, rfl⟩⟩
theorem mem_lobjd {ps : List (Str × Str)} {x y : Str} : y ∈ lobjd ps x ↔ (x, y) ∈ ps := by
  simp only [lobjd, mem_sortS, List.mem_map, List.mem_filter, decide_eq_true_eq]
  exact ⟨fun ⟨p, ⟨h1, h2⟩, h3⟩ => by subst h2 h3; exact h1, fun h => ⟨(x, y), ⟨h, rfl⟩, rfl⟩⟩
theorem len_lobjs (ps : List (Str × Str)) (x : Str) : (lobjs ps x).length ≤ ps.length := by
  rw [lobjs, len_sortS, List.length_map]; exact List.length_filter_le _ _
theorem len_lobjd (ps : List (Str × Str)) (x : Str) : (lobjd ps x).length ≤ ps.length := by
  rw [lobjd, len_sortS, List.length_map]; exact List.length_filter_le _ _
section
variable {P : Program} {w : World} {K : PySem.W.Frag} {mg : Str → Option Value} {base : Heap} {c : Cst}
def pre_px (ds : List DV) (_ : Nat) : Prop := ∃ (ps : List (Str × Str)) (x : Str), ps.length ≤ 4096 ∧ ds = [.py (.list (ps.map pairD)), .py (.str x)]
@[simp] def f_d_objectors : List DV → DV
  | [.py (.list p), .py (.str x)] => .py (.list (sts (lobjs (unP p) x)))
  | _ => .py .none
@[simp] def f_d_objected : List DV → DV
  | [.py (.list p), .py (.str x)] => .py (.list (sts (lobjd (unP p) x)))
  | _ => .py .none
theorem sc__law_d_objectors : FnScope ["_law_pairs", "_law_name", "_law_one", "_law_other"] ["_law_pairs", "_law_name"] (defScope (topS 60)) := ⟨rfl, rfl, rfl, by decide +kernel, rfl, by decide +kernel, by decide +kernel⟩
theorem ok_d_objectors (D : DefAt K mg "_law_d_objectors" (topS 60)) (B : Bn mg) : OkD P w K mg base c "_law_d_objectors" ["_law_pairs", "_law_name"] 1 pre_px (pv1 f_d_objectors) := by
  refine ok_def D (fun _ _ _ _ _ _ us hl => match us, hl with | [_, _], _ => rfl) sc__law_d_objectors (fun ds n h => ?_) (fun f cdv A outer s H E hr => ?_)
  · obtain ⟨a, b, _, rfl⟩ := h; rfl
  · refine ⟨_, (dss_one (ds_ret (de_sorted (hu64 hr) rfl B.sorted (de_lc (own := [("_law_one", 2), ("_law_other", 3)]) (.two 2 3) rfl sc__law_d_objectors.nd (di_lst (de_v 0 (pv 0))) (blkOk_by (N := ["_law_pairs", "_law_name", "_law_one", "_law_other"]) (sc := defScope (topS 60)) (own := [("_law_one", 2), ("_law_other", 3)]) (by decide +kernel)) (fun _ _ _ _ _ => (pg_tup rfl (pgs_cons (pg_name (i := 2) sc__law_d_objectors.nd rfl (Or.inl rfl)) (pgs_cons (pg_name (i := 3) sc__law_d_objectors.nd rfl (Or.inl rfl)) pgs_nil)))) (fun _ _ _ _ _ => (dts_one (dt_eq (hu64 hr) (de_v 3 (pv 3)) (de_v 1 (pv 1))))) (fun _ _ _ _ _ => (de_v 2 (pv 2))))))), fun ds n h => ?_⟩
    obtain ⟨ps, x, hl, rfl⟩ := h
    simp only [sRet, dCB, dCons, dNil, startD]
    refine lct2 ps (fun p => .str p.1) (fun p => .str p.2) (fun p => decide (p.2 = x)) (fun p => .str p.1) (fun K h => ⟨_, rfl, _, rfl, h⟩) (by simp) (by simp) (by rw [szL]; omega) rfl (fun p hp K hK => ?_) (fun p hp hq K hK => by simp; exact hK) ?_
    · simp [-Bool.exists_bool, eqv_str]; exact hK
    · have e : (ps.filter fun p => decide (p.2 = x)).map (fun p => PyData.str p.1) = sts ((ps.filter fun p => decide (p.2 = x)).map (·.1)) := by simp [sts]
      rw [e]
      have := List.length_filter_le (fun p : Str × Str => decide (p.2 = x)) ps
      exact kSort_sts (by rw [List.length_map, szL]; omega) ⟨rfl, by simp [lobjs], rfl⟩
theorem sc__law_d_objected : FnScope ["_law_pairs", "_law_name", "_law_one", "_law_other"] ["_law_pairs", "_law_name"] (defScope (topS 61)) := ⟨rfl, rfl, rfl, by decide +kernel, rfl, by decide +kernel, by decide +kernel⟩
theorem ok_d_objected (D : DefAt K mg "_law_d_objected" (topS 61)) (B : Bn mg) : OkD P w K mg base c "_law_d_objected" ["_law_pairs", "_law_name"] 1 pre_px (pv1 f_d_objected) := by
  refine ok_def D (fun _ _ _ _ _ _ us hl => match us, hl with | [_, _], _ => rfl) sc__law_d_objected (fun ds n h => ?_) (fun f cdv A outer s H E hr => ?_)
  · obtain ⟨a, b, _, rfl⟩ := h; rfl
  · refine ⟨_, (dss_one (ds_ret (de_sorted (hu64 hr) rfl B.sorted (de_lc (own := [("_law_one", 2), ("_law_other", 3)]) (.two 2 3) rfl sc__law_d_objected.nd (di_lst (de_v 0 (pv 0))) (blkOk_by (N := ["_law_pairs", "_law_name", "_law_one", "_law_other"]) (sc := defScope (topS 61)) (own := [("_law_one", 2), ("_law_other", 3)]) (by decide +kernel)) (fun _ _ _ _ _ => (pg_tup rfl (pgs_cons (pg_name (i := 2) sc__law_d_objected.nd rfl (Or.inl rfl)) (pgs_cons (pg_name (i := 3) sc__law_d_objected.nd rfl (Or.inl rfl)) pgs_nil)))) (fun _ _ _ _ _ => (dts_one (dt_eq (hu64 hr) (de_v 2 (pv 2)) (de_v 1 (pv 1))))) (fun _ _ _ _ _ => (de_v 3 (pv 3))))))), fun ds n h => ?_⟩
    obtain ⟨ps, x, hl, rfl⟩ := h
    simp only [sRet, dCB, dCons, dNil, startD]
    refine lct2 ps (fun p => .str p.1) (fun p => .str p.2) (fun p => decide (p.1 = x)) (fun p => .str p.2) (fun K h => ⟨_, rfl, _, rfl, h⟩) (by simp) (by simp) (by rw [szL]; omega) rfl (fun p hp K hK => ?_) (fun p hp hq K hK => by simp; exact hK) ?_
    · simp [-Bool.exists_bool, eqv_str]; exact hK
    · have e : (ps.filter fun p => decide (p.1 = x)).map (fun p => PyData.str p.2) = sts ((ps.filter fun p => decide (p.1 = x)).map (·.2)) := by simp [sts]
      rw [e]
      have := List.length_filter_le (fun p : Str × Str => decide (p.1 = x)) ps
      exact kSort_sts (by rw [List.length_map, szL]; omega) ⟨rfl, by simp [lobjd], rfl⟩
def pre_plx (ds : List DV) (_ : Nat) : Prop := ∃ (ps : List (Str × Str)) (lot : List Str) (x : Str), ps.length ≤ 4096 ∧ ds = [.py (.list (ps.map pairD)), .py (.list (sts lot)), .py (.str x)]
@[simp] def f_d_hits : List DV → DV
  | [.py (.list p), .py (.list l), .py (.str x)] => .py (.bool (lhits (unP p) (unS l) x))
  | _ => .py .none
@[simp] def f_d_answers : List DV → DV
  | [.py (.list p), .py (.list l), .py (.str x)] => .py (.bool (lans (unP p) (unS l) x))
  | _ => .py .none
theorem sc__law_d_hits : FnScope ["_law_pairs", "_law_lot", "_law_name", "_law_one"] ["_law_pairs", "_law_lot", "_law_name"] (defScope (topS 62)) := ⟨rfl, rfl, rfl, by decide +kernel, rfl, by decide +kernel, by decide +kernel⟩
theorem ok_d_hits (D : DefAt K mg "_law_d_hits" (topS 62)) (B : Bn mg) (O_law_d_objectors : OkD P w K mg base c "_law_d_objectors" ["_law_pairs", "_law_name"] 1 pre_px (pv1 f_d_objectors)) :
    OkD P w K mg base c "_law_d_hits" ["_law_pairs", "_law_lot", "_law_name"] 2 pre_plx (pv1 f_d_hits) := by
  refine ok_def D (fun _ _ _ _ _ _ us hl => match us, hl with | [_, _, _], _ => rfl) sc__law_d_hits (fun ds n h => ?_) (fun f cdv A outer s H E hr => ?_)
  · obtain ⟨a, b, x, _, rfl⟩ := h; rfl
  · refine ⟨_, (dss_one (ds_ret (de_any rfl rfl B.any (de_lc (own := [("_law_one", 3)]) (.one 3) rfl sc__law_d_hits.nd (di_lst (de_ok O_law_d_objectors hr (by decide) rfl (da_cons (de_v 0 (pv 0)) (da_cons (de_v 2 (pv 2)) da_nil)))) (blkOk_by (N := ["_law_pairs", "_law_lot", "_law_name", "_law_one"]) (sc := defScope (topS 62)) (own := [("_law_one", 3)]) (by decide +kernel)) (fun _ _ _ _ _ => (pg_name (i := 3) sc__law_d_hits.nd rfl (Or.inl rfl))) (fun _ _ _ _ _ => dts_nil) (fun _ _ _ _ _ => (de_in (hu65 hr) (de_v 3 (pv 3)) (de_v 1 (pv 1)))))))), fun ds n h => ?_⟩
    obtain ⟨ps, lot, x, hl, rfl⟩ := h
    simp only [sRet, dCB, dCons, dNil, startD]
    have := len_lobjs ps x
    refine lcta (lobjs ps x) PyData.str (fun y => .bool (decide (y ∈ lot))) (fun K h => ?_) (by simp) (by rw [szL]; omega) rfl (fun y hy K hK => by simp [-Bool.exists_bool]; exact hK) ?_
    · simp [pv1]; exact ⟨⟨ps, x, hl, rfl⟩, h⟩
    · refine ⟨(lobjs ps x).map _, by rw [mapB], rfl, ?_, rfl⟩
      simp [lhits]
      rfl
theorem sc__law_d_answers : FnScope ["_law_pairs", "_law_lot", "_law_name", "_law_one"] ["_law_pairs", "_law_lot", "_law_name"] (defScope (topS 63)) := ⟨rfl, rfl, rfl, by decide +kernel, rfl, by decide +kernel, by decide +kernel⟩
theorem ok_d_answers (D : DefAt K mg "_law_d_answers" (topS 63)) (B : Bn mg) (O_law_d_objectors : OkD P w K mg base c "_law_d_objectors" ["_law_pairs", "_law_name"] 1 pre_px (pv1 f_d_objectors)) (O_law_d_hits : OkD P w K mg base c "_law_d_hits" ["_law_pairs", "_law_lot", "_law_name"] 2 pre_plx (pv1 f_d_hits)) :
    OkD P w K mg base c "_law_d_answers" ["_law_pairs", "_law_lot", "_law_name"] 3 pre_plx (pv1 f_d_answers) := by
  refine ok_def D (fun _ _ _ _ _ _ us hl => match us, hl with | [_, _, _], _ => rfl) sc__law_d_answers (fun ds n h => ?_) (fun f cdv A outer s H E hr => ?_)
  · obtain ⟨a, b, x, _, rfl⟩ := h; rfl
  · refine ⟨_, (dss_one (ds_ret (de_all rfl rfl B.all (de_lc (own := [("_law_one", 3)]) (.one 3) rfl sc__law_d_answers.nd (di_lst (de_ok O_law_d_objectors hr (by decide) rfl (da_cons (de_v 0 (pv 0)) (da_cons (de_v 2 (pv 2)) da_nil)))) (blkOk_by (N := ["_law_pairs", "_law_lot", "_law_name", "_law_one"]) (sc := defScope (topS 63)) (own := [("_law_one", 3)]) (by decide +kernel)) (fun _ _ _ _ _ => (pg_name (i := 3) sc__law_d_answers.nd rfl (Or.inl rfl))) (fun _ _ _ _ _ => dts_nil) (fun _ _ _ _ _ => (de_ok O_law_d_hits hr (by decide) rfl (da_cons (de_v 0 (pv 0)) (da_cons (de_v 1 (pv 1)) (da_cons (de_v 3 (pv 3)) da_nil))))))))), fun ds n h => ?_⟩
    obtain ⟨ps, lot, x, hl, rfl⟩ := h
    simp only [sRet, dCB, dCons, dNil, startD]
    have := len_lobjs ps x
    refine lcta (lobjs ps x) PyData.str (fun y => .bool (lhits ps lot y)) (fun K h => ?_) (by simp) (by rw [szL]; omega) rfl (fun y hy K hK => ?_) ?_
    · simp [pv1]; exact ⟨⟨ps, x, hl, rfl⟩, h⟩
    · simp [pv1]; exact ⟨⟨ps, lot, y, hl, rfl⟩, hK⟩
    · refine ⟨(lobjs ps x).map _, by rw [mapB], rfl, ?_, rfl⟩
      simp [lans]
      rfl
def pre_pl (ds : List DV) (_ : Nat) : Prop := ∃ (ps : List (Str × Str)) (lot : List Str), ps.length ≤ 4096 ∧ lot.length ≤ 64 ∧ ds = [.py (.list (ps.map pairD)), .py (.list (sts lot))]
@[simp] def f_d_is_calm : List DV → DV
  | [.py (.list p), .py (.list l)] => .py (.bool (lcalm (unP p) (unS l)))
  | _ => .py .none
@[simp] def f_d_is_held : List DV → DV
  | [.py (.list p), .py (.list l)] => .py (.bool (lheld (unP p) (unS l)))
  | _ => .py .none
theorem sc__law_d_is_calm : FnScope ["_law_pairs", "_law_lot", "_law_one", "_law_other"] ["_law_pairs", "_law_lot"] (defScope (topS 65)) := ⟨rfl, rfl, rfl, by decide +kernel, rfl, by decide +kernel, by decide +kernel⟩
theorem ok_d_is_calm (D : DefAt K mg "_law_d_is_calm" (topS 65)) (B : Bn mg) : OkD P w K mg base c "_law_d_is_calm" ["_law_pairs", "_law_lot"] 1 pre_pl (pv1 f_d_is_calm) := by
  refine ok_def D (fun _ _ _ _ _ _ us hl => match us, hl with | [_, _], _ => rfl) sc__law_d_is_calm (fun ds n h => ?_) (fun f cdv A outer s H E hr => ?_)
  · obtain ⟨a, b, _, _, rfl⟩ := h; rfl
  · refine ⟨_, (dss_one (ds_ret (de_not (de_any rfl rfl B.any (de_lc (own := [("_law_one", 2), ("_law_other", 3)]) (.two 2 3) rfl sc__law_d_is_calm.nd (di_lst (de_v 0 (pv 0))) (blkOk_by (N := ["_law_pairs", "_law_lot", "_law_one", "_law_other"]) (sc := defScope (topS 65)) (own := [("_law_one", 2), ("_law_other", 3)]) (by decide +kernel)) (fun _ _ _ _ _ => (pg_tup rfl (pgs_cons (pg_name (i := 2) sc__law_d_is_calm.nd rfl (Or.inl rfl)) (pgs_cons (pg_name (i := 3) sc__law_d_is_calm.nd rfl (Or.inl rfl)) pgs_nil)))) (fun _ _ _ _ _ => dts_nil) (fun _ _ _ _ _ => (de_and (de_in (hu65 hr) (de_v 2 (pv 2)) (de_v 1 (pv 1))) (de_one (de_in (hu65 hr) (de_v 3 (pv 3)) (de_v 1 (pv 1))))))))))), fun ds n h => ?_⟩
    obtain ⟨ps, lot, hl, _, rfl⟩ := h
    simp only [sRet, dCB, dCons, dNil, startD, dNotV]
    refine lct2a ps (fun p => .str p.1) (fun p => .str p.2) (fun p => .bool (decide (p.1 ∈ lot) && decide (p.2 ∈ lot))) (fun K h => ⟨_, rfl, _, rfl, h⟩) (by simp) (by simp) (by rw [szL]; omega) rfl (fun p hp K hK => ?_) ?_
    · simp [-Bool.exists_bool]
      by_cases e : p.1 ∈ lot <;> simp [e] at hK ⊢ <;> exact hK
    · refine ⟨ps.map _, by rw [mapB], _, rfl, rfl, ?_, rfl⟩
      simp [lcalm]
      rfl
theorem sc__law_d_is_held : FnScope ["_law_pairs", "_law_lot", "_law_name"] ["_law_pairs", "_law_lot"] (defScope (topS 66)) := ⟨rfl, rfl, rfl, by decide +kernel, rfl, by decide +kernel, by decide +kernel⟩
theorem ok_d_is_held (D : DefAt K mg "_law_d_is_held" (topS 66)) (B : Bn mg) (O_law_d_is_calm : OkD P w K mg base c "_law_d_is_calm" ["_law_pairs", "_law_lot"] 1 pre_pl (pv1 f_d_is_calm)) (O_law_d_answers : OkD P w K mg base c "_law_d_answers" ["_law_pairs", "_law_lot", "_law_name"] 3 pre_plx (pv1 f_d_answers)) :
    OkD P w K mg base c "_law_d_is_held" ["_law_pairs", "_law_lot"] 4 pre_pl (pv1 f_d_is_held) := by
  refine ok_def D (fun _ _ _ _ _ _ us hl => match us, hl with | [_, _], _ => rfl) sc__law_d_is_held (fun ds n h => ?_) (fun f cdv A outer s H E hr => ?_)
  · obtain ⟨a, b, _, _, rfl⟩ := h; rfl
  · refine ⟨_, (dss_one (ds_ret (de_and (de_ok O_law_d_is_calm hr (by decide) rfl (da_cons (de_v 0 (pv 0)) (da_cons (de_v 1 (pv 1)) da_nil))) (de_one (de_all rfl rfl B.all (de_lc (own := [("_law_name", 2)]) (.one 2) rfl sc__law_d_is_held.nd (di_lst (de_v 1 (pv 1))) (blkOk_by (N := ["_law_pairs", "_law_lot", "_law_name"]) (sc := defScope (topS 66)) (own := [("_law_name", 2)]) (by decide +kernel)) (fun _ _ _ _ _ => (pg_name (i := 2) sc__law_d_is_held.nd rfl (Or.inl rfl))) (fun _ _ _ _ _ => dts_nil) (fun _ _ _ _ _ => (de_ok O_law_d_answers hr (by decide) rfl (da_cons (de_v 0 (pv 0)) (da_cons (de_v 1 (pv 1)) (da_cons (de_v 2 (pv 2)) da_nil))))))))))), fun ds n h => ?_⟩
    obtain ⟨ps, lot, hl, h2, rfl⟩ := h
    simp [startD, pv1, -Bool.exists_bool]
    refine ⟨⟨ps, lot, hl, h2, rfl⟩, ?_⟩
    cases hc : lcalm ps lot with
    | false => simp [lheld, hc]
    | true =>
      simp [-Bool.exists_bool]
      refine lcta lot PyData.str (fun y => .bool (lans ps lot y)) (fun K h => by simp; exact h) (by simp) (by rw [szL]; omega) rfl (fun y hy K hK => ?_) ?_
      · simp [pv1]; exact ⟨⟨ps, lot, y, hl, rfl⟩, hK⟩
      · refine ⟨lot.map _, by rw [mapB], ?_⟩
        simp [lheld, hc]
        rfl
theorem sc__law_d_within : FnScope ["_law_lot", "_law_other", "_law_name"] ["_law_lot", "_law_other"] (defScope (topS 69)) := ⟨rfl, rfl, rfl, by decide +kernel, rfl, by decide +kernel, by decide +kernel⟩
theorem ok_d_within (D : DefAt K mg "_law_d_within" (topS 69)) (B : Bn mg) : OkD P w K mg base c "_law_d_within" ["_law_lot", "_law_other"] 1 pre_within (pv1 f_is_within) := by
  refine ok_def D (fun _ _ _ _ _ _ us hl => match us, hl with | [_, _], _ => rfl) sc__law_d_within (fun ds n h => ?_) (fun f cdv A outer s H E hr => ?_)
  · obtain ⟨a, b, _, rfl⟩ := h; rfl
  · refine ⟨_, (dss_one (ds_ret (de_all rfl rfl B.all (de_lc (own := [("_law_name", 2)]) (.one 2) rfl sc__law_d_within.nd (di_lst (de_v 0 (pv 0))) (blkOk_by (N := ["_law_lot", "_law_other", "_law_name"]) (sc := defScope (topS 69)) (own := [("_law_name", 2)]) (by decide +kernel)) (fun _ _ _ _ _ => (pg_name (i := 2) sc__law_d_within.nd rfl (Or.inl rfl))) (fun _ _ _ _ _ => dts_nil) (fun _ _ _ _ _ => (de_in (hu65 hr) (de_v 2 (pv 2)) (de_v 1 (pv 1)))))))), fun ds n h => ?_⟩
    obtain ⟨a, b, hl, rfl⟩ := h
    simp only [sRet, dCB, dCons, dNil]
    refine lcta a PyData.str (fun x => .bool (decide (x ∈ b))) (fun K h => ⟨_, rfl, _, rfl, h⟩) (by simp) hl rfl (fun x hx P hP => ?_) ?_
    · simp [startD]; exact hP
    · exact ⟨a.map _, by rw [mapB], rfl, by simp [withinS]; rfl, rfl⟩
end
end K21

set_option Elab.async false
set_option linter.all false
set_option maxRecDepth 100000
set_option maxHeartbeats 4000000
/-! K21V: subsets, the law's lots and labels. -/
namespace K21
open PySem PySem.Spec PyProof.Rows L2
theorem subsL_snoc (ns : List Str) (s : Str) : subsL (ns ++ [s]) = growS (subsL ns) s := by simp [subsL]
theorem subsL_sub : ∀ (k : Nat) (ns : List Str), ns.length = k → (∀ l ∈ subsL ns, l.Sublist ns) ∧ (subsL ns).length ≤ 2 ^ k
  | 0, ns, h => by
    have : ns = [] := List.length_eq_zero_iff.mp h
    subst this
    simp [subsL]
  | k + 1, ns, h => by
    obtain ⟨xs, x, rfl⟩ : ∃ xs x, ns = xs ++ [x] := ⟨ns.dropLast, ns.getLast (by intro z; rw [z] at h; cases h), (List.dropLast_concat_getLast _).symm⟩
    have ih := subsL_sub k xs (by simpa using h)
    rw [subsL_snoc]
    refine ⟨fun l hl => ?_, ?_⟩
    · rcases List.mem_append.mp hl with z | z
      · exact (ih.1 l z).trans (List.sublist_append_left _ _)
      · obtain ⟨l', h1, rfl⟩ := List.mem_map.mp z
        exact (ih.1 l' h1).append (List.Sublist.refl _)
    · rw [growS, List.length_append, List.length_map, Nat.pow_succ]
      have := ih.2
      omega
theorem subsets_small {ns : List Str} (h : ns.length ≤ 7) : (subsets ns).length ≤ 128 ∧ ∀ l ∈ subsets ns, l.Sublist (sortS ns) := by
  obtain ⟨h1, h2⟩ := subsL_sub _ (sortS ns) rfl
  have h3 : 2 ^ (sortS ns).length ≤ 2 ^ 7 := Nat.pow_le_pow_right (by omega) (by rw [len_sortS]; exact h)
  have p : (subsets ns).Perm (subsL (sortS ns)) := sort_pm lotD _
  exact ⟨by rw [p.length_eq]; omega, fun l hl => h1 l (p.mem_iff.mp hl)⟩
def allC (ns : List Str) (ps : List (Str × Str)) : List (List Str) := (subsets ns).filter (lcalm ps)
def lSettled (ns : List Str) (ps : List (Str × Str)) : List (List Str) := (allC ns ps).filter fun l => ns.all fun x => decide (x ∈ l) || lhits ps l x
def lHeld (ns : List Str) (ps : List (Str × Str)) : List (List Str) := (allC ns ps).filter (lheld ps)
def lGreat (ns : List Str) (ps : List (Str × Str)) : List (List Str) := (lHeld ns ps).filter fun l => !((lHeld ns ps).any fun o => withinS l o && !decide (l = o))
def llab (ps : List (Str × Str)) (lot : List Str) (s : Str) : Str := if s ∈ lot then "in" else if lhits ps lot s then "out" else "undecided"
section
variable {P : Program} {w : World} {K : PySem.W.Frag} {mg : Str → Option Value} {base : Heap} {c : Cst}
theorem sc__law_d_subsets : FnScope ["_law_names", "_law_found", "_law_name", "_law_lot"] ["_law_names"] (defScope (topS 67)) := ⟨rfl, rfl, rfl, by decide +kernel, rfl, by decide +kernel, by decide +kernel⟩
def pre_ns (ds : List DV) (_ : Nat) : Prop := ∃ (ns : List Str), ns.length ≤ 7 ∧ ds = [.py (.list (sts ns))]
@[simp] def f_d_subsets : List DV → DV
  | [.py (.list n)] => .py (.list (lotsD (subsets (unS n))))
  | _ => .py .none
theorem ok_d_subsets (D : DefAt K mg "_law_d_subsets" (topS 67)) (B : Bn mg) : OkD P w K mg base c "_law_d_subsets" ["_law_names"] 1 pre_ns (pv1 f_d_subsets) := by
  refine ok_def D (fun _ _ _ _ _ _ us hl => match us, hl with | [_], _ => rfl) sc__law_d_subsets (fun ds n h => ?_) (fun f cdv A outer s H E hr => ?_)
  · obtain ⟨a, _, rfl⟩ := h; rfl
  · refine ⟨_, (dss_cons (ds_newL (i := 1) sc__law_d_subsets.nd rfl (Or.inl rfl) (da_cons (de_lst da_nil) da_nil)) (dss_cons (ds_for (.one 2) PassesOwn.never rfl (di_lst (de_sorted (hu64 hr) rfl B.sorted (de_v 0 (pv 0)))) (pg_name (i := 2) sc__law_d_subsets.nd rfl (Or.inr rfl)) (dss_one (ds_expr (de_extend 1 (pv 1) (de_lcM 1 (own := [("_law_lot", 3)]) (.one 3) rfl sc__law_d_subsets.nd (pv 1) (blkOk_by (N := ["_law_names", "_law_found", "_law_name", "_law_lot"]) (sc := defScope (topS 67)) (own := [("_law_lot", 3)]) (by decide +kernel)) (fun _ _ _ _ _ => (pg_name (i := 3) sc__law_d_subsets.nd rfl (Or.inl rfl))) (fun _ _ _ _ _ => dts_nil) (fun _ _ _ _ _ => (de_cat (de_v 3 (pv 3)) (de_lst (da_cons (de_v 2 (pv 2)) da_nil))))))))) (dss_one (ds_ret (de_sorted (hu64 hr) rfl B.sorted (de_frz 1 (pv 1))))))), fun ds n h => ?_⟩
    obtain ⟨ns, hl, rfl⟩ := h
    simp [startD, pv1, -Bool.exists_bool, -kSort]
    refine ⟨by rw [szL]; omega, ?_⟩
    have small : ∀ k, (subsL ((sortS ns).take k)).length ≤ 128 ∧ ∀ l ∈ subsL ((sortS ns).take k), l.Sublist (sortS ns) := fun k => by
      obtain ⟨h1, h2⟩ := subsL_sub _ ((sortS ns).take k) rfl
      have h3 : 2 ^ ((sortS ns).take k).length ≤ 2 ^ 7 := Nat.pow_le_pow_right (by omega) (by rw [List.length_take, len_sortS]; omega)
      exact ⟨by omega, fun l hx => (h1 l hx).trans (List.take_sublist _ _)⟩
    refine for_t (sortS ns) PyData.str (fun k r n' => (∃ a, r = [some (.dat (.py (.list (sts ns)))), some (.mu (.lst (lotsD (subsL ((sortS ns).take k))))), a, none]) ∧ n' = n) (fun K h => by
      simp [-kSort]
      exact kSort_sts (by rw [szL]; omega) ⟨_, rfl, h⟩) ⟨⟨_, rfl⟩, rfl⟩ (fun k x r n' hx ⟨⟨a, e⟩, en⟩ => ?_) (fun r n' ⟨⟨a, e⟩, en⟩ => ?_)
    · subst e en
      obtain ⟨s1, s2⟩ := small k
      simp
      refine lctM (subsL ((sortS ns).take k)) lotD (fun _ => true) (fun l => lotD (l ++ [x])) rfl (by simp) (by rw [szL]; omega) rfl (fun l hm K hK => hK) (fun l hm hq K hK => ?_) ?_
      · have := (s2 l hm).length_le
        rw [len_sortS] at this
        simp [lotD]
        refine ⟨by rw [szL]; omega, by rw [szL]; omega, ?_⟩
        simpa [lotD] using hK
      · have ft : ∀ xs : List (List Str), xs.filter (fun _ => true) = xs := fun xs => List.filter_eq_self.mpr fun _ _ => rfl
        rw [ft]
        simp
        refine ⟨?_, ?_⟩
        · simp only [lotsD, List.length_map]
          rw [szL]; omega
        · rw [take_succ_get hx, subsL_snoc]
          simp [growS, lotsD, lotD, Function.comp_def]
    · subst e en
      obtain ⟨s1, s2⟩ := small (sortS ns).length
      rw [List.take_length] at s1
      simp [List.take_length, -kSort]
      exact kSort_lots (by rw [szL]; omega) ⟨rfl, rfl, rfl⟩
theorem sc__law_d_lots : FnScope ["_law_names", "_law_pairs", "_law_way", "_law_lots", "_law_whole", "_law_lot", "_law_other", "_law_name"] ["_law_names", "_law_pairs", "_law_way"] (defScope (topS 68)) := ⟨rfl, rfl, rfl, by decide +kernel, rfl, by decide +kernel, by decide +kernel⟩
def pre_lots (ds : List DV) (_ : Nat) : Prop := ∃ (ns : List Str) (ps : List (Str × Str)) (w : Str), ns.length ≤ 7 ∧ ps.length ≤ 4096 ∧ (w = "settled" ∨ w = "greatest") ∧ ds = [.py (.list (sts ns)), .py (.list (ps.map pairD)), .py (.str w)]
@[simp] def f_d_lots : List DV → DV
  | [.py (.list n), .py (.list p), .py (.str w)] => .py (.list (lotsD (if w = "settled" then lSettled (unS n) (unP p) else lGreat (unS n) (unP p))))
  | _ => .py .none
theorem ok_d_lots (D : DefAt K mg "_law_d_lots" (topS 68)) (B : Bn mg) (O_law_d_subsets : OkD P w K mg base c "_law_d_subsets" ["_law_names"] 1 pre_ns (pv1 f_d_subsets)) (O_law_d_is_calm : OkD P w K mg base c "_law_d_is_calm" ["_law_pairs", "_law_lot"] 1 pre_pl (pv1 f_d_is_calm))
    (O_law_d_is_held : OkD P w K mg base c "_law_d_is_held" ["_law_pairs", "_law_lot"] 4 pre_pl (pv1 f_d_is_held)) (O_law_d_hits : OkD P w K mg base c "_law_d_hits" ["_law_pairs", "_law_lot", "_law_name"] 2 pre_plx (pv1 f_d_hits)) (O_law_d_within : OkD P w K mg base c "_law_d_within" ["_law_lot", "_law_other"] 1 pre_within (pv1 f_is_within)) :
    OkD P w K mg base c "_law_d_lots" ["_law_names", "_law_pairs", "_law_way"] 5 pre_lots (pv1 f_d_lots) := by
  refine ok_def D (fun _ _ _ _ _ _ us hl => match us, hl with | [_, _, _], _ => rfl) sc__law_d_lots (fun ds n h => ?_) (fun f cdv A outer s H E hr => ?_)
  · obtain ⟨a, b, x, _, _, _, rfl⟩ := h; rfl
  · refine ⟨_, (dss_cons (ds_set (i := 3) sc__law_d_lots.nd rfl (Or.inr rfl) (de_lc (own := [("_law_lot", 5)]) (.one 5) rfl sc__law_d_lots.nd (di_lst (de_ok O_law_d_subsets hr (by decide) rfl (da_cons (de_v 0 (pv 0)) da_nil))) (blkOk_by (N := ["_law_names", "_law_pairs", "_law_way", "_law_lots", "_law_whole", "_law_lot", "_law_other", "_law_name"]) (sc := defScope (topS 68)) (own := [("_law_lot", 5)]) (by decide +kernel)) (fun _ _ _ _ _ => (pg_name (i := 5) sc__law_d_lots.nd rfl (Or.inl rfl))) (fun _ _ _ _ _ => (dts_one (dt_val (de_ok O_law_d_is_calm hr (by decide) rfl (da_cons (de_v 1 (pv 1)) (da_cons (de_v 5 (pv 5)) da_nil)))))) (fun _ _ _ _ _ => (de_v 5 (pv 5))))) (dss_cons (ds_if (dt_eq (hu64 hr) (de_v 2 (pv 2)) de_str) dss_never dss_nil) (dss_cons (ds_if (dt_eq (hu64 hr) (de_v 2 (pv 2)) de_str) (dss_one (ds_ret (de_lc (own := [("_law_lot", 5)]) (.one 5) rfl sc__law_d_lots.nd (di_lst (de_v 3 (pv 3))) (blkOk_by (N := ["_law_names", "_law_pairs", "_law_way", "_law_lots", "_law_whole", "_law_lot", "_law_other", "_law_name"]) (sc := defScope (topS 68)) (own := [("_law_lot", 5)]) (by decide +kernel)) (fun _ _ _ _ _ => (pg_name (i := 5) sc__law_d_lots.nd rfl (Or.inr rfl))) (fun _ _ _ _ _ => (dts_one (dt_val (de_all rfl rfl B.all (de_lc (own := [("_law_name", 7)]) (.one 7) rfl sc__law_d_lots.nd (di_lst (de_v 0 (pv 0))) (blkOk_by (N := ["_law_names", "_law_pairs", "_law_way", "_law_lots", "_law_whole", "_law_lot", "_law_other", "_law_name"]) (sc := (relS _ (defScope (topS 68)))) (own := [("_law_name", 7)]) (by decide +kernel)) (fun _ _ _ _ _ => (pg_name (i := 7) sc__law_d_lots.nd rfl (Or.inl rfl))) (fun _ _ _ _ _ => dts_nil) (fun _ _ _ _ _ => (de_or (de_in (hu65 hr) (de_v 7 (pv 7)) (de_v 5 (pv 5))) (de_one (de_ok O_law_d_hits hr (by decide) rfl (da_cons (de_v 1 (pv 1)) (da_cons (de_v 5 (pv 5)) (da_cons (de_v 7 (pv 7)) da_nil)))))))))))) (fun _ _ _ _ _ => (de_v 5 (pv 5)))))) dss_nil) (dss_cons (ds_set (i := 3) sc__law_d_lots.nd rfl (Or.inr rfl) (de_lc (own := [("_law_lot", 5)]) (.one 5) rfl sc__law_d_lots.nd (di_lst (de_v 3 (pv 3))) (blkOk_by (N := ["_law_names", "_law_pairs", "_law_way", "_law_lots", "_law_whole", "_law_lot", "_law_other", "_law_name"]) (sc := defScope (topS 68)) (own := [("_law_lot", 5)]) (by decide +kernel)) (fun _ _ _ _ _ => (pg_name (i := 5) sc__law_d_lots.nd rfl (Or.inl rfl))) (fun _ _ _ _ _ => (dts_one (dt_val (de_ok O_law_d_is_held hr (by decide) rfl (da_cons (de_v 1 (pv 1)) (da_cons (de_v 5 (pv 5)) da_nil)))))) (fun _ _ _ _ _ => (de_v 5 (pv 5))))) (dss_cons (ds_if (dt_eq (hu64 hr) (de_v 2 (pv 2)) de_str) dss_never dss_nil) (dss_cons (ds_if (dt_eq (hu64 hr) (de_v 2 (pv 2)) de_str) (dss_one (ds_ret (de_lc (own := [("_law_lot", 5)]) (.one 5) rfl sc__law_d_lots.nd (di_lst (de_v 3 (pv 3))) (blkOk_by (N := ["_law_names", "_law_pairs", "_law_way", "_law_lots", "_law_whole", "_law_lot", "_law_other", "_law_name"]) (sc := defScope (topS 68)) (own := [("_law_lot", 5)]) (by decide +kernel)) (fun _ _ _ _ _ => (pg_name (i := 5) sc__law_d_lots.nd rfl (Or.inr rfl))) (fun _ _ _ _ _ => (dts_one (dt_not (dt_val (de_any rfl rfl B.any (de_lc (own := [("_law_other", 6)]) (.one 6) rfl sc__law_d_lots.nd (di_lst (de_v 3 (pv 3))) (blkOk_by (N := ["_law_names", "_law_pairs", "_law_way", "_law_lots", "_law_whole", "_law_lot", "_law_other", "_law_name"]) (sc := (relS _ (defScope (topS 68)))) (own := [("_law_other", 6)]) (by decide +kernel)) (fun _ _ _ _ _ => (pg_name (i := 6) sc__law_d_lots.nd rfl (Or.inl rfl))) (fun _ _ _ _ _ => dts_nil) (fun _ _ _ _ _ => (de_and (de_ok O_law_d_within hr (by decide) rfl (da_cons (de_v 5 (pv 5)) (da_cons (de_v 6 (pv 6)) da_nil))) (de_one (de_ne (hu64 hr) (de_v 5 (pv 5)) (de_v 6 (pv 6)))))))))))) (fun _ _ _ _ _ => (de_v 5 (pv 5)))))) dss_nil) dss_never)))))), fun ds n h => ?_⟩
    obtain ⟨ns, ps, w, hl, hp, hw, rfl⟩ := h
    obtain ⟨k1, k2⟩ := subsets_small hl
    simp [startD, -Bool.exists_bool]
    have la : (allC ns ps).length ≤ 128 := Nat.le_trans (List.length_filter_le _ _) k1
    have lh : (lHeld ns ps).length ≤ 128 := Nat.le_trans (List.length_filter_le _ _) la
    have short : ∀ l ∈ subsets ns, l.length ≤ 64 := fun l hm => by
      have := (k2 l hm).length_le
      rw [len_sortS] at this
      omega
    have sA : ∀ l ∈ allC ns ps, l.length ≤ 64 := fun l hm => short l (List.mem_filter.mp hm).1
    have sH : ∀ l ∈ lHeld ns ps, l.length ≤ 64 := fun l hm => sA l (List.mem_filter.mp hm).1
    refine lct (subsets ns) lotD (lcalm ps) lotD (fun K h => by simp [pv1]; exact ⟨⟨ns, hl, rfl⟩, h⟩) (by simp) (by rw [szL]; omega) rfl (fun l hm K hK => ?_) (fun x hx _ K hK => by simp; exact hK) ?_
    · simp [lotD, pv1, -Bool.exists_bool]
      exact ⟨⟨ps, l, hp, short l hm, rfl⟩, hK⟩
    · have e0 : ((subsets ns).filter (lcalm ps)).map lotD = lotsD (allC ns ps) := rfl
      rw [e0]
      simp [-Bool.exists_bool]
      rcases hw with rfl | rfl
      · rw [eqv_sD "settled" "calm" (by decide), eqv_str]
        simp [-Bool.exists_bool]
        refine lct (allC ns ps) lotD (fun l => ns.all fun x => decide (x ∈ l) || lhits ps l x) lotD (fun K h => by simp; exact h) (by simp) (by rw [szL]; omega) rfl (fun l hm K hK => ?_) (fun x hx _ K hK => by simp; exact hK) ?_
        · simp [-Bool.exists_bool]
          refine lcta ns PyData.str (fun x => .bool (decide (x ∈ l) || lhits ps l x)) (fun K h => by simp; exact h) (by simp) (by rw [szL]; omega) rfl (fun x hx K hK => ?_) ?_
          · simp [lotD, pv1, -Bool.exists_bool]
            by_cases e : x ∈ l
            · simp [e] at hK ⊢; exact hK
            · simp [e] at hK ⊢; exact ⟨⟨ps, l, x, hp, rfl⟩, hK⟩
          · refine ⟨ns.map _, by rw [mapB], ?_⟩
            rw [all_dec]
            exact hK
        · exact ⟨rfl, by simp [lSettled, lotsD, lotD], rfl⟩
      · rw [eqv_sD "greatest" "calm" (by decide), eqv_sD "greatest" "settled" (by decide)]
        simp [-Bool.exists_bool]
        refine lct (allC ns ps) lotD (lheld ps) lotD (fun K h => by simp; exact h) (by simp) (by rw [szL]; omega) rfl (fun l hm K hK => ?_) (fun x hx _ K hK => by simp; exact hK) ?_
        · simp [lotD, pv1, -Bool.exists_bool]
          exact ⟨⟨ps, l, hp, sA l hm, rfl⟩, hK⟩
        · have e1 : ((allC ns ps).filter (lheld ps)).map lotD = lotsD (lHeld ns ps) := rfl
          rw [e1]
          simp [-Bool.exists_bool]
          refine lct (lHeld ns ps) lotD (fun l => !((lHeld ns ps).any fun o => withinS l o && !decide (l = o))) lotD (fun K h => by simp; exact h) (by simp) (by rw [szL]; omega) rfl (fun l hm K hK => ?_) (fun x hx _ K hK => by simp; exact hK) ?_
          · simp [-Bool.exists_bool]
            refine lcta (lHeld ns ps) lotD (fun o => .bool (withinS l o && !decide (l = o))) (fun K h => by simp; exact h) (by simp) (by rw [szL]; omega) rfl (fun o ho K hK => ?_) ?_
            · simp [lotD, pv1, -Bool.exists_bool]
              refine ⟨⟨l, o, by have := sH l hm; rw [szL]; omega, rfl⟩, ?_⟩
              cases e : withinS l o with
              | false => rw [e] at hK; simpa [lotD] using hK
              | true =>
                rw [e] at hK
                simp [eqv_list_sts]
                simpa [lotD] using hK
            · refine ⟨(lHeld ns ps).map _, by rw [mapB], ?_⟩
              rw [any_dec]
              exact hK
          · refine ⟨rfl, ?_, rfl⟩
            rw [f_d_lots, if_neg (by decide)]
            simp [lGreat, lotsD, lotD]
end
end K21

set_option Elab.async false
set_option linter.all false
set_option maxRecDepth 100000
set_option maxHeartbeats 8000000
/-! K21Y: len(set(xs)) of texts, any number of them below the line. -/
namespace K21
open PySem PySem.Spec PyProof.Rows L2
/-- how many different texts stand among the first i -/
def dcnt (xs : List Str) : Nat → Nat
  | 0 => 0
  | i + 1 => if (xs.take i).any (· == xs.getD i Str.empty) = true then dcnt xs i else dcnt xs i + 1
theorem dcnt_le (xs : List Str) : ∀ i, dcnt xs i ≤ i
  | 0 => Nat.le_refl _
  | i + 1 => by
    have := dcnt_le xs i
    have ed : dcnt xs (i + 1) = if (xs.take i).any (· == xs.getD i Str.empty) = true then dcnt xs i else dcnt xs i + 1 := rfl
    rw [ed]
    split <;> omega
theorem dcnt_nd {xs : List Str} : ∀ i, i ≤ xs.length → (dcnt xs i = i ↔ (xs.take i).Nodup)
  | 0, _ => by simp [dcnt]
  | i + 1, h => by
    have ih := dcnt_nd (xs := xs) i (by omega)
    have le := dcnt_le xs i
    have e : xs[i]? = some xs[i] := List.getElem?_eq_getElem (by omega)
    have e2 : xs.getD i Str.empty = xs[i] := by simp [List.getD, e]
    have nd : (xs.take (i + 1)).Nodup ↔ (xs.take i).Nodup ∧ xs[i] ∉ xs.take i := by
      rw [take_succ_get e, List.nodup_append]
      constructor
      · rintro ⟨h1, _, h3⟩
        exact ⟨h1, fun hm => h3 _ hm _ (by simp) rfl⟩
      · rintro ⟨h1, h2⟩
        refine ⟨h1, by simp, fun a ha b hb => ?_⟩
        rw [List.mem_singleton.mp hb]
        intro z
        exact h2 (z ▸ ha)
    rw [nd, ← ih]
    have ed : dcnt xs (i + 1) = if (xs.take i).any (· == xs.getD i Str.empty) = true then dcnt xs i else dcnt xs i + 1 := rfl
    rw [ed, e2]
    by_cases hm : xs[i] ∈ xs.take i
    · have : (xs.take i).any (· == xs[i]) = true := List.any_eq_true.mpr ⟨_, hm, by simp⟩
      rw [if_pos this]
      constructor
      · intro z; omega
      · intro z; exact absurd hm z.2
    · have : ¬ (xs.take i).any (· == xs[i]) = true := fun z => by
        obtain ⟨y, h1, h2⟩ := List.any_eq_true.mp z
        exact hm (by rw [← eq_of_beq h2]; exact h1)
      rw [if_neg this]
      constructor
      · intro z; exact ⟨by omega, hm⟩
      · intro z; omega
section
variable {P : Program} {w : World} {A : Around} {R : Result → Shared → Prop} {I : Addr} {fp wr : List Addr} {G : Array GenState → Array GenState → Prop} {n : Nat} {PV : Nat → Value → Prop} {Sg : Nat → Shared → Prop}
abbrev has (xs : List Str) (i : Nat) : Str → Bool := fun z => (xs.take i).any (· == z)
theorem loopD (W : WalksS P w A.in1 I fp wr G n PV Sg) (D : Addr) (apart : D ∉ fp) (xs : List Str) (len : xs.length = n) (few : n + 1 < scanBound) (val : ∀ i v, PV i v → ∃ t, v = .str (xs.getD i Str.empty) t) :
    ∀ (k i : Nat) (s : Shared), n - i = k → i ≤ n → Sg i s → s.heap.SetOf (PySem.strKind P w) D (has xs i) (dcnt xs i) →
      (∀ z, Moved (D :: wr) G s z → z.heap.SetOf (PySem.strKind P w) D (has xs n) (dcnt xs n) → R (.ok (.ret .none)) z) → codeAny (model P w) A (.builtin "set.update.loop" ⟨[.ref D, .ref I], []⟩) R s := by
  have notW : D ∉ wr := fun h => apart (W.sub _ h)
  have incl : ∀ b ∈ wr, b ∈ D :: wr := fun b hb => List.mem_cons_of_mem _ hb
  intro k
  induction k with
  | zero =>
    intro i s hk hi st hS fin
    obtain rfl : i = n := by omega
    refine codeAny_builtin PyProof.Rows.F.entry_set_update_loop ?_
    rw [Around.under_plainId PyProof.Rows.F.plain_set_update_loop _]
    show wpAny _ A.in1 (pyNext (.ref I) >>= _) _ _ s
    refine wpAny_bind (W.done s _ _ st fun z mv => ?_)
    show wpAny _ A.in1 (ret Value.none) _ _ z
    refine wpAny_pure (fin z (mv.mono incl) ?_)
    obtain ⟨o, es, ep, t, ho, more⟩ := hS
    exact ⟨o, es, ep, t, mv.heap D _ notW ho, more⟩
  | succ k ih =>
    intro i s hk hi st hS fin
    have lt : i < n := by omega
    refine codeAny_builtin PyProof.Rows.F.entry_set_update_loop ?_
    rw [Around.under_plainId PyProof.Rows.F.plain_set_update_loop _]
    show wpAny _ A.in1 (pyNext (.ref I) >>= _) _ _ s
    refine wpAny_bind (W.item i s _ _ lt st fun v z pv st2 mv => ?_)
    obtain ⟨t, rfl⟩ := val i v pv
    have hZ : z.heap.SetOf (PySem.strKind P w) D (has xs i) (dcnt xs i) := by
      obtain ⟨o, es, ep, tb, ho, more⟩ := hS
      exact ⟨o, es, ep, tb, mv.heap D _ notW ho, more⟩
    show wpAny _ A.in1 (holding [Value.str (xs.getD i Str.empty) t] (setAdd D (.str (xs.getD i Str.empty) t)) >>= _) _ _ z
    have cl := dcnt_le xs i
    refine wpAny_bind (wpAny_holding ?_)
    unfold setAdd
    refine wpAny_holding (wpAny_bind ((PySem.strKind P w).pyHash (k := xs.getD i Str.empty) (strKind_is _ _ _ _) ?_))
    refine wpAny_setAddHashed_of (knd := PySem.strKind P w) (s := { z with toks := z.toks + 1 }) (strKind_is _ _ _ _) rfl hZ (by omega) fun h2 sb hN => ?_
    have e : xs[i]? = some (xs.getD i Str.empty) := by
      rw [List.getElem?_eq_getElem (by omega)]
      simp [List.getD, show i < xs.length by omega]
    have hN2 : h2.SetOf (PySem.strKind P w) D (has xs (i + 1)) (dcnt xs (i + 1)) := by
      refine SetOf_congr hN (fun z => ?_) (by simp only [dcnt, has])
      show (has xs i z || decide (z = xs.getD i Str.empty)) = has xs (i + 1) z
      simp only [has, take_succ_get e, List.any_append, List.any_cons, List.any_nil, Bool.or_false]
      congr 1
      by_cases q : z = xs.getD i Str.empty
      · rw [q]; simp
      · have : (xs.getD i Str.empty == z) = false := beq_eq_false_iff_ne.mpr fun h => q h.symm
        rw [this, decide_eq_false q]
    refine wpAny_pure ⟨plainId_quiet PyProof.Rows.F.plain_set_update_loop _, ih (i + 1) _ (by omega) lt (W.frame _ z _ _ st2 (Nat.le_succ _) fun b hb o eo => ?_) hN2 fun y mv2 hY => ?_⟩
    · rw [sb.2 b (fun q : b = D => apart (by rw [← q]; exact hb))]; exact eo
    · refine fin y (Moved.trans W.gtrans ((mv.mono incl).then_heap (Nat.le_succ _) fun b o nb eo => ?_) mv2) hY
      rw [sb.2 b (fun q : b = D => nb (by rw [q]; exact List.mem_cons_self))]; exact eo
end
abbrev mtO (led : Bool) : Obj := { cls := .type "set", dict := none, data := .set #[] 0 (.fresh 0 0 led) }
section
variable {P : Program} {w : World} {A : Around} {E : Value → Shared → Prop} {s : Shared}
theorem set_list {l : Addr} {items : Array Value} {xs : List Str} {Q : Value → Shared → Prop} (hh : A.handled = none) (hl : s.heap.IsList l items) (si : PyProof.Rows.StrsAre items.toList xs) (few : xs.length + 1 < scanBound)
    (k : ∀ (h2 : Heap) (tk : Nat), h2.SetOf (PySem.strKind P w) s.heap.objs.size (has xs xs.length) (dcnt xs xs.length) → (∀ b o, b < s.heap.objs.size → s.heap.get? b = some o → h2.get? b = some o) → Q (.ref s.heap.objs.size) { s with heap := h2, toks := tk }) :
    wpAny (model P w) A (call (.type "set") [.ref l]) Q E s := by
  obtain ⟨cc, tl, mro⟩ := PySem.F.called_set.mro
  have f1 := PySem.F.called_set.made
  have f2 := PySem.F.called_set.sub
  refine wpAny_call (codeAny_of_tree ?_)
  show wpAny _ _ (callAny (.type "set") _) _ _ _
  refine wpAny_pure ⟨Code.quiet_builtin _ (by decide +kernel), codeAny_builtin PySem.F.entry_type_call ?_⟩
  rw [Around.under_plain (weight_type_call_type "set" [.ref l] []) rfl]
  have f3 := PySem.F.called_set.notType
  have f4 := PySem.F.called_set.canCreate
  have f5 := PySem.F.typeCall_set_1 (.ref l)
  repeat (any_goals (first | assumption | wp_step))
  refine codeAny_mono (code_set_new_1 (.ref l) (E := E) (Q₁ := fun ob z => ∃ led : Bool, ob = .ref s.heap.objs.size ∧ z = { s with heap := s.heap.push (mtO led) }) fun led => ⟨led, rfl, rfl⟩) fun r z hr => ?_
  cases r with
  | error e => exact hr
  | ok fl =>
    cases fl with
    | ret ob =>
      obtain ⟨led, rfl, rfl⟩ := hr
      have g1 : (s.heap.push (mtO led)).get? s.heap.objs.size = some (mtO led) := Heap.get?_push_size _ rfl
      have ty : Shared.TypeIs { s with heap := s.heap.push (mtO led) } (.ref s.heap.objs.size) "set" := ⟨_, g1, rfl⟩
      have f6 := PySem.F.called_set.init.lookup
      have f7 := PySem.F.called_set.init.bind (.ref s.heap.objs.size)
      repeat (any_goals (first | assumption | wp_step))
      refine codeAny_mono (codeAny_call_builtin (R := wants (fun r z => r = .none ∧ ∃ h2 tk, z = { s with heap := h2, toks := tk } ∧ h2.SetOf (PySem.strKind P w) s.heap.objs.size (has xs xs.length) (dcnt xs xs.length) ∧ ∀ b o, b < s.heap.objs.size → s.heap.get? b = some o → h2.get? b = some o) E) PySem.F.called_set.init.plain PySem.F.entry_set_init (check_set_init_1 ty ?_)) fun r2 z2 hr2 => ?_
      · obtain ⟨ol, hol, hcl, nl, hdl⟩ := hl
        obtain ⟨c1, c2, c3, c4⟩ := ol
        simp only at hcl hdl
        subst hcl
        subst hdl
        have g2 : (s.heap.push (mtO led)).get? l = some { cls := .type "list", dict := c2, data := .seq items nl, slots := c4 } := Heap.get?_push_of_some _ hol
        have f8 := PySem.F.sub_list_set
        have f9 := PySem.F.sub_list_frozenset
        have f10 : (Value.type "list" == Value.type "dict") = false := by decide
        have isq : (s.heap.push (mtO led)).IsList l items := ⟨_, g2, rfl, nl, rfl⟩
        unfold Builtin.«set.__init__» noKeywords Builtin.Frozenset.updateFrom
        generalize iter : pyIter = PI
        wp_walk
        subst iter
        refine wpAny_pyIter_list isq (wpAny_bind (wpAny_runValue ?_))
        have low : l < s.heap.objs.size := Heap.lt_size hol
        have hin : A.in1.in1.in1.handled = none := by simp [hh]
        have top : (s.heap.push (mtO led)).objs.size = s.heap.objs.size + 1 := Heap.size_push ..
        have ne1 : l ≠ (s.heap.push (mtO led)).objs.size := by rw [top]; exact Nat.ne_of_lt (Nat.lt_succ_of_lt low)
        have ap : s.heap.objs.size ∉ [(s.heap.push (mtO led)).objs.size, l] := by
          rw [top]
          intro z
          rcases List.mem_cons.mp z with z | z
          · exact absurd z (Nat.ne_of_lt (Nat.lt_succ_self _))
          · exact absurd (List.mem_singleton.mp z) (Nat.ne_of_gt low)
        have len : xs.length = items.size := by rw [← StrsAre.len_eq si, Array.length_toList]
        have val : ∀ (i : Nat) (v : Value), items[i]? = some v → ∃ t, v = .str (xs.getD i Str.empty) t := fun i v hv => SS.strs_at si i v (by rw [Array.getElem?_toList]; exact hv)
        refine loopD ((Walks.list hin _ l ne1 items).toS) s.heap.objs.size ap xs len (by omega) val (items.size - 0) 0 _ (by omega) (Nat.zero_le _) ⟨⟨_, Heap.get?_push_size _ rfl, rfl, rfl⟩, (isq.push _)⟩ ?start ?stop
        case start =>
          have g3 : ((s.heap.push (mtO led)).push { cls := .type "list_iterator", data := .fields #[.ref l, .int 0 0] }).get? s.heap.objs.size = some (mtO led) := Heap.get?_push_of_some _ g1
          exact PyProof.Rows.SetOf_congr ((PyProof.Rows.setObjOf_fresh (knd := PySem.strKind P w) led).setOf g3 (by unfold scanBound; omega)) (fun _ => rfl) rfl
        case stop =>
          intro z mv hZ
          obtain ⟨hp, gn, dr, tk, os⟩ := z
          obtain rfl : gn = s.gens := mv.gens
          obtain rfl : dr = s.drawn := mv.drawn
          obtain rfl : os = s.os := mv.os
          show wpAny _ _ _ _ _ _
          refine wpAny_pure ?_
          show wpAny _ _ (ret Value.none) _ _ _
          rw [← len] at hZ
          refine wpAny_pure ⟨rfl, hp, tk, rfl, hZ, fun b o hb e => mv.heap b o (fun z => ?_) (Heap.get?_push_of_some _ (Heap.get?_push_of_some _ e))⟩
          rw [top] at z
          rcases List.mem_cons.mp z with z | z
          · exact absurd z (Nat.ne_of_lt hb)
          · exact absurd (List.mem_singleton.mp z) (Nat.ne_of_lt (Nat.lt_succ_of_lt hb))
      · cases r2 with
        | error e => exact hr2
        | ok fl2 =>
          cases fl2 with
          | ret r =>
            obtain ⟨rfl, h2, tk, rfl, hZ, keep⟩ := hr2
            repeat (any_goals (first | assumption | wp_step))
            exact k _ _ hZ keep
          | _ => exact hr2.elim
    | _ => exact hr.elim
theorem set_tuple {l : Addr} {items : Array Value} {xs : List Str} {Q : Value → Shared → Prop} (hh : A.handled = none) (hl : s.heap.IsTuple l items) (si : PyProof.Rows.StrsAre items.toList xs) (few : xs.length + 1 < scanBound)
    (k : ∀ (h2 : Heap) (tk : Nat), h2.SetOf (PySem.strKind P w) s.heap.objs.size (has xs xs.length) (dcnt xs xs.length) → (∀ b o, b < s.heap.objs.size → s.heap.get? b = some o → h2.get? b = some o) → Q (.ref s.heap.objs.size) { s with heap := h2, toks := tk }) :
    wpAny (model P w) A (call (.type "set") [.ref l]) Q E s := by
  obtain ⟨cc, tl, mro⟩ := PySem.F.called_set.mro
  have f1 := PySem.F.called_set.made
  have f2 := PySem.F.called_set.sub
  refine wpAny_call (codeAny_of_tree ?_)
  show wpAny _ _ (callAny (.type "set") _) _ _ _
  refine wpAny_pure ⟨Code.quiet_builtin _ (by decide +kernel), codeAny_builtin PySem.F.entry_type_call ?_⟩
  rw [Around.under_plain (weight_type_call_type "set" [.ref l] []) rfl]
  have f3 := PySem.F.called_set.notType
  have f4 := PySem.F.called_set.canCreate
  have f5 := PySem.F.typeCall_set_1 (.ref l)
  repeat (any_goals (first | assumption | wp_step))
  refine codeAny_mono (code_set_new_1 (.ref l) (E := E) (Q₁ := fun ob z => ∃ led : Bool, ob = .ref s.heap.objs.size ∧ z = { s with heap := s.heap.push (mtO led) }) fun led => ⟨led, rfl, rfl⟩) fun r z hr => ?_
  cases r with
  | error e => exact hr
  | ok fl =>
    cases fl with
    | ret ob =>
      obtain ⟨led, rfl, rfl⟩ := hr
      have g1 : (s.heap.push (mtO led)).get? s.heap.objs.size = some (mtO led) := Heap.get?_push_size _ rfl
      have ty : Shared.TypeIs { s with heap := s.heap.push (mtO led) } (.ref s.heap.objs.size) "set" := ⟨_, g1, rfl⟩
      have f6 := PySem.F.called_set.init.lookup
      have f7 := PySem.F.called_set.init.bind (.ref s.heap.objs.size)
      repeat (any_goals (first | assumption | wp_step))
      refine codeAny_mono (codeAny_call_builtin (R := wants (fun r z => r = .none ∧ ∃ h2 tk, z = { s with heap := h2, toks := tk } ∧ h2.SetOf (PySem.strKind P w) s.heap.objs.size (has xs xs.length) (dcnt xs xs.length) ∧ ∀ b o, b < s.heap.objs.size → s.heap.get? b = some o → h2.get? b = some o) E) PySem.F.called_set.init.plain PySem.F.entry_set_init (check_set_init_1 ty ?_)) fun r2 z2 hr2 => ?_
      · obtain ⟨ol, hol, hcl, nl, hdl⟩ := hl
        obtain ⟨c1, c2, c3, c4⟩ := ol
        simp only at hcl hdl
        subst hcl
        subst hdl
        have g2 : (s.heap.push (mtO led)).get? l = some { cls := .type "tuple", dict := c2, data := .seq items nl, slots := c4 } := Heap.get?_push_of_some _ hol
        have f8 := PySem.F.sub_tuple_set
        have f9 := PySem.F.sub_tuple_frozenset
        have f10 : (Value.type "tuple" == Value.type "dict") = false := by decide
        have isq : (s.heap.push (mtO led)).IsTuple l items := ⟨_, g2, rfl, nl, rfl⟩
        unfold Builtin.«set.__init__» noKeywords Builtin.Frozenset.updateFrom
        generalize iter : pyIter = PI
        wp_walk
        subst iter
        refine wpAny_pyIter_tuple isq (wpAny_bind (wpAny_runValue ?_))
        have low : l < s.heap.objs.size := Heap.lt_size hol
        have hin : A.in1.in1.in1.handled = none := by simp [hh]
        have top : (s.heap.push (mtO led)).objs.size = s.heap.objs.size + 1 := Heap.size_push ..
        have ne1 : l ≠ (s.heap.push (mtO led)).objs.size := by rw [top]; exact Nat.ne_of_lt (Nat.lt_succ_of_lt low)
        have ap : s.heap.objs.size ∉ [(s.heap.push (mtO led)).objs.size, l] := by
          rw [top]
          intro z
          rcases List.mem_cons.mp z with z | z
          · exact absurd z (Nat.ne_of_lt (Nat.lt_succ_self _))
          · exact absurd (List.mem_singleton.mp z) (Nat.ne_of_gt low)
        have len : xs.length = items.size := by rw [← StrsAre.len_eq si, Array.length_toList]
        have val : ∀ (i : Nat) (v : Value), items[i]? = some v → ∃ t, v = .str (xs.getD i Str.empty) t := fun i v hv => SS.strs_at si i v (by rw [Array.getElem?_toList]; exact hv)
        refine loopD ((Walks.tuple hin _ l ne1 items).toS) s.heap.objs.size ap xs len (by omega) val (items.size - 0) 0 _ (by omega) (Nat.zero_le _) ⟨⟨_, Heap.get?_push_size _ rfl, rfl, rfl⟩, (isq.push _)⟩ ?start ?stop
        case start =>
          have g3 : ((s.heap.push (mtO led)).push { cls := .type "tuple_iterator", data := .fields #[.ref l, .int 0 0] }).get? s.heap.objs.size = some (mtO led) := Heap.get?_push_of_some _ g1
          exact PyProof.Rows.SetOf_congr ((PyProof.Rows.setObjOf_fresh (knd := PySem.strKind P w) led).setOf g3 (by unfold scanBound; omega)) (fun _ => rfl) rfl
        case stop =>
          intro z mv hZ
          obtain ⟨hp, gn, dr, tk, os⟩ := z
          obtain rfl : gn = s.gens := mv.gens
          obtain rfl : dr = s.drawn := mv.drawn
          obtain rfl : os = s.os := mv.os
          show wpAny _ _ _ _ _ _
          refine wpAny_pure ?_
          show wpAny _ _ (ret Value.none) _ _ _
          rw [← len] at hZ
          refine wpAny_pure ⟨rfl, hp, tk, rfl, hZ, fun b o hb e => mv.heap b o (fun z => ?_) (Heap.get?_push_of_some _ (Heap.get?_push_of_some _ e))⟩
          rw [top] at z
          rcases List.mem_cons.mp z with z | z
          · exact absurd z (Nat.ne_of_lt hb)
          · exact absurd (List.mem_singleton.mp z) (Nat.ne_of_lt (Nat.lt_succ_of_lt hb))
      · cases r2 with
        | error e => exact hr2
        | ok fl2 =>
          cases fl2 with
          | ret r =>
            obtain ⟨rfl, h2, tk, rfl, hZ, keep⟩ := hr2
            repeat (any_goals (first | assumption | wp_step))
            exact k _ _ hZ keep
          | _ => exact hr2.elim
    | _ => exact hr.elim

end
/-! ### len(set(xs)) -/
def tLenD (K : PySem.W.Frag) (ta : TE) : TE := fun σ H Q => ta σ H fun x H1 => ∃ l, ∃ xs : List Str, x = .ref l ∧ (SqL K H1 l (xs.map V.str) ∨ SqT K H1 l (xs.map V.str)) ∧ xs.length ≤ 3000 ∧ Q (.int (dcnt xs xs.length : Nat)) H1
section
variable {X : Cx}
theorem pe_lenD {a : Expr} {ta : TE} {p p2 q pos : Pos} (hc : X.calm = true) (hg : Gl X "len") (hm : X.mg "len" = none) (hg2 : Gl X "set") (hm2 : X.mg "set" = none) (ha : PE X a ta) (na : starEach [a] X.env = (false, eval a X.env) :: starEach [] X.env := by rfl) :
    PE X (.Call (.Name "len" p) [.Call (.Name "set" p2) [a] [] q] [] pos) (tLenD X.K ta) := by
  refine ⟨fun pins s σ H Q I h => Call_ (ld_blt I hg hm boot_len (PyProof.Rows.callWith_builtin1 (PyProof.Rows.args_cons ?_ rfl) rfl rfl))⟩
  refine Call_ (ld_blt I hg2 hm2 boot_set (PyProof.Rows.callWith_type1 (PyProof.Rows.args_cons (thn (ha.run pins s σ H _ I h) fun v s1 ⟨x, H1, I1, r1, q1⟩ => PyProof.Rows.args_nil ?_) na) na rfl))
  obtain ⟨l, xs, rfl, hq, h1, q1⟩ := q1
  cases r1
  have sb0 : (3001 : Nat) < scanBound := by unfold scanBound; omega
  have fin : ∀ (its : List Value), Vals (xs.map V.str) its → ∀ (h2 : Heap) (tk : Nat), h2.SetOf (PySem.strKind X.prog X.w) s1.heap.objs.size (has xs xs.length) (dcnt xs xs.length) → (∀ b o, b < s1.heap.objs.size → s1.heap.get? b = some o → h2.get? b = some o) →
      wpAny (model X.prog X.w) X.A (spliced (backTo pos (starEach [] X.env))) (fun vs z => wpAny (model X.prog X.w) X.A (call (.builtin "len") (Value.ref s1.heap.objs.size :: vs)) (EP X pins σ Q) X.xe z) X.xe { s1 with heap := h2, toks := tk } := fun its r h2 tk hS hk => by
    refine PyProof.Rows.args_nil ?_
    obtain ⟨o, es, ep, t, ho, hex, hd, _, _, _, hf, hn⟩ := hS
    have I2 : Inv X pins σ H1 { s1 with heap := h2, toks := tk } := I1.kept fun b o e => hk b o (Heap.lt_size e) e
    have := dcnt_le xs xs.length
    exact call_len_set ho hex hd hf (by rw [hn] <;> omega) ⟨.int (dcnt xs xs.length : Nat), H1, I2.tok _, ⟨_, by rw [hn]⟩, q1⟩
  rcases hq with hq | hq
  · obtain ⟨its, r, pl, hz⟩ := I1.list hq
    exact set_list (I1.ok.hd hc) pl.isList (by simpa using strsAre_of r) (by omega) fun h2 tk hS hk => fin its r h2 tk hS hk
  · obtain ⟨its, r, pl, hz⟩ := I1.tuple hq
    exact set_tuple (I1.ok.hd hc) pl (by simpa using strsAre_of r) (by omega) fun h2 tk hS hk => fin its r h2 tk hS hk
end
/-- over data -/
@[simp] def dLenD (te : TED) : TED := fun r n P => te r n fun d r1 n1 => ∃ xs : List Str, seqOf d = some (sts xs) ∧ xs.length ≤ 3000 ∧ P (.py (.int (dcnt xs xs.length : Nat))) r1 n1
theorem de_lenD {X : Cx} {c : Cst} {a : Expr} {te : TED} {p p2 q pos : Pos} (hc : X.calm = true) (hg : Gl X "len") (hm : X.mg "len" = none) (hg2 : Gl X "set") (hm2 : X.mg "set" = none) (h : DE c X a te) (na : starEach [a] X.env = (false, eval a X.env) :: starEach [] X.env := by rfl) :
    DE c X (.Call (.Name "len" p) [.Call (.Name "set" p2) [a] [] q] [] pos) (dLenD te) := ⟨fun g hgc => PE.imp (pe_lenD hc hg hm hg2 hm2 (h.run g hgc) na) fun s H Q ⟨F, r, n, P, R, p, k⟩ => ⟨F, r, n, _, R, p, fun F1 d r1 n1 v H1 sb R1 rv ⟨xs, ed, hl, p1⟩ => by
  cases d with
  | py d =>
    cases rv with
    | @lst l us _ e1 e2 =>
      simp only [seqOf, Option.some.injEq] at ed
      subst ed
      have := e2.of_strs
      subst this
      exact ⟨l, xs, rfl, .inl (.of (R1.bas.und.lst e1)), hl, k.py sb R1 (.int _) p1⟩
    | @tup l us _ e1 e2 =>
      simp only [seqOf, Option.some.injEq] at ed
      subst ed
      have := e2.of_strs
      subst this
      exact ⟨l, xs, rfl, .inr (.of (R1.bas.und.tup e1)), hl, k.py sb R1 (.int _) p1⟩
    | _ => simp at ed
  | _ => simp at ed⟩⟩
end K21



set_option Elab.async false
set_option linter.all false
set_option maxRecDepth 100000
set_option maxHeartbeats 4000000
/-! K21W: labels, rings, odd walks, as the law sees them. -/
namespace K21
open PySem PySem.Spec PyProof.Rows L2
/-- for x in t, t a name that holds a list or a tuple -/
@[simp] def iSeqV (i : Nat) : TSrc := fun r n P => ∃ d ds, r[i]? = some (some (.dat (.py d))) ∧ seqOf (.py d) = some ds ∧ P ds r n
theorem di_seqV {X : Cx} {c : Cst} {tg : Expr} {x : Str} {px : Pos} (i : Nat) (hx : PE X (.Name x px) (tVar i)) : DI c X tg (.Name x px) (iSeqV i) := ⟨fun g hg => ⟨fun pins sh s H R I h => by
  obtain ⟨F, r, n, P, Rl, ⟨d, ds, e, ed, p⟩, k⟩ := h
  obtain ⟨v, es, rv⟩ := Rl.dat e
  cases d with
  | list xs =>
    cases ed
    cases rv with
    | lst e1 e2 => exact (pi_list hx).run pins sh s H R I ⟨_, es, _, rfl, ⟨_, .of (Rl.bas.und.lst e1)⟩, k F _ r n _ H (.refl F) Rl (srcV_list e1 e2).wk p⟩
  | tuple xs =>
    cases ed
    cases rv with
    | tup e1 e2 => exact (pi_tup hx).run pins sh s H R I ⟨_, es, _, rfl, ⟨_, .of (Rl.bas.und.tup e1)⟩, k F _ r n _ H (.refl F) Rl (srcV_tup e1 e2).wk p⟩
  | _ => cases ed⟩⟩
/-! ### what is reached -/
structure RInv (ns : List Str) (ps : List (Str × Str)) (a : Str) (k : Nat) (rs : List Plc) : Prop where
  nd : rs.Nodup
  snd : ∀ p ∈ rs, (∃ w, Wk ps a w p.1 ∧ w.length % 2 = p.2) ∧ p.1 ∈ ns
  st : (a, 0) ∈ rs
  cl : ∀ i < k, ∀ p, rs[i]? = some p → ∀ y, (p.1, y) ∈ ps → (y, 1 - p.2) ∈ rs
  le : k ≤ rs.length
def news (ps : List (Str × Str)) (rs : List Plc) (p : Plc) : List Plc := ((lobjd ps p.1).filter fun y => !decide ((y, 1 - p.2) ∈ rs)).map fun y => (y, 1 - p.2)
theorem lobjd_nd {ps : List (Str × Str)} (h : ps.Nodup) (x : Str) : (lobjd ps x).Nodup := by
  refine (sort_pm PyData.str _).nodup_iff.mpr ?_
  have h2 : (ps.filter fun p => decide (p.1 = x)).Nodup := h.sublist List.filter_sublist
  rw [List.Nodup, List.pairwise_map]
  refine List.Pairwise.imp_of_mem (fun {p q} hp hq hne e => hne ?_) h2
  have h3 := (List.mem_filter.mp hp).2
  have h4 := (List.mem_filter.mp hq).2
  simp only [decide_eq_true_eq] at h3 h4
  rw [← Prod.eta p, ← Prod.eta q, h3, h4, e]
theorem rInv_step {ns : List Str} {ps : List (Str × Str)} {a : Str} {k : Nat} {rs : List Plc} {p : Plc} (hps : ps.Nodup) (hin : ∀ q ∈ ps, q.1 ∈ ns ∧ q.2 ∈ ns) (R : RInv ns ps a k rs) (hp : rs[k]? = some p) : RInv ns ps a (k + 1) (rs ++ news ps rs p) := by
  have hpm : p ∈ rs := List.mem_of_getElem? hp
  obtain ⟨⟨w, hw, hl⟩, hpn⟩ := R.snd p hpm
  have hlt : k < rs.length := (List.getElem?_eq_some_iff.mp hp).1
  refine ⟨?_, fun q hq => ?_, by simp [R.st], fun i hi q hq y hy => ?_, by rw [List.length_append]; omega⟩
  · rw [List.nodup_append]
    refine ⟨R.nd, ?_, fun x hx y hy => ?_⟩
    · rw [news, List.Nodup, List.pairwise_map]
      refine List.Pairwise.imp (fun {y z} hne e => hne ?_) ((lobjd_nd hps p.1).sublist List.filter_sublist)
      exact (Prod.mk.inj e).1
    · obtain ⟨z, hz, rfl⟩ := List.mem_map.mp hy
      have := (List.mem_filter.mp hz).2
      simp only [Bool.not_eq_true', decide_eq_false_iff_not] at this
      intro e
      exact this (e ▸ hx)
  · rcases List.mem_append.mp hq with h | h
    · exact R.snd q h
    · obtain ⟨z, hz, rfl⟩ := List.mem_map.mp h
      have hz1 := mem_lobjd.mp (List.mem_filter.mp hz).1
      refine ⟨⟨w ++ [p.1], .snoc hw hz1, ?_⟩, (hin _ hz1).2⟩
      rw [List.length_append, List.length_singleton]
      show (w.length + 1) % 2 = 1 - p.2
      omega
  · by_cases hik : i < k
    · have : rs[i]? = some q := by
        rw [List.getElem?_append_left (by omega)] at hq; exact hq
      exact List.mem_append.mpr (.inl (R.cl i hik q this y hy))
    · have hik' : i = k := by omega
      subst hik'
      rw [List.getElem?_append_left hlt, hp] at hq
      cases hq
      by_cases hm : (y, 1 - p.2) ∈ rs
      · exact List.mem_append.mpr (.inl hm)
      · refine List.mem_append.mpr (.inr (List.mem_map.mpr ⟨y, List.mem_filter.mpr ⟨mem_lobjd.mpr hy, by simp [hm]⟩, rfl⟩))
theorem rInv_len {ns : List Str} {ps : List (Str × Str)} {a : Str} {k : Nat} {rs : List Plc} (R : RInv ns ps a k rs) : rs.length ≤ 2 * ns.length := by
  have := nodup_len (ys := ns.map (fun x => (x, 0)) ++ ns.map fun x => (x, 1)) R.nd fun p hp => by
    obtain ⟨⟨w, _, hw⟩, h2⟩ := R.snd p hp
    have : p.2 = 0 ∨ p.2 = 1 := by omega
    rw [List.mem_append, List.mem_map, List.mem_map]
    rcases this with h | h
    · exact .inl ⟨p.1, h2, by rw [← h]⟩
    · exact .inr ⟨p.1, h2, by rw [← h]⟩
  rw [List.length_append, List.length_map, List.length_map] at this
  omega
theorem rInv_end {ns : List Str} {ps : List (Str × Str)} {a : Str} {rs : List Plc} (R : RInv ns ps a rs.length rs) : (a, 1) ∈ rs ↔ ∃ w, Wk ps a w a ∧ w.length % 2 = 1 := by
  have all : ∀ {w : List Str} {y : Str}, Wk ps a w y → (y, w.length % 2) ∈ rs := fun {w y} h => by
    induction h with
    | nil => exact R.st
    | @snoc w x y _ e ih =>
      obtain ⟨i, hi, ei⟩ := List.getElem_of_mem ih
      have := R.cl i hi _ (by rw [List.getElem?_eq_getElem hi, ei]) y e
      rw [List.length_append, List.length_singleton]
      have e2 : 1 - w.length % 2 = (w.length + 1) % 2 := by omega
      rw [← e2]; exact this
  constructor
  · intro h
    exact (R.snd _ h).1
  · rintro ⟨w, h1, h2⟩
    have := all h1
    rw [h2] at this
    exact this
def HasOdd (ns : List Str) (ps : List (Str × Str)) : Prop := ∃ a ∈ ns, ∃ w, Wk ps a w a ∧ w.length % 2 = 1
section
variable {P : Program} {w : World} {K : PySem.W.Frag} {mg : Str → Option Value} {base : Heap} {c : Cst}
theorem sc__law_d_labels : FnScope ["_law_names", "_law_pairs", "_law_lot", "_law_found", "_law_name"] ["_law_names", "_law_pairs", "_law_lot"] (defScope (topS 70)) := ⟨rfl, rfl, rfl, by decide +kernel, rfl, by decide +kernel, by decide +kernel⟩
def pre_npl (ds : List DV) (_ : Nat) : Prop := ∃ (ns : List Str) (ps : List (Str × Str)) (lot : List Str), ns.length ≤ 64 ∧ ns.Nodup ∧ ps.length ≤ 4096 ∧ ds = [.py (.list (sts ns)), .py (.list (ps.map pairD)), .py (.list (sts lot))]
@[simp] def f_d_labels : List DV → DV
  | [.py (.list n), .py (.list p), .py (.list l)] => .dct ((sortS (unS n)).map fun s => (s, .str (llab (unP p) (unS l) s)))
  | _ => .py .none
theorem ok_d_labels (D : DefAt K mg "_law_d_labels" (topS 70)) (B : Bn mg) (O_law_d_hits : OkD P w K mg base c "_law_d_hits" ["_law_pairs", "_law_lot", "_law_name"] 2 pre_plx (pv1 f_d_hits)) :
    OkD P w K mg base c "_law_d_labels" ["_law_names", "_law_pairs", "_law_lot"] 3 pre_npl (pv1 f_d_labels) := by
  refine ok_def D (fun _ _ _ _ _ _ us hl => match us, hl with | [_, _, _], _ => rfl) sc__law_d_labels (fun ds n h => ?_) (fun f cdv A outer s H E hr => ?_)
  · obtain ⟨a, b, x, _, _, _, rfl⟩ := h; rfl
  · refine ⟨_, (dss_cons (ds_newK (i := 3) sc__law_d_labels.nd rfl (Or.inl rfl)) (dss_cons (ds_for (.one 4) PassesOwn.never rfl (di_lst (de_sorted (hu64 hr) rfl B.sorted (de_v 0 (pv 0)))) (pg_name (i := 4) sc__law_d_labels.nd rfl (Or.inl rfl)) (dss_one (ds_putK 3 (hu1 hr) (pv 3) (de_if (dt_in (hu65 hr) (de_v 4 (pv 4)) (de_v 2 (pv 2))) de_str (de_if (dt_val (de_ok O_law_d_hits hr (by decide) rfl (da_cons (de_v 1 (pv 1)) (da_cons (de_v 2 (pv 2)) (da_cons (de_v 4 (pv 4)) da_nil))))) de_str de_str)) (de_v 4 (pv 4))))) (dss_one (ds_ret (de_frz 3 (pv 3)))))), fun ds n h => ?_⟩
    obtain ⟨ns, ps, lot, hl, hnd, hp, rfl⟩ := h
    simp [startD, pv1, -Bool.exists_bool, -kSort]
    have nd : (sortS ns).Nodup := (sort_pm PyData.str ns).nodup_iff.mpr hnd
    have h64 : (sortS ns).length ≤ 64 := by rw [len_sortS]; exact hl
    refine for_t (sortS ns) PyData.str (fun k r n' => (∃ a, r = [some (.dat (.py (.list (sts ns)))), some (.dat (.py (.list (ps.map pairD)))), some (.dat (.py (.list (sts lot)))), some (.mu (.dK (((sortS ns).take k).map fun s => (s, .str (llab ps lot s))))), a]) ∧ n' = n) (fun K h => by
      simp [-kSort]
      exact kSort_sts (by rw [szL]; omega) ⟨_, rfl, h⟩) ⟨⟨_, rfl⟩, rfl⟩ (fun k x r n' hx ⟨⟨a, e⟩, en⟩ => ?_) (fun r n' ⟨⟨a, e⟩, en⟩ => ?_)
    · subst e en
      have hnew : x ∉ (((sortS ns).take k).map fun s => (s, PyData.str (llab ps lot s))).map (·.1) := by
        rw [List.map_map]
        have e0 : ((fun p : Str × PD => p.1) ∘ fun s => (s, PyData.str (llab ps lot s))) = id := rfl
        rw [e0, List.map_id]
        intro hmem
        have hnd := nd
        rw [← List.take_append_drop k (sortS ns), drop_get hx, List.nodup_append] at hnd
        exact hnd.2.2 x hmem x (by simp) rfl
      have hlt : k < (sortS ns).length := (List.getElem?_eq_some_iff.mp hx).1
      have put : putD (((sortS ns).take k).map fun s => (s, PyData.str (llab ps lot s))) x (.str (llab ps lot x)) = ((sortS ns).take (k + 1)).map fun s => (s, PyData.str (llab ps lot s)) := by
        rw [put_new hnew, take_succ_get hx, List.map_append]; rfl
      have hsz : min k (sortS ns).length < sizeLine := by rw [szL]; omega
      simp [-Bool.exists_bool]
      by_cases h1 : x ∈ lot
      · have el : llab ps lot x = "in" := by simp [llab, h1]
        rw [el] at put
        simp [h1, hsz]
        simpa using put
      · simp [h1, pv1]
        refine ⟨⟨ps, lot, x, hp, rfl⟩, ?_⟩
        cases q : lhits ps lot x with
        | true =>
          have el : llab ps lot x = "out" := by simp [llab, h1, q]
          rw [el] at put
          simp [hsz]
          simpa using put
        | false =>
          have el : llab ps lot x = "undecided" := by simp [llab, h1, q]
          rw [el] at put
          simp [hsz]
          simpa using put
    · subst e en
      simp
theorem sc__law_has_odd : FnScope ["_law_names", "_law_pairs", "_law_name", "_law_reach", "_law_at", "_law_one", "_law_odd", "_law_other"] ["_law_names", "_law_pairs"] (defScope (topS 73)) := ⟨rfl, rfl, rfl, by decide +kernel, rfl, by decide +kernel, by decide +kernel⟩
def pre_np (ds : List DV) (_ : Nat) : Prop := ∃ (ns : List Str) (ps : List (Str × Str)), ns.length ≤ 64 ∧ ps.length ≤ 4096 ∧ ps.Nodup ∧ (∀ q ∈ ps, q.1 ∈ ns ∧ q.2 ∈ ns) ∧ ds = [.py (.list (sts ns)), .py (.list (ps.map pairD))]
def post_ho (ds : List DV) (n : Nat) (d : DV) (n' : Nat) : Prop := n' = n ∧ ∃ (ns : List Str) (ps : List (Str × Str)) (b : Bool), ds = [.py (.list (sts ns)), .py (.list (ps.map pairD))] ∧ d = .py (.bool b) ∧ (b = true ↔ HasOdd ns ps)
theorem inD_plc (p : Plc) (ls : List Plc) : inD (plcD p) (ls.map plcD) = decide (p ∈ ls) := by
  unfold inD
  induction ls with
  | nil => simp
  | cons n ns ih =>
    rw [List.map_cons, List.any_cons, ih]
    have e : (plcD n).eqv (plcD p) = decide (n = p) := by
      obtain ⟨x, y⟩ := n
      obtain ⟨u, v⟩ := p
      show (PyData.eqv (.str x) (.str u) && (PyData.eqv (.int (y : Nat)) (.int (v : Nat)) && true)) = _
      rw [eqv_str, Bool.and_true]
      have e2 : PyData.eqv (.int (y : Nat)) (.int (v : Nat)) = decide (y = v) := by
        simp only [PyData.eqv]
        by_cases h : y = v
        · simp [h]
        · have : ¬ (y : Int) = (v : Int) := by omega
          simp [h, this]
      rw [e2]
      by_cases h1 : x = u <;> by_cases h2 : y = v <;> simp [h1, h2]
    rw [e]
    by_cases h : n = p
    · simp [h]
    · simp [h, Ne.symm h]
theorem shape_plcs (ls : List Plc) : shapeD (.list (ls.map plcD)) = true := shape_list fun d hd => by
  obtain ⟨x, _, rfl⟩ := List.mem_map.mp hd
  exact ⟨by simp [plcD, layD, layD.layDAll], by simp [plcD, PyData.depth, PyData.depthAll]⟩
theorem ok_has_odd (D : DefAt K mg "_law_has_odd" (topS 73)) (B : Bn mg) (O_law_d_objected : OkD P w K mg base c "_law_d_objected" ["_law_pairs", "_law_name"] 1 pre_px (pv1 f_d_objected)) :
    OkD P w K mg base c "_law_has_odd" ["_law_names", "_law_pairs"] 2 pre_np post_ho := by
  refine ok_def D (fun _ _ _ _ _ _ us hl => match us, hl with | [_, _], _ => rfl) sc__law_has_odd (fun ds n h => ?_) (fun f cdv A outer s H E hr => ?_)
  · obtain ⟨a, b, _, _, _, _, rfl⟩ := h; rfl
  · refine ⟨_, (dss_cons (ds_for (.one 2) PassesOwn.never rfl (di_lst (de_v 0 (pv 0))) (pg_name (i := 2) sc__law_has_odd.nd rfl (Or.inl rfl)) (dss_cons (ds_par (par2_G (i := 3) (j := 4) (pg_tup rfl (pgs_cons (pg_name (i := 3) sc__law_has_odd.nd rfl (Or.inr rfl)) (pgs_cons (pg_name (i := 4) sc__law_has_odd.nd rfl (Or.inl rfl)) pgs_nil)))) (de_lst (da_cons (de_tup (da_cons (de_v 2 (pv 2)) (da_cons de_int da_nil))) da_nil)) de_int) (dss_cons (ds_while PassesOwn.never (dt_lt (de_v 4 (pv 4)) (de_len rfl B.len (de_v 3 (pv 3)))) (dss_cons (ds_unp (de_ix (de_v 3 (pv 3)) (de_v 4 (pv 4))) (pg_tup rfl (pgs_cons (pg_name (i := 5) sc__law_has_odd.nd rfl (Or.inl rfl)) (pgs_cons (pg_name (i := 6) sc__law_has_odd.nd rfl (Or.inr rfl)) pgs_nil)))) (dss_cons (ds_set (i := 3) sc__law_has_odd.nd rfl (Or.inr rfl) (de_cat (de_v 3 (pv 3)) (de_lc (own := [("_law_other", 7)]) (.one 7) rfl sc__law_has_odd.nd (di_lst (de_ok O_law_d_objected hr (by decide) rfl (da_cons (de_v 1 (pv 1)) (da_cons (de_v 5 (pv 5)) da_nil)))) (blkOk_by (N := ["_law_names", "_law_pairs", "_law_name", "_law_reach", "_law_at", "_law_one", "_law_odd", "_law_other"]) (sc := defScope (topS 73)) (own := [("_law_other", 7)]) (by decide +kernel)) (fun _ _ _ _ _ => (pg_name (i := 7) sc__law_has_odd.nd rfl (Or.inl rfl))) (fun _ _ _ _ _ => (dts_one (dt_notIn (hu65 hr) (de_tup (da_cons (de_v 7 (pv 7)) (da_cons (de_sub de_int (de_v 6 (pv 6))) da_nil))) (de_v 3 (pv 3))))) (fun _ _ _ _ _ => (de_tup (da_cons (de_v 7 (pv 7)) (da_cons (de_sub de_int (de_v 6 (pv 6))) da_nil))))))) (dss_one (ds_set (i := 4) sc__law_has_odd.nd rfl (Or.inl rfl) (de_add (de_v 4 (pv 4)) de_int)))))) (dss_one (ds_if (dt_in (hu65 hr) (de_tup (da_cons (de_v 2 (pv 2)) (da_cons de_int da_nil))) (de_v 3 (pv 3))) (dss_one (ds_ret de_bl)) dss_nil))))) (dss_one (ds_ret de_bl))), fun ds n h => ?_⟩
    obtain ⟨ns, ps, hl, hp, hnd, hin, rfl⟩ := h
    simp [startD, -Bool.exists_bool]
    refine for_t ns PyData.str (fun k r n' => (∃ a b c1 c2 c3, r = [some (.dat (.py (.list (sts ns)))), some (.dat (.py (.list (ps.map pairD)))), a, b, c1, c2, c3, none]) ∧ n' = n ∧ ∀ x ∈ ns.take k, ¬ ∃ w, Wk ps x w x ∧ w.length % 2 = 1) (fun K h => by simp; exact h) ⟨⟨_, _, _, _, _, rfl⟩, rfl, by simp⟩ (fun k a r n' ha ⟨⟨a1, b1, c1, c2, c3, e⟩, en, hI⟩ => ?_) (fun r n' ⟨⟨a1, b1, c1, c2, c3, e⟩, en, hI⟩ => ?_)
    · subst e en
      simp [-Bool.exists_bool]
      refine ⟨by rw [szL]; omega, by rw [szL]; omega, ?_⟩
      have han : a ∈ ns := List.mem_of_getElem? ha
      have h0 : RInv ns ps a 0 [(a, 0)] := ⟨by simp, fun p hp => by rw [List.mem_singleton.mp hp]; exact ⟨⟨[], .nil, rfl⟩, han⟩, by simp, fun i hi => by omega, by simp⟩
      refine ⟨fun m r n1 => ∃ k rs c2 c3, r = [some (.dat (.py (.list (sts ns)))), some (.dat (.py (.list (ps.map pairD)))), some (.dat (.py (.str a))), some (.dat (.py (.list (rs.map plcD)))), some (.dat (.py (.int (k : Nat)))), c2, c3, none] ∧ n1 = n' ∧ RInv ns ps a k rs ∧ m = 2 * ns.length + 1 - k, ⟨_, 0, [(a, 0)], _, _, rfl, rfl, h0, rfl⟩, ?_⟩
      rintro m r n1 ⟨j, rs, d2, d3, rfl, rfl, R, rfl⟩
      have lrs := rInv_len R
      simp [-Bool.exists_bool]
      by_cases hj : j < rs.length
      · have hjp : rs[j]? = some rs[j] := List.getElem?_eq_getElem hj
        have hpm : rs[j] ∈ rs := List.getElem_mem hj
        have hdec : decide ((j : Int) < (rs.length : Nat)) = true := by simp; omega
        have hat : L2.atI (rs.map plcD) (j : Int) = some (plcD rs[j]) := atI_nat (by rw [List.getElem?_map, hjp]; rfl)
        have R' := rInv_step hnd hin R hjp
        obtain ⟨⟨w0, _, hw0⟩, hpn⟩ := R.snd _ hpm
        have hp1 : rs[j].2 ≤ 1 := by omega
        generalize rs[j] = p at hjp hpm hat R' hpn hw0 hp1
        have hint : (1 : Int) - (p.2 : Int) = ((1 - p.2 : Nat) : Int) := by omega
        have ll := len_lobjd ps p.1
        simp [-Bool.exists_bool, hdec, hat, hj]
        refine ⟨.str p.1, .int (p.2 : Nat), rfl, ?_⟩
        refine lct (lobjd ps p.1) PyData.str (fun y => !decide ((y, 1 - p.2) ∈ rs)) (fun y => plcD (y, 1 - p.2)) (fun K h => by simp [pv1]; exact ⟨⟨ps, p.1, hp, rfl⟩, h⟩) (by simp) (by rw [szL]; omega) rfl (fun y hy K hK => ?_) (fun y hy hq K hK => ?_) ?_
        · have e3 : inD (.tuple [.str y, .int ((1 - p.2 : Nat) : Int)]) (rs.map plcD) = decide ((y, 1 - p.2) ∈ rs) := inD_plc (y, 1 - p.2) rs
          simp [-Bool.exists_bool, hint, e3]
          exact ⟨by rw [szL]; omega, shape_plcs rs, hK⟩
        · simp [hint]
          refine ⟨by rw [szL]; omega, ?_⟩
          simpa [plcD] using hK
        · have ln := rInv_len R'
          rw [List.length_append] at ln
          have en : ((lobjd ps p.1).filter fun y => !decide ((y, 1 - p.2) ∈ rs)).map (fun y => plcD (y, 1 - p.2)) = (news ps rs p).map plcD := by simp [news]
          rw [en]
          simp [-Bool.exists_bool]
          refine ⟨by rw [szL]; omega, 2 * ns.length + 1 - (j + 1), by omega, j + 1, rs ++ news ps rs p, ⟨by simp, by omega⟩, R', rfl⟩
      · have hjl : j = rs.length := by have := R.le; omega
        subst hjl
        have fin := rInv_end R
        have e1 := inD_plc (a, 1) rs
        have e2 : inD (.tuple [.str a, .int 1]) (rs.map plcD) = decide ((a, 1) ∈ rs) := e1
        simp [-Bool.exists_bool, e2]
        refine ⟨by rw [szL]; omega, shape_plcs rs, ?_⟩
        by_cases h1 : (a, 1) ∈ rs
        · rw [if_pos h1]
          exact ⟨rfl, ns, ps, true, rfl, rfl, by simpa using ⟨a, han, fin.mp h1⟩⟩
        · rw [if_neg h1]
          intro x hx w hw
          rw [take_succ_get ha] at hx
          rcases List.mem_append.mp hx with z | z
          · have := hI x z
            apply Classical.byContradiction
            intro q
            exact this ⟨w, hw, by omega⟩
          · rw [List.mem_singleton] at z
            subst z
            apply Classical.byContradiction
            intro q
            exact h1 (fin.mpr ⟨w, hw, by omega⟩)
    · subst e en
      simp
      refine ⟨rfl, ns, ps, false, rfl, rfl, by simp, fun ⟨x, hx, h⟩ => ?_⟩
      rw [List.take_length] at hI
      exact absurd h (hI x hx)
end
end K21

set_option Elab.async false
set_option linter.all false
set_option maxRecDepth 100000
set_option maxHeartbeats 4000000
/-! K21Z: rings as the law sees them; things once. -/
namespace K21
open PySem PySem.Spec PyProof.Rows L2
theorem isi_LT (t : PD) : isiD t ["list", "tuple"] = (seqOf (.py t)).isSome := by
  cases t <;> simp [isiD, tyName, subTy]
theorem dcnt_full {ws : List Str} : dcnt ws ws.length = ws.length ↔ ws.Nodup := by
  have := dcnt_nd (xs := ws) ws.length (Nat.le_refl _)
  rwa [List.take_length] at this
def sOf : PD → Option Str
  | .str x => some x
  | _ => none
theorem sOf_all {es : List PD} (h : ∀ e ∈ es, ∃ x, e = .str x) : ∃ ws, es = sts ws := by
  induction es with
  | nil => exact ⟨[], rfl⟩
  | cons e es ih =>
    obtain ⟨x, rfl⟩ := h e (by simp)
    obtain ⟨ws, rfl⟩ := ih fun e he => h e (by simp [he])
    exact ⟨x :: ws, rfl⟩
def inNs (ns : List Str) : PD → Bool
  | .str x => decide (x ∈ ns)
  | _ => false
section
variable {P : Program} {w : World} {K : PySem.W.Frag} {mg : Str → Option Value} {base : Heap} {c : Cst}
theorem sc__law_is_ring : FnScope ["_law_names", "_law_pairs", "_law_thing", "_law_at", "_law_one"] ["_law_names", "_law_pairs", "_law_thing"] (defScope (topS 72)) := ⟨rfl, rfl, rfl, by decide +kernel, rfl, by decide +kernel, by decide +kernel⟩
def pre_isr (ds : List DV) (_ : Nat) : Prop := ∃ (ns : List Str) (ps : List (Str × Str)) (t : PD), (∀ es, seqOf (.py t) = some es → es.length ≤ 1000 ∧ ∀ e ∈ es, layD e = true ∧ e.depth ≤ 60) ∧ ds = [.py (.list (sts ns)), .py (.list (ps.map pairD)), .py t]
def post_isr (ds : List DV) (n : Nat) (d : DV) (n' : Nat) : Prop := n' = n ∧ ∃ (ns : List Str) (ps : List (Str × Str)) (t : PD) (b : Bool), ds = [.py (.list (sts ns)), .py (.list (ps.map pairD)), .py t] ∧ d = .py (.bool b) ∧ (b = true ↔ RingP ns ps t)
theorem ok_is_ring (D : DefAt K mg "_law_is_ring" (topS 72)) (B : Bn mg) :
    OkD P w K mg base c "_law_is_ring" ["_law_names", "_law_pairs", "_law_thing"] 1 pre_isr post_isr := by
  refine ok_def D (fun _ _ _ _ _ _ us hl => match us, hl with | [_, _, _], _ => rfl) sc__law_is_ring (fun ds n h => ?_) (fun f cdv A outer s H E hr => ?_)
  · obtain ⟨a, b, _, _, rfl⟩ := h; rfl
  · refine ⟨_, (dss_cons (ds_if (DW.dt (dw_or (dt_not (dt_val (de_isiT (ts := ["list", "tuple"]) rfl B.isinstance (de_v 2 (pv 2)) (.cons (t := "list") (pe_bltn rfl B.list (by decide +kernel) rfl) rfl (by simp [okTy]) (.cons (t := "tuple") (pe_bltn rfl B.tuple (by decide +kernel) rfl) rfl (by simp [okTy]) .nil)) (by decide)))) (dw_or1 (dt_eq (hu64 hr) (de_mod (de_len rfl B.len (de_v 2 (pv 2))) de_int) de_int)))) (dss_one (ds_ret de_bl)) dss_nil) (dss_cons (ds_if (DW.dt (dw_or (dt_not (dt_val (de_all rfl rfl B.all (de_lc (own := [("_law_one", 4)]) (.one 4) rfl sc__law_is_ring.nd (di_seqV 2 (pv 2)) (blkOk_by (N := ["_law_names", "_law_pairs", "_law_thing", "_law_at", "_law_one"]) (sc := defScope (topS 72)) (own := [("_law_one", 4)]) (by decide +kernel)) (fun _ _ _ _ _ => (pg_name (i := 4) sc__law_is_ring.nd rfl (Or.inl rfl))) (fun _ _ _ _ _ => dts_nil) (fun _ _ _ _ _ => (de_and (de_isi (t := "str") rfl B.isinstance (de_v 4 (pv 4)) rfl B.str (by decide +kernel) (by simp [okTy])) (de_one (de_in (hu65 hr) (de_v 4 (pv 4)) (de_v 0 (pv 0)))))))))) (dw_or1 (dt_lt (de_lenD rfl rfl B.len rfl B.set (de_v 2 (pv 2))) (de_len rfl B.len (de_v 2 (pv 2))))))) (dss_one (ds_ret de_bl)) dss_nil) (dss_one (ds_ret (de_all rfl rfl B.all (de_lc (own := [("_law_at", 3)]) (.one 3) rfl sc__law_is_ring.nd (di_rng rfl B.range (de_len rfl B.len (de_v 2 (pv 2)))) (blkOk_by (N := ["_law_names", "_law_pairs", "_law_thing", "_law_at", "_law_one"]) (sc := defScope (topS 72)) (own := [("_law_at", 3)]) (by decide +kernel)) (fun _ _ _ _ _ => (pg_name (i := 3) sc__law_is_ring.nd rfl (Or.inl rfl))) (fun _ _ _ _ _ => dts_nil) (fun _ _ _ _ _ => (de_in (hu65 hr) (de_tup (da_cons (de_ix (de_v 2 (pv 2)) (de_sub (de_v 3 (pv 3)) de_int)) (da_cons (de_ix (de_v 2 (pv 2)) (de_v 3 (pv 3))) da_nil))) (de_v 1 (pv 1)))))))))), fun ds n h => ?_⟩
    obtain ⟨ns, ps, t, ht, rfl⟩ := h
    simp [startD, -Bool.exists_bool, -seqOf, -lenD, lenD_seq, isi_LT]
    have bad : (RingP ns ps t → False) → post_isr [.py (.list (sts ns)), .py (.list (ps.map pairD)), .py t] n (DV.py (PyData.bool false)) n := fun h => ⟨rfl, ns, ps, t, false, rfl, rfl, by simpa using h⟩
    cases hs : seqOf (.py t) with
    | none =>
      simp
      refine bad fun ⟨ws, h1, _⟩ => ?_
      rcases h1 with rfl | rfl <;> simp at hs
    | some es =>
      obtain ⟨hl, hz⟩ := ht es hs
      have rg : RingP ns ps t → es.length % 2 = 1 ∧ ∃ ws, es = sts ws ∧ ws.Nodup ∧ (∀ x ∈ ws, x ∈ ns) ∧ cyc ps ws := ring_good (D := ⟨ns, ps⟩) hs
      simp [-Bool.exists_bool]
      by_cases hodd : es.length % 2 = 1
      · have e0 : (PyData.int ((es.length : Int) % 2)).eqv (.int 0) = false := by
          have : ((es.length : Int) % 2) = 1 := by omega
          rw [this]; decide +kernel
        rw [e0]
        simp [-Bool.exists_bool]
        refine lcta es id (fun e => .bool (inNs ns e)) (fun K h => ⟨t, es, rfl, hs, by simpa using h⟩) (by simp) (by rw [szL]; omega) rfl (fun e he K hK => ?_) ?_
        · simp [-Bool.exists_bool]
          cases q : isiD e ["str"] with
          | false =>
            have : inNs ns e = false := by
              cases e <;> simp [isiD, subTy, tyName] at q <;> rfl
            rw [this] at hK
            simpa using hK
          | true =>
            obtain ⟨z, rfl⟩ := isi_str q
            simp
            simpa [inNs] using hK
        · refine ⟨es.map _, by rw [mapB], ?_⟩
          by_cases hm : false ∈ es.map (inNs ns)
          · rw [if_pos hm]
            refine bad fun hr => ?_
            obtain ⟨_, ws, rfl, _, h3, _⟩ := rg hr
            obtain ⟨e, he, q⟩ := List.mem_map.mp hm
            obtain ⟨x, hx, rfl⟩ := mem_sts.mp he
            simp [inNs, h3 x hx] at q
          · rw [if_neg hm]
            have q : ∀ e ∈ es, inNs ns e = true := fun e he => by
              cases z : inNs ns e with
              | true => rfl
              | false => exact absurd (List.mem_map.mpr ⟨e, he, z⟩) hm
            obtain ⟨ws, rfl⟩ := sOf_all (es := es) fun e he => by
              have := q e he
              cases e <;> simp [inNs] at this
              exact ⟨_, rfl⟩
            have k3 : ∀ x ∈ ws, x ∈ ns := fun x hx => by
              have := q (.str x) (mem_sts.mpr ⟨x, hx, rfl⟩)
              simpa [inNs] using this
            have hl2 : ws.length ≤ 1000 := by rw [show (sts ws).length = ws.length by simp] at hl; exact hl
            have cle := dcnt_le ws ws.length
            have hs' : (match DV.py t with
              | .py (.list ds) => some ds
              | .py (.tuple ds) => some ds
              | _ => none) = some (sts ws) := hs
            refine ⟨_, rfl, ws, hs, by omega, _, rfl, ws.length, ⟨sts ws, hs, by simp⟩, ?_⟩
            by_cases hd : dcnt ws ws.length < ws.length
            · have : decide ((dcnt ws ws.length : Int) < (ws.length : Nat)) = true := by simp; omega
              simp [hd]
              refine bad fun hr => ?_
              obtain ⟨_, vs, e, h2, _⟩ := rg hr
              have := sts_inj e
              subst this
              have := dcnt_full.mpr h2
              omega
            · have k2 : ws.Nodup := dcnt_full.mp (by omega)
              simp [-Bool.exists_bool, hd]
              have prev : ∀ i, i < ws.length → ∃ x, L2.atI ws ((i : Int) - 1) = some x := fun i hi => by
                cases i with
                | zero => exact ⟨ws[ws.length - 1], by rw [show ((0 : Nat) : Int) - 1 = -1 by omega, atI_last (by omega)]; exact List.getElem?_eq_getElem (by omega)⟩
                | succ i => exact ⟨ws[i], by rw [show ((i + 1 : Nat) : Int) - 1 = (i : Int) by omega]; exact atI_nat (List.getElem?_eq_getElem (by omega))⟩
              refine lcta (List.range ws.length) (fun i => .int (i : Nat)) (fun i => .bool (decide (((L2.atI ws ((i : Int) - 1)).getD "", ws.getD i "") ∈ ps))) (fun K h => ?_) (by simp) (by rw [List.length_range, szL]; omega) rfl (fun i hi K hK => ?_) ?_
              · have e3 : rngD ((ws.length : Int)).toNat = (List.range ws.length).map fun i => .int (i : Nat) := by simp [rngD]
                simp [-seqOf, -lenD, lenD_seq, hs]
                exact ⟨by omega, h⟩
              · have hi' : i < ws.length := by simpa using hi
                obtain ⟨x, hx⟩ := prev i hi'
                have e1 : L2.atI (sts ws) (i : Int) = some (.str ws[i]) := atI_nat (by simp [sts, hi'])
                have e2 : ws.getD i "" = ws[i] := by simp [List.getD, hi']
                have e3 : L2.atI (sts ws) ((i : Int) - 1) = some (.str x) := by
                  unfold L2.atI at hx ⊢
                  rw [show (sts ws).length = ws.length by simp]
                  cases q : ixN ws.length ((i : Int) - 1) with
                  | none => rw [q] at hx; cases hx
                  | some j =>
                    rw [q] at hx
                    have hx' : ws[j]? = some x := hx
                    show (sts ws)[j]? = _
                    simp [sts, hx']
                rw [e2, hx] at hK
                have e4 : inD (.tuple [.str x, .str ws[i]]) (ps.map pairD) = decide ((x, ws[i]) ∈ ps) := inD_pairs (x, ws[i]) ps
                simp [-Bool.exists_bool, -seqOf]
                exact ⟨_, hs, _, e3, _, hs, _, e1, by rw [szL]; omega, shape_tup2 _ _, by rw [e4]; exact hK⟩
              · refine ⟨(List.range ws.length).map _, by rw [mapB], ?_⟩
                rw [all_dec]
                refine ⟨rfl, ns, ps, t, _, rfl, rfl, ?_⟩
                rw [List.all_eq_true]
                have h2 : ws.length % 2 = 1 := by simpa using hodd
                refine ⟨fun h => good_ring (D := ⟨ns, ps⟩) hs h2 k2 k3 fun i x y hy hx => ?_, fun h i hi => ?_⟩
                · have hi : i < ws.length := (List.getElem?_eq_some_iff.mp hy).1
                  have := h i (by simpa using hi)
                  rw [hx] at this
                  simpa [List.getD, hy] using this
                · have hi' : i < ws.length := by simpa using hi
                  obtain ⟨_, vs, e, _, _, hc⟩ := rg h
                  have := sts_inj e
                  subst this
                  obtain ⟨x, hx⟩ := prev i hi'
                  have e2 : ws[i]? = some ws[i] := List.getElem?_eq_getElem hi'
                  have := hc i x ws[i] e2 hx
                  rw [hx]
                  simpa [List.getD, e2] using this
      · have e0 : (PyData.int ((es.length : Int) % 2)).eqv (.int 0) = true := by
          have : ((es.length : Int) % 2) = 0 := by omega
          rw [this]; decide +kernel
        rw [e0]
        simp
        exact bad fun h => hodd (rg h).1
theorem sc__law_each_once : FnScope ["_law_things_here", "_law_found", "_law_thing"] ["_law_things_here"] (defScope (topS 55)) := ⟨rfl, rfl, rfl, by decide +kernel, rfl, by decide +kernel, by decide +kernel⟩
def onceP (ps : List (Str × Str)) : List (Str × Str) := ps.foldl (fun acc p => if p ∈ acc then acc else acc ++ [p]) []
theorem onceP_snoc (ps : List (Str × Str)) (p : Str × Str) : onceP (ps ++ [p]) = if p ∈ onceP ps then onceP ps else onceP ps ++ [p] := by
  unfold onceP
  rw [List.foldl_append]
  rfl
theorem onceP_ok : ∀ (k : Nat) (ps : List (Str × Str)), ps.length = k → (onceP ps).Nodup ∧ (onceP ps).length ≤ k ∧ ∀ p, p ∈ onceP ps ↔ p ∈ ps
  | 0, ps, h => by
    have : ps = [] := List.length_eq_zero_iff.mp h
    subst this
    simp [onceP]
  | k + 1, ps, h => by
    obtain ⟨xs, x, rfl⟩ : ∃ xs x, ps = xs ++ [x] := ⟨ps.dropLast, ps.getLast (by intro z; rw [z] at h; cases h), (List.dropLast_concat_getLast _).symm⟩
    obtain ⟨i1, i2, i3⟩ := onceP_ok k xs (by simpa using h)
    rw [onceP_snoc]
    split
    · rename_i hx
      refine ⟨i1, by omega, fun p => ?_⟩
      rw [i3 p]
      constructor
      · intro z; simp [z]
      · intro z
        rcases List.mem_append.mp z with z | z
        · exact z
        · rw [List.mem_singleton.mp z]; exact (i3 x).mp hx
    · rename_i hx
      refine ⟨?_, by rw [List.length_append, List.length_singleton]; omega, fun p => by simp [i3 p]⟩
      rw [List.nodup_append]
      refine ⟨i1, by simp, fun a ha b hb => ?_⟩
      rw [List.mem_singleton.mp hb]
      intro z
      exact hx (z ▸ ha)
def pre_ps (ds : List DV) (_ : Nat) : Prop := ∃ (ps : List (Str × Str)), ps.length ≤ 4096 ∧ ds = [.py (.list (ps.map pairD))]
@[simp] def f_each_once : List DV → DV
  | [.py (.list p)] => .py (.list ((onceP (unP p)).map pairD))
  | _ => .py .none
theorem ok_each_once (D : DefAt K mg "_law_each_once" (topS 55)) (B : Bn mg) : OkD P w K mg base c "_law_each_once" ["_law_things_here"] 1 pre_ps (pv1 f_each_once) := by
  refine ok_def D (fun _ _ _ _ _ _ us hl => match us, hl with | [_], _ => rfl) sc__law_each_once (fun ds n h => ?_) (fun f cdv A outer s H E hr => ?_)
  · obtain ⟨a, _, rfl⟩ := h; rfl
  · refine ⟨_, (dss_cons (ds_newL (i := 1) sc__law_each_once.nd rfl (Or.inl rfl) da_nil) (dss_cons (ds_for (.one 2) PassesOwn.never rfl (di_lst (de_v 0 (pv 0))) (pg_name (i := 2) sc__law_each_once.nd rfl (Or.inl rfl)) (dss_one (ds_if (dt_notInM 1 (hu65 hr) (de_v 2 (pv 2)) (pv 1)) (dss_one (ds_expr (de_append 1 (pv 1) (de_v 2 (pv 2))))) dss_nil))) (dss_one (ds_ret (de_frz 1 (pv 1)))))), fun ds n h => ?_⟩
    obtain ⟨ps, hl, rfl⟩ := h
    simp [startD, pv1, -Bool.exists_bool]
    refine for_t ps pairD (fun k r n' => (∃ a, r = [some (.dat (.py (.list (ps.map pairD)))), some (.mu (.lst ((onceP (ps.take k)).map pairD))), a]) ∧ n' = n) (fun K h => by simp; exact h) ⟨⟨_, rfl⟩, rfl⟩ (fun k x r n' hx ⟨⟨a, e⟩, en⟩ => ?_) (fun r n' ⟨⟨a, e⟩, en⟩ => ?_)
    · subst e en
      have hlt : k < ps.length := (List.getElem?_eq_some_iff.mp hx).1
      have lo := (onceP_ok _ (ps.take k) rfl).2.1
      rw [List.length_take] at lo
      simp [-Bool.exists_bool]
      rw [inD_pairs]
      rw [take_succ_get hx, onceP_snoc]
      by_cases h1 : x ∈ onceP (ps.take k)
      · simp [h1]
      · simp [h1]
        rw [szL]; omega
    · subst e en
      simp
end
end K21

set_option Elab.async false
set_option linter.all false
set_option maxRecDepth 100000
set_option maxHeartbeats 4000000
/-! K21D2: {k: v for a in xs for b in ys}, no tests. -/
namespace K21
open PySem PySem.Spec PyProof.Rows L2
abbrev dc2 (kx vx t0 i0 t1 i1 : Expr) (scope : Scope) (pos : Pos) : Expr := .DictComp kx vx [⟨t0, i0, [], 0⟩, ⟨t1, i1, [], 0⟩] scope pos
theorem turn2_first (kx vx t0 i0 t1 i1 : Expr) (scope : Scope) (pos : Pos) (it acc : Value) (env : Env) : compTurn (dc2 kx vx t0 i0 t1 i1 scope pos) 0 it acc env = (do
    standAt i0.pos
    match ← pyNext it with
    | none => pure (.done .next)
    | some a =>
      letOwnedTupleGo t0 it a
      assign t0 env a
      let ys ← eval i1 env
      standAt i1.pos
      let ys ← foldedSetIterable i1 env ys
      let _ ← runOwn (.compStart (dc2 kx vx t0 i0 t1 i1 scope pos) 1 (← holding [ys] (pyIter ys)) acc env) env
      again (.compLoop (dc2 kx vx t0 i0 t1 i1 scope pos) 0 it acc env)) := by rfl
theorem turn2_next (kx vx t0 i0 t1 i1 : Expr) (scope : Scope) (pos : Pos) (it : Value) (D : Addr) (env : Env) : compTurn (dc2 kx vx t0 i0 t1 i1 scope pos) 1 it (.ref D) env = (do
    standAt i1.pos
    match ← pyNext it with
    | none => pure (.done .next)
    | some b =>
      letOwnedTupleGo t1 it b
      assign t1 env b
      (do
        let k ← eval kx env
        let y ← holding [k] (eval vx env)
        standAt { kx.pos with endLine := vx.pos.endLine, endCol := vx.pos.endCol }
        holding [k, y] (dictSet D k y))
      again (.compLoop (dc2 kx vx t0 i0 t1 i1 scope pos) 1 it (.ref D) env)) := by rfl
section
variable {P : Program} {w : World} {A : Around} {R : Result → Shared → Prop} {s : Shared} {kx vx t0 i0 t1 i1 : Expr} {scope : Scope} {pos : Pos} {it acc : Value} {D : Addr} {env : Env}
abbrev errR (P : Program) (w : World) (A : Around) (env : Env) (R : Result → Shared → Prop) : Value → Shared → Prop := notedBy (model P w) A env fun e z => R (.error e) z
theorem loop2_first (fold : ∀ x, foldedSetIterable i1 env x = pure x) (I : Nat → Shared → Prop)
    (turn : ∀ n u, I n u → wpAny (model P w) A (pyNext it) (fun o u1 => match o with
      | none => R (.ok .next) u1
      | some a => wpAny (model P w) A (letOwnedTupleGo t0 it a) (fun _ u2 => wpAny (model P w) A (assign t0 env a) (fun _ u3 => wpAny (model P w) A (eval i1 env) (fun x u4 => wpAny (model P w) A (pyIter x) (fun jt u5 =>
          codeAny (model P w) A (.compStart (dc2 kx vx t0 i0 t1 i1 scope pos) 1 jt acc env) (fun q u6 => match q with
            | .ok _ => ∃ m, m < n ∧ I m u6
            | .error _ => False) u5) (errR P w A env R) u4) (errR P w A env R) u3) (errR P w A env R) u2) (errR P w A env R) u1) (errR P w A env R) u)
    (n : Nat) (h : I n s) : codeAny (model P w) A (.compLoop (dc2 kx vx t0 i0 t1 i1 scope pos) 0 it acc env) R s := by
  refine codeAny_loop rfl I (fun n u hI => ?_) n h
  show wpAny _ A ((compTurn (dc2 kx vx t0 i0 t1 i1 scope pos) 0 it acc env).onRaise (fun x => do noteFrame x env; theTreesLotGoes x)) _ _ u
  refine wpAny_noted ?_
  rw [turn2_first]
  refine wpAny_bind (wpAny_standAt (wpAny_bind (wpAny_mono (turn n u hI) (fun o u1 k1 => ?_) fun _ _ e => e)))
  cases o with
  | none => exact wpAny_pure k1
  | some a =>
    refine wpAny_bind (wpAny_mono k1 (fun _ u2 k2 => wpAny_bind (wpAny_mono k2 (fun _ u3 k3 => ?_) fun _ _ e => e)) fun _ _ e => e)
    refine wpAny_bind (wpAny_mono k3 (fun x u4 k4 => wpAny_bind (wpAny_standAt (wpAny_bind (wpAny_of_eq (fold x) (wpAny_bind (wpAny_holding (wpAny_mono k4 (fun jt u5 k5 => ?_) fun _ _ e => e))))))) fun _ _ e => e)
    refine wpAny_bind (wpAny_runOwn ?_)
    rw [Around.mark_none]
    refine codeAny_mono k5 fun q u6 hq => ?_
    cases q with
    | ok f => exact wpAny_pure ⟨rfl, hq⟩
    | error e => exact hq.elim
theorem loop2_next (I : Nat → Shared → Prop)
    (turn : ∀ n u, I n u → wpAny (model P w) A (pyNext it) (fun o u1 => match o with
      | none => R (.ok .next) u1
      | some b => wpAny (model P w) A (letOwnedTupleGo t1 it b) (fun _ u2 => wpAny (model P w) A (assign t1 env b) (fun _ u3 => wpAny (model P w) A (eval kx env) (fun k u4 => wpAny (model P w) A (eval vx env) (fun y u5 =>
          wpAny (model P w) A (dictSet D k y) (fun _ u6 => ∃ m, m < n ∧ I m u6) (errR P w A env R) u5) (errR P w A env R) u4) (errR P w A env R) u3) (errR P w A env R) u2) (errR P w A env R) u1) (errR P w A env R) u)
    (n : Nat) (h : I n s) : codeAny (model P w) A (.compLoop (dc2 kx vx t0 i0 t1 i1 scope pos) 1 it (.ref D) env) R s := by
  refine codeAny_loop rfl I (fun n u hI => ?_) n h
  show wpAny _ A ((compTurn (dc2 kx vx t0 i0 t1 i1 scope pos) 1 it (.ref D) env).onRaise (fun x => do noteFrame x env; theTreesLotGoes x)) _ _ u
  refine wpAny_noted ?_
  rw [turn2_next]
  refine wpAny_bind (wpAny_standAt (wpAny_bind (wpAny_mono (turn n u hI) (fun o u1 k1 => ?_) fun _ _ e => e)))
  cases o with
  | none => exact wpAny_pure k1
  | some b =>
    refine wpAny_bind (wpAny_mono k1 (fun _ u2 k2 => wpAny_bind (wpAny_mono k2 (fun _ u3 k3 => ?_) fun _ _ e => e)) fun _ _ e => e)
    exact wpAny_bind (wpAny_bind (wpAny_mono k3 (fun k u4 k4 => wpAny_bind (wpAny_holding (wpAny_mono k4 (fun y u5 k5 => wpAny_bind (wpAny_standAt (wpAny_holding (wpAny_mono k5 (fun _ u6 k6 => wpAny_pure ⟨rfl, k6⟩) fun _ _ e => e)))) fun _ _ e => e))) fun _ _ e => e))
theorem start2_next (h0 : codeAny (model P w) A (.compLoop (dc2 kx vx t0 i0 t1 i1 scope pos) 1 it acc env) R s)
    (h : wpAny (model P w) A (pyIter it) (fun jt u => codeAny (model P w) A (.compLoop (dc2 kx vx t0 i0 t1 i1 scope pos) 1 jt acc env) R u) (errR P w A env R) s) :
    codeAny (model P w) A (.compStart (dc2 kx vx t0 i0 t1 i1 scope pos) 1 it acc env) R s := by
  refine codeAny_of_tree ?_
  show wpAny _ _ ((compStart (dc2 kx vx t0 i0 t1 i1 scope pos) 1 it acc env).onRaise (fun x => do noteFrame x env; standAt theWindowsPlace)) _ _ s
  refine wpAny_notedAt ?_
  unfold compStart
  show wpAny _ _ (ask >>= _) _ _ s
  refine wpAny_bind (wpAny_askSetting (wpAny_ite ?_))
  split
  · first
      | exact wpAny_bind (wpAny_pure (wpAny_pure ⟨rfl, h0⟩))
      | exact wpAny_pure ⟨rfl, h0⟩
  · first
      | exact wpAny_bind (wpAny_rule (wpAny_bind (wpAny_standAt (wpAny_bind (wpAny_mono h (fun jt u k => wpAny_pure ⟨rfl, k⟩) fun _ _ e => e)))))
      | (refine wpAny_bind (wpAny_rule ?_); show wpAny _ _ (standAt i1.pos >>= _) _ _ s; exact wpAny_bind (wpAny_standAt (wpAny_bind (wpAny_mono h (fun jt u k => wpAny_pure ⟨rfl, k⟩) fun _ _ e => e))))
theorem start2_first (h0 : codeAny (model P w) A (.compLoop (dc2 kx vx t0 i0 t1 i1 scope pos) 0 it acc env) R s)
    (h : wpAny (model P w) A (pyIter it) (fun jt u => codeAny (model P w) A (.compLoop (dc2 kx vx t0 i0 t1 i1 scope pos) 0 jt acc env) R u) (errR P w A env R) s) :
    codeAny (model P w) A (.compStart (dc2 kx vx t0 i0 t1 i1 scope pos) 0 it acc env) R s := by
  refine codeAny_of_tree ?_
  show wpAny _ _ ((compStart (dc2 kx vx t0 i0 t1 i1 scope pos) 0 it acc env).onRaise (fun x => do noteFrame x env; standAt theWindowsPlace)) _ _ s
  refine wpAny_notedAt ?_
  unfold compStart
  show wpAny _ _ (ask >>= _) _ _ s
  refine wpAny_bind (wpAny_askSetting (wpAny_ite ?_))
  split
  · first
      | exact wpAny_bind (wpAny_pure (wpAny_pure ⟨rfl, h0⟩))
      | exact wpAny_pure ⟨rfl, h0⟩
  · first
      | exact wpAny_bind (wpAny_rule (wpAny_bind (wpAny_standAt (wpAny_bind (wpAny_mono h (fun jt u k => wpAny_pure ⟨rfl, k⟩) fun _ _ e => e)))))
      | (refine wpAny_bind (wpAny_rule ?_); show wpAny _ _ (standAt i0.pos >>= _) _ _ s; exact wpAny_bind (wpAny_standAt (wpAny_bind (wpAny_mono h (fun jt u k => wpAny_pure ⟨rfl, k⟩) fun _ _ e => e))))
end
/-- behind the first store the second source's own loop, from which Nx is reached -/
def tDc2 (wi : TI) (g : TG) (wi1 : TI) (g1 : TG) (tk tv : TE) (vs vs1 : List Nat) : TE := fun σ H Q => wi σ H fun J H1 => ∀ D, H1 D = none → ∃ W : Nat → Nat → Hp → Prop, (∃ m, W 0 m (upd H1 D (.dK []))) ∧ ∀ i m H, W i m H →
  (J.stop i H ∧ Q (.ref D) H) ∨ (J.go i H ∧ ∃ Nx : Hp → Prop, (∀ G, Nx G → ∃ m', m' < m ∧ W (i + 1) m' G) ∧ ∀ x G, J.yld i H x G → g x (wipe σ vs) G fun σ2 H2 => wipe σ2 vs = wipe σ vs ∧ wi1 σ2 H2 fun J1 H4 => ∃ W1 : Nat → Nat → Hp → Prop, (∃ m, W1 0 m H4) ∧ ∀ j k H, W1 j k H →
      (J1.stop j H ∧ Nx H) ∨ (J1.go j H ∧ ∃ Nx1 : Hp → Prop, (∀ G, Nx1 G → ∃ k', k' < k ∧ W1 (j + 1) k' G) ∧ ∀ x G, J1.yld j H x G → g1 x (wipe σ2 vs1) G fun σ3 H5 => wipe σ3 vs1 = wipe σ2 vs1 ∧
        tk σ3 H5 fun y H6 => tv σ3 H6 fun z H7 => ∃ kvs k, y = kV k ∧ H7 D = some (.dK kvs) ∧ kvs.length < sizeLine ∧ Nx1 (upd H7 D (.dK (putK kvs k z)))))
section
variable {X : Cx}
abbrev Blk (X : Cx) (scope : Scope) (K : Cx → Prop) : Prop := ∀ (s : Shared) (H : Hp) (C : Addr) (cl : List (Str × Addr)) (fp : List Addr), K (X.blk s H scope (compEnvC scope cl C X.env) fp)
theorem pe_dc2 {kx vx t0 i0 t1 i1 : Expr} {scope : Scope} {own : List (Str × Nat)} {vs1 : List Nat} {pos : Pos} {wi wi1 : TI} {g g1 : TG} {tk tv : TE} (calm : X.calm = true) (hN : X.N.Nodup) (src : PI X t0 i0 wi) (ok : BlkOk X.N X.env.scope scope own) (sub : ∀ i ∈ vs1, i ∈ own.map (·.2))
    (b1 : Blk X scope fun Y => PG Y t0 g) (b2 : Blk X scope fun Y => PI Y t1 i1 wi1) (b3 : Blk X scope fun Y => PG Y t1 g1) (b4 : Blk X scope fun Y => PE Y kx tk) (b5 : Blk X scope fun Y => PE Y vx tv)
    (fold : ∀ x, foldedSetIterable i0 X.env x = pure x := by intro _; rfl) (fold1 : ∀ env x, foldedSetIterable i1 env x = pure x := by intro _ _; rfl) : PE X (dc2 kx vx t0 i0 t1 i1 scope pos) (tDc2 wi g wi1 g1 tk tv (own.map (·.2)) vs1) := by
  refine ⟨fun pins s σ H Q I h => ?_⟩
  rw [arm_eval_DictComp]
  have free : ∀ y ∈ scope.names, y.2 = .free → ∃ c, X.env.cells.lookup y.1 = some c := fun y hy e => (ok.free y hy e).elim (fun z => I.ok.has _ (.inl z)) fun z => I.ok.has _ (.inr z)
  refine wpAny_comprehension_free (use := none) rfl fold (closure_ok free) ok.kind (fun y hy e => by rw [ok.uniq y hy, e]) (thn (src.run pins s σ H _ I h) fun xv u1 hx => thn hx fun itv u2 k2 => ?_)
  obtain ⟨it, fp, tn, J, G2, rfl, J2, TT, q2, f2, q⟩ := k2
  refine wpAny_newObj_type (newEnv_comp ?_)
  generalize eD : u2.heap.objs.size = D
  have nD : G2 D = none := J2.hok.fresh (Nat.le_of_eq eD)
  obtain ⟨W, ⟨m0, w0⟩, turn⟩ := q D nD
  generalize e3 : ({ u2 with heap := u2.heap.push { cls := .type "dict", data := .dict #[] } } : Shared) = u3
  have hp3 : u3.heap = u2.heap.push { cls := .type "dict", data := .dict #[] } := by rw [← e3]
  have J3 : Inv X pins σ (upd G2 D (.dK [])) u3 := by
    rw [← e3]
    refine J2.laid (t' := u2.toks) (fun b o z => Heap.get?_push_of_some _ z) (Nat.le_of_eq eD) ?_
    rw [← eD]
    exact dk_empty u2.heap J2.big
  have f3 : ∀ b ∈ fp, FpOk X pins (upd G2 D (.dK [])) b ∧ b < u3.heap.objs.size := fun b hb => by
    obtain ⟨o, z, _⟩ := TT.obj _ _ q2 b hb
    have below : b < u2.heap.objs.size := Heap.lt_size z
    refine ⟨⟨?_, (f2 b hb).2⟩, by rw [hp3, Heap.size_push]; exact Nat.lt_succ_of_lt below⟩
    rw [upd_ne (show b ≠ D by rw [← eD]; exact Nat.ne_of_lt below)]
    exact (f2 b hb).1
  have q3 : tn 0 u3.heap := TT.keep _ _ _ q2 fun b _ o z => by rw [hp3]; exact Heap.get?_push_of_some _ z
  have J4 := block_start J3 ok hN f3
  generalize ecl : cellsFrom (u3.heap.objs.size + 1) scope.names (cloFrom X.env.cells scope.names []) = cl at J4
  have p1 := b1 u3 (upd G2 D (.dK [])) u3.heap.objs.size cl fp
  have p2 := b2 u3 (upd G2 D (.dK [])) u3.heap.objs.size cl fp
  have p3 := b3 u3 (upd G2 D (.dK [])) u3.heap.objs.size cl fp
  have p4 := b4 u3 (upd G2 D (.dK [])) u3.heap.objs.size cl fp
  have p5 := b5 u3 (upd G2 D (.dK [])) u3.heap.objs.size cl fp
  show codeAny _ _ (.compStart (dc2 kx vx t0 i0 t1 i1 scope pos) 0 (.ref it) (.ref D) (compEnvC scope cl u3.heap.objs.size X.env)) (compPost (model X.prog X.w) X.A X.xe none (EP X pins σ Q) (.ref D) u3.heap.objs.size) { u3 with heap := pushCells (u3.heap.push { cls := .type "dict", data := .dict #[] }) scope.names }
  have gone : ∀ b ∈ fp, (upd G2 D (.dK [])) b = none := fun b hb => (f3 b hb).1.1
  generalize ece : compEnvC scope cl u3.heap.objs.size X.env = ce at J4 p1 p2 p3 p4 p5 ⊢
  have eL : ce.locals = u3.heap.objs.size := by subst ece; rfl
  generalize eG : upd G2 D (.dK []) = G3 at J3 J4 p1 p2 p3 p4 p5 w0 gone f3
  generalize e4 : ({ u3 with heap := pushCells (u3.heap.push { cls := .type "dict", data := .dict #[] }) scope.names } : Shared) = u4 at J4 ⊢
  have q4 : tn 0 u4.heap := TT.keep _ _ _ q3 fun b _ o z => by rw [← e4]; exact pushCells_keeps _ _ _ _ (Heap.get?_push_of_some _ z)
  have fpk : ∀ {σa : L2.St} {Ga : Hp} {ua : Shared}, Inv (X.blk u3 G3 scope ce fp) [] σa Ga ua → (∀ b ∈ fp, Ga b = none) → ∀ b ∈ fp, FpOk (X.blk u3 G3 scope ce fp) [] Ga b := fun {σa Ga ua} Ia na b hb =>
    ⟨na b hb, (Ia.ok.exf b hb).1, Ia.ok.exfs b hb, .inl hb, fun x c e => (Ia.ok.exf b hb).2 x c e, fun p hp => absurd (show p ∈ ([] : List (Addr × Obj)) ++ [] from hp) (by simp)⟩
  let Turn : Nat → Shared → Prop := fun n u => ∃ i G, Inv (X.blk u3 G3 scope ce fp) [] (wipe σ (own.map (·.2))) G u ∧ tn i u.heap ∧ (∀ b ∈ fp, G b = none) ∧ W i n G
  have loop : codeAny (model X.prog X.w) X.A (.compLoop (dc2 kx vx t0 i0 t1 i1 scope pos) 0 (.ref it) (.ref D) ce) (compPost (model X.prog X.w) X.A X.xe none (EP X pins σ Q) (.ref D) u3.heap.objs.size) u4 := by
    refine loop2_first (fold1 ce) Turn ?_ m0 ⟨0, G3, J4, q4, gone, w0⟩
    rintro n u5 ⟨i, G5, J5, q5, n5, w5⟩
    rcases turn i n G5 w5 with ⟨stop, qq⟩ | ⟨go, Nx, hNx, step⟩
    · refine thnF (TT.done (X.blk u3 G3 scope ce fp) rfl rfl rfl calm i [] u5 _ G5 (fun _ _ => False) J5 (fpk J5 n5) q5 stop) fun o u6 ⟨ho, J6⟩ => ?_
      subst ho
      have J7 : Inv X pins σ G5 u6 := J3.call' (ch := fp) J6.os J6.base J6.hok J6.bare fun b hb => ⟨(f3 b hb).1.2.2.2.1, (f3 b hb).1.2.1, (f3 b hb).1.2.2.2.2.1, (f3 b hb).1.2.2.2.2.2⟩
      have nC : G5 u3.heap.objs.size = none := by rw [← eL]; exact J6.free
      obtain ⟨m, hn, _⟩ := J6.loc
      have hn' : u6.heap.Ns u3.heap.objs.size m := by rw [← eL]; exact hn
      obtain ⟨g0, g1, g2, g3, g4, g5⟩ := J3.fpOk (b := u3.heap.objs.size) (Nat.le_refl _) nC
      exact ⟨m, hn', fun h2 sb => ⟨.ref D, G5, J7.turned (t' := u6.toks) (fun b o hb z => (sb.2 b hb).trans z) g0 g1 g3 g4 g5, rfl, qq⟩⟩
    · refine thnF (TT.item (X.blk u3 G3 scope ce fp) rfl rfl rfl calm i [] u5 _ G5 (fun _ _ => False) J5 (fpk J5 n5) q5 go) fun o u6 ⟨a, ho, k6⟩ => ?_
      subst ho
      refine thnF k6 fun _ u7 ⟨x, G7, J7, r7, y7, q7, n7⟩ => ?_
      have K7 := J7.pinned (fpk J7 n7) (TT.obj _ _ q7)
      refine thnF (p1.run _ u7 _ G7 x a _ K7 r7 (step x G7 y7)) fun _ u8 ⟨σ8, G8, J8, e8, k8⟩ => ?_
      have base : ∀ {σ9 : L2.St} {u9 : Shared} {G9 : Hp}, Inv (X.blk u3 G3 scope ce fp) ([] ++ pinsAt fp u7.heap) σ9 G9 u9 → (wipe σ (own.map (·.2))).length = σ9.length → (∀ (j : Nat) v, (wipe σ (own.map (·.2)))[j]? = some (some v) → σ9[j]? = some (some v)) → Nx G9 → ∃ m, m < n ∧ Turn m u9 := fun {σ9 u9 G9} J9 len keep nx => by
        obtain ⟨m', hm, w'⟩ := hNx G9 nx
        have pin : ∀ b ∈ fp, ∀ o, u7.heap.get? b = some o → u9.heap.get? b = some o ∧ G9 b = none := fun b hb o z =>
          let y := J9.pin (b, o) (List.mem_append_right _ (List.mem_append_right _ (mem_pinsAt hb z)))
          ⟨y.1, y.2.1⟩
        refine ⟨m', hm, i + 1, G9, (J9.unpinned (pins := [])).weak len keep, TT.keep _ _ _ q7 fun b hb o z => (pin b hb o z).1, fun b hb => ?_, w'⟩
        obtain ⟨o, z, _⟩ := TT.obj _ _ q7 b hb
        exact (pin b hb o z).2
      have l8 : (wipe σ (own.map (·.2))).length = σ8.length := by rw [← e8, wipe_length]
      have k9 : ∀ (j : Nat) v, (wipe σ (own.map (·.2)))[j]? = some (some v) → (wipe σ8 vs1)[j]? = some (some v) := fun j v z => by
        rw [← e8] at z
        obtain ⟨z1, z2⟩ := wipe_some z
        rw [L2.wipe_out fun y => z2 (sub j y)]
        exact z1
      refine thnF (p2.run _ u8 σ8 G8 _ J8 k8) fun yv u10 hy => thnF hy fun jv u11 k11 => ?_
      obtain ⟨jt, fq, tq, JJ, G11, rfl, J11, T1, q11, f11, W1, ⟨m1, w1⟩, turn1⟩ := k11
      have fqk : ∀ {Ga : Hp}, (∀ b ∈ fq, Ga b = none) → ∀ b ∈ fq, FpOk (X.blk u3 G3 scope ce fp) ([] ++ pinsAt fp u7.heap) Ga b := fun na b hb => ⟨na b hb, (f11 b hb).2⟩
      have loop1 : codeAny (model X.prog X.w) X.A (.compLoop (dc2 kx vx t0 i0 t1 i1 scope pos) 1 (.ref jt) (.ref D) ce) (fun q u => match q with
          | .ok _ => ∃ m, m < n ∧ Turn m u
          | .error _ => False) u11 := by
        refine loop2_next (fun k u => ∃ j G, Inv (X.blk u3 G3 scope ce fp) ([] ++ pinsAt fp u7.heap) (wipe σ8 vs1) G u ∧ tq j u.heap ∧ (∀ b ∈ fq, G b = none) ∧ W1 j k G) ?_ m1 ⟨0, G11, J11.weak (wipe_length _ _) (fun j v z => (wipe_some z).1), q11, fun b hb => (f11 b hb).1, w1⟩
        rintro k u12 ⟨j, G12, J12, q12, n12, w12⟩
        rcases turn1 j k G12 w12 with ⟨stop1, nx1⟩ | ⟨go1, Nx1, hNx1, step1⟩
        · refine thnF (T1.done (X.blk u3 G3 scope ce fp) rfl rfl rfl calm j _ u12 (wipe σ8 vs1) G12 (fun _ _ => False) J12 (fqk n12) q12 stop1) fun o u13 ⟨ho, J13⟩ => ?_
          subst ho
          exact base J13 (l8.trans (wipe_length σ8 vs1).symm) k9 nx1
        · refine thnF (T1.item (X.blk u3 G3 scope ce fp) rfl rfl rfl calm j _ u12 (wipe σ8 vs1) G12 (fun _ _ => False) J12 (fqk n12) q12 go1) fun o u13 ⟨b, ho, k13⟩ => ?_
          subst ho
          refine thnF k13 fun _ u14 ⟨x1, G14, J14, r14, y14, q14, n14⟩ => ?_
          have K14 := J14.pinned (fqk n14) (T1.obj _ _ q14)
          refine thnF (p3.run _ u14 (wipe σ8 vs1) G14 x1 b _ K14 r14 (step1 x1 G14 y14)) fun _ u15 ⟨σ15, G15, J15, e15, k15⟩ => ?_
          refine thnF (p4.run _ u15 σ15 G15 _ J15 k15) fun kv u16 ⟨ky, G16, J16, r16, k16⟩ => ?_
          refine thnF (p5.run _ u16 σ15 G16 _ J16 k16) fun vv u17 ⟨vy, G17, J17, r17, kvs, kk, ek, hD, room, nx⟩ => ?_
          subst ek
          refine d_dictSet (X := X.blk u3 G3 scope ce fp) J17 hD room r16 r17 fun u18 J18 => ?_
          obtain ⟨m', hm, w'⟩ := hNx1 _ nx
          have pin : ∀ b ∈ fq, ∀ o, u14.heap.get? b = some o → u18.heap.get? b = some o ∧ upd G17 D (.dK (putK kvs kk vy)) b = none := fun b hb o z =>
            let y := J18.pin (b, o) (List.mem_append_right _ (List.mem_append_right _ (mem_pinsAt hb z)))
            ⟨y.1, y.2.1⟩
          refine ⟨m', hm, j + 1, _, J18.unpinned.weak (by rw [← e15, wipe_length]) (fun j v z => by rw [← e15] at z; exact (wipe_some z).1), T1.keep _ _ _ q14 fun b hb o z => (pin b hb o z).1, fun b hb => ?_, w'⟩
          obtain ⟨o, z, _⟩ := T1.obj _ _ q14 b hb
          exact (pin b hb o z).2
      exact start2_next loop1 (T1.self X.A 0 _ _ _ q11 loop1)
  exact start2_first loop (TT.self X.A 0 _ _ _ q4 loop)
end
end K21

set_option Elab.async false
set_option linter.all false
set_option maxRecDepth 100000
set_option maxHeartbeats 4000000
/-! K21D3: {y: True for x in xs for y in ys} over data; hit_by. -/
namespace K21
open PySem PySem.Spec PyProof.Rows L2
def noMu (r : DEnv) : Prop := ∀ (i : Nat) m, r[i]? ≠ some (some (.mu m))
def hitsD (ys : List Str) : List (Str × PD) := ys.foldl (fun acc y => putD acc y (.bool true)) []
theorem hitsD_snoc (ys : List Str) (y : Str) : hitsD (ys ++ [y]) = putD (hitsD ys) y (.bool true) := by simp [hitsD]
theorem putD_len (kvs : List (Str × PD)) (k : Str) (v : PD) : (putD kvs k v).length ≤ kvs.length + 1 := by
  unfold putD; split <;> simp
theorem look_any (l : List (Str × PD)) (x : Str) : (lookD l x).isSome = l.any fun p => decide (p.1 = x) := by
  unfold lookD
  rw [Option.isSome_map, List.isSome_find?]
theorem look_put (kvs : List (Str × PD)) (k x : Str) (v : PD) : (lookD (putD kvs k v) x).isSome = ((lookD kvs x).isSome || decide (x = k)) := by
  rw [look_any, look_any]
  unfold putD
  cases q : (lookD kvs k).isSome with
  | false =>
    simp only [Bool.false_eq_true, if_false, List.any_append, List.any_cons, List.any_nil, Bool.or_false]
    congr 1
    by_cases e : x = k
    · simp [e]
    · simp [e, Ne.symm e]
  | true =>
    rw [if_pos rfl, List.any_map]
    have e1 : ((fun p : Str × PD => decide (p.1 = x)) ∘ fun p => if p.1 = k then (p.1, v) else p) = fun p => decide (p.1 = x) := by
      funext p
      simp only [Function.comp]
      split <;> rfl
    rw [e1]
    by_cases e : x = k
    · subst e
      rw [look_any] at q
      rw [q]; simp
    · simp [e]
theorem look_hits (ys : List Str) (x : Str) : (lookD (hitsD ys) x).isSome = decide (x ∈ ys) := by
  have key : ∀ (ys : List Str) (acc : List (Str × PD)), (lookD (ys.foldl (fun acc y => putD acc y (.bool true)) acc) x).isSome = ((lookD acc x).isSome || decide (x ∈ ys)) := by
    intro ys
    induction ys with
    | nil => intro acc; simp
    | cons y ys ih =>
      intro acc
      rw [List.foldl_cons, ih, look_put]
      by_cases e : x = y
      · simp [e]
      · simp [e]
  have := key ys []
  rw [show (lookD ([] : List (Str × PD)) x).isSome = false from rfl, Bool.false_or] at this
  exact this
theorem hits_len (ys : List Str) : (hitsD ys).length ≤ ys.length := by
  have key : ∀ (ys : List Str) (acc : List (Str × PD)), (ys.foldl (fun acc y => putD acc y (.bool true)) acc).length ≤ acc.length + ys.length := by
    intro ys
    induction ys with
    | nil => intro acc; simp
    | cons y ys ih =>
      intro acc
      rw [List.foldl_cons]
      have := ih (putD acc y (.bool true))
      have := putD_len acc y (.bool true)
      rw [List.length_cons]
      omega
  unfold hitsD
  simpa using key ys []
section
variable {g : G} {F H : Hp} {r : DEnv} {n : Nat} {s : L2.St}
theorem noMu.own (h : noMu r) (a : Addr) : ¬ owned r s a := fun ⟨i, m, e, _⟩ => h i m e
theorem Rel.otherK (R : Rel g F r n s H) (hm : noMu r) {p : Addr} {o : HO} {xs : List (Key × V)} (hp : H p = some (.dK xs)) (hf : F p = none) (h0 : g.H0 p = none) (hs : ¬ InS g.S p) : Rel g F r n s (upd H p o) := by
  refine ⟨R.bas.write hp (fun _ z => by cases z) (fun c q z => by unfold LamX.CodeO at z; cases z) hf h0 hs, R.len, fun i z e => ?_, R.dis⟩
  obtain ⟨v, e1, h⟩ := R.slot i z e
  refine ⟨v, e1, ?_⟩
  cases z with
  | dat d => exact h
  | mu m => exact absurd e (hm i m)
/-- freezing a dict that no slot owns -/
theorem Rel.freezeK (R : Rel g F r n s H) (hm : noMu r) {p : Addr} {xs : List (Key × V)} (hp : H p = some (.dK xs)) (hf : F p = none) (h0 : g.H0 p = none) (hs : ¬ InS g.S p) : Rel g (upd F p (.dK xs)) r n s H := by
  have sb : SubH F (upd F p (.dK xs)) := .new hf
  refine ⟨⟨fun a u ea => ?_, R.bas.gro.trans sb, fun a u k1 k2 k3 => ?_, R.bas.fr, R.bas.frt, fun a ps ea => ?_, R.bas.tab, R.bas.str, fun a ha => ?_, R.bas.anc⟩, R.len, fun i z e => ?_, R.dis⟩
  · by_cases hz : a = p
    · subst hz; rw [upd_same] at ea; cases ea; exact .inl hp
    · rw [upd_ne hz] at ea; exact R.bas.und a u ea
  · by_cases hz : a = p
    · subst hz; exact h0
    · rw [upd_ne hz] at k2; exact R.bas.new a u k1 k2 k3
  · by_cases hz : a = p
    · subst hz; rw [upd_same] at ea; cases ea
    · rw [upd_ne hz] at ea; exact R.bas.ntb a ps ea
  · have hz : a ≠ p := fun z => hs (z ▸ ha)
    rw [upd_ne hz]; exact R.bas.strF a ha
  · obtain ⟨v, e1, h⟩ := R.slot i z e
    refine ⟨v, e1, ?_⟩
    cases z with
    | dat d => exact RepD.mono sb h
    | mu m => exact absurd e (hm i m)
end
def flatL (ds : List PD) (f : PD → List Str) : List Str := (ds.map f).flatten
def tHits (i j : Nat) (src src1 : TSrc) (vs : List Nat) : TED := fun r n P => src r n fun ds r1 n1 => ∃ f : PD → List Str, noMu r1 ∧ i < r1.length ∧ j < r1.length ∧ wipeD r1 vs = r1 ∧ (flatL ds f).length < sizeLine ∧
  (∀ d ∈ ds, ∀ K : List PD → DEnv → Nat → Prop, K (sts (f d)) (r1.set i (some (.dat (.py d)))) n1 → src1 (r1.set i (some (.dat (.py d)))) n1 K) ∧ P (.dct (hitsD (flatL ds f))) r1 n1
theorem noMu.set {r : DEnv} (h : noMu r) {i : Nat} {d : DV} : noMu (r.set i (some (.dat d))) := fun j m e => by
  by_cases hj : j = i
  · subst hj
    have hl := (List.getElem?_eq_some_iff.mp e).1
    rw [List.length_set] at hl
    rw [List.getElem?_set_self hl] at e; cases e
  · rw [List.getElem?_set_ne (Ne.symm hj)] at e; exact h j m e
def liftIX (c : Cst) (t : TSrc) : TI := fun s H R => ∃ g : G, g.c = c ∧ liftI g t s H R
theorem DI.lifted {c : Cst} {X : Cx} {tg e : Expr} {t : TSrc} (h : DI c X tg e t) : PI X tg e (liftIX c t) := ⟨fun pins s σ H R I ⟨g, hg, q⟩ => (h.run g hg).run pins s σ H R I q⟩
section
variable {X : Cx} {c : Cst} {vx t0 i0 t1 i1 : Expr} {scope : Scope} {own : List (Str × Nat)} {pos : Pos} {src src1 : TSrc} {y : Str} {py pv : Pos} {jj : Nat}
theorem de_hits (i j : Nat) (calm : X.calm = true) (hN : X.N.Nodup) (h0 : DI c X t0 i0 src) (ok : BlkOk X.N X.env.scope scope own) (sub : ∀ l ∈ [j], l ∈ own.map (·.2)) (subi : i ∈ own.map (·.2)) (hij : i ≠ j)
    (b1 : Blk X scope fun Y => PG Y t0 (gName i)) (b2 : Blk X scope fun Y => DI c Y t1 i1 src1) (b3 : Blk X scope fun Y => PG Y t1 (gName j)) (b4 : Blk X scope fun Y => PE Y (.Name y py) (tVar j))
    (fold : ∀ x, foldedSetIterable i0 X.env x = pure x := by intro _; rfl) (fold1 : ∀ env x, foldedSetIterable i1 env x = pure x := by intro _ _; rfl) :
    DE c X (dc2 (.Name y py) (.Constant (.bool true) jj pv) t0 i0 t1 i1 scope pos) (tHits i j src src1 (own.map (·.2))) := ⟨fun g hg =>
  PE.imp (pe_dc2 calm hN (h0.run g hg) ok sub b1 (fun s H C cl fp => (b2 s H C cl fp).lifted) b3 b4 (fun s H C cl fp => pe_bl) fold fold1) fun s H Q ⟨F, r, n, P, R, p, k⟩ =>
    ⟨F, r, n, _, R, p, fun F1 ds r1 n1 J H1 sb R1 sv ⟨f, hm, hi, hjl, hw, hsz, hsrc, pP⟩ => fun D hD => by
      have hDS : ¬ InS g.S D := R1.bas.notS hD
      have hD0 : g.H0 D = none := R1.bas.free0 hD
      have hDF : F1 D = none := R1.bas.und.some hD
      have R1w : Rel g F1 r1 n1 (L2.wipe s (own.map (·.2))) H1 := by have := R1.wipe (vs := own.map (·.2)); rwa [hw] at this
      let Inv0 : Nat → Hp → Prop := fun a H => ∃ F kv, SubH F1 F ∧ Rel g F r1 n1 (L2.wipe s (own.map (·.2))) H ∧ H D = some (.dK kv) ∧ F D = none ∧ PairK F kv (hitsD (flatL (ds.take a) f))
      refine ⟨fun a m H => m = ds.length - a ∧ a ≤ ds.length ∧ Inv0 a H, ⟨ds.length, by simp, Nat.zero_le _, F1, [], .refl F1, R1w.laidM hD, upd_same, hDF, .nil⟩, ?_⟩
      rintro a m H ⟨rfl, ha, F2, kv, sb2, R2, eD, fD, pk⟩
      have svi := sv F2 H ⟨sb2, R2.undA⟩ R2.bas.und
      by_cases hlt : a < ds.length
      · refine .inr ⟨svi.1 a hlt, fun G => Inv0 (a + 1) G, fun G z => ⟨ds.length - (a + 1), by omega, rfl, hlt, z⟩, fun x G y => ?_⟩
        have hda : ds[a]? = some ds[a] := List.getElem?_eq_getElem hlt
        have hdm : ds[a] ∈ ds := List.getElem_mem hlt
        have hdrop : flatL (ds.take (a + 1)) f = flatL (ds.take a) f ++ f ds[a] := by
          unfold flatL
          rw [take_succ_get hda, List.map_append, List.flatten_append]; simp
        have hle : (flatL (ds.take (a + 1)) f).length ≤ (flatL ds f).length := by
          have : flatL ds f = flatL (ds.take (a + 1)) f ++ flatL (ds.drop (a + 1)) f := by
            unfold flatL
            rw [← List.flatten_append, ← List.map_append, List.take_append_drop]
          rw [this, List.length_append]; omega
        generalize ds[a] = d at hda hdm hdrop
        obtain ⟨F3, sb3, R3, zx, eD3, fD3⟩ : ∃ F3, SubH F2 F3 ∧ Rel g F3 r1 n1 (L2.wipe s (own.map (·.2))) G ∧ Dz F3 x d ∧ G D = some (.dK kv) ∧ F3 D = none := by
          rcases svi.2.2 a x G _ hda y with ⟨rfl, hx⟩ | ⟨q, us, es, rfl, hq, rfl, hu, ed⟩
          · exact ⟨F2, .refl F2, R2, hx, eD, fD⟩
          · have fq := R2.bas.und.some hq
            refine ⟨upd F2 q (.tup us), .new fq, R2.laid hq (fun _ z => by cases z), by rw [ed]; exact .tup upd_same (hu.mono (.new fq)), by rw [upd_ne (ne_of_none eD hq)]; exact eD, by rw [upd_ne (ne_of_none eD hq)]; exact fD⟩
        have R4 := R3.set (i := i) (d := .py d) zx
        have hm4 : noMu (r1.set i (some (.dat (.py d)))) := hm.set
        refine ⟨wipe_set subi |>.trans (wipe_idem _ _), ?_⟩
        have RI := R4.into
        have kD : (g.inner F3 (r1.set i (some (.dat (.py d)))) ((L2.wipe s (own.map (·.2))).set i (some x)) G).H0 D = some (.dK kv) := by
          show strip _ _ G D = _
          rw [strip_not (hm4.own D)]; exact eD3
        refine ⟨g.inner F3 (r1.set i (some (.dat (.py d)))) ((L2.wipe s (own.map (·.2))).set i (some x)) G, hg, F3, r1.set i (some (.dat (.py d))), n1, _, RI, hsrc d hdm (fun es r' n' => es = sts (f d) ∧ r' = r1.set i (some (.dat (.py d))) ∧ n' = n1) ⟨rfl, rfl, rfl⟩, fun F5 es r5 n5 J1 H5 sb5 R5 sv5 q5 => ?_⟩
        obtain ⟨rfl, rfl, rfl⟩ := q5
        have eD5 : H5 D = some (.dK kv) := R5.bas.fr D _ kD (fun _ z => by cases z) hDS
        have fD5 : F5 D = none := by
          cases q : F5 D with
          | none => rfl
          | some o =>
            have z := R5.bas.new D o fD3 q (R5.bas.und.ntup q eD5 fun _ z => by cases z)
            rw [kD] at z; cases z
        have RB := R4.back R5
        let Inv1 : Nat → Hp → Prop := fun b H => ∃ F kv, SubH F5 F ∧ Rel g F (r1.set i (some (.dat (.py d)))) n5 (L2.wipe ((L2.wipe s (own.map (·.2))).set i (some x)) [j]) H ∧ H D = some (.dK kv) ∧ F D = none ∧ PairK F kv (hitsD (flatL (ds.take a) f ++ (f d).take b))
        have RB' : Rel g F5 (r1.set i (some (.dat (.py d)))) n5 (L2.wipe ((L2.wipe s (own.map (·.2))).set i (some x)) [j]) H5 := by
          have := RB.wipe (vs := [j])
          have e : wipeD (r1.set i (some (.dat (.py d)))) [j] = r1.set i (some (.dat (.py d))) := by
            show (r1.set i (some (.dat (.py d)))).set j none = _
            have hj : r1[j]? = some none ∨ r1.length ≤ j := by
              by_cases hl : j < r1.length
              · left
                have : (wipeD r1 (own.map (·.2)))[j]? = some none := by
                  cases q : (wipeD r1 (own.map (·.2)))[j]? with
                  | none => rw [hw] at q; rw [List.getElem?_eq_none_iff] at q; omega
                  | some z =>
                    cases z with
                    | none => rfl
                    | some z => exact absurd (sub j (by simp)) (wipeD_some q).2
                rwa [hw] at this
              · right; omega
            apply List.ext_getElem?
            intro l
            by_cases hl : j = l
            · subst hl
              rcases hj with hj | hj
              · have : j < r1.length := (List.getElem?_eq_some_iff.mp hj).1
                rw [List.getElem?_set_self (by rw [List.length_set]; exact this), List.getElem?_set_ne hij, hj]
              · rw [List.getElem?_eq_none (by simp; omega), List.getElem?_eq_none (by simp; omega)]
            · rw [List.getElem?_set_ne hl]
          rwa [e] at this
        refine ⟨fun b m H => m = (f d).length - b ∧ b ≤ (f d).length ∧ Inv1 b H, ⟨(f d).length, by simp, Nat.zero_le _, F5, kv, .refl F5, RB', eD5, fD5, by simpa using pk.mono (sb3.trans sb5)⟩, ?_⟩
        rintro b m H6 ⟨rfl, hb, F6, kv6, sb6, R6, eD6, fD6, pk6⟩
        have svj := sv5 F6 H6 ⟨sb6, R6.undA⟩ R6.bas.und
        have hln : (sts (f d)).length = (f d).length := by simp
        by_cases hlb : b < (f d).length
        · refine .inr ⟨svj.1 b (by omega), fun G => Inv1 (b + 1) G, fun G z => ⟨(f d).length - (b + 1), by omega, rfl, hlb, z⟩, fun v G y => ?_⟩
          have hby : (f d)[b]? = some (f d)[b] := List.getElem?_eq_getElem hlb
          have hbd : (sts (f d))[b]? = some (.str (f d)[b]) := by simp [sts, hby]
          generalize (f d)[b] = z at hby hbd
          rcases svj.2.2 b v G _ hbd y with ⟨rfl, hx⟩ | ⟨q, us, es, _, _, _, _, ed⟩
          · have hzs := Dz.strOk hx
            cases hx
            have R7 := R6.set (i := j) (d := .py (.str z)) (Dz.str z hzs)
            have ljs : j < (L2.wipe ((L2.wipe s (own.map (·.2))).set i (some x)) [j]).length := by
              rw [L2.wipe_length, List.length_set, L2.wipe_length, ← R1.len]; exact hjl
            refine ⟨wipe_set (by simp) |>.trans (wipe_idem _ _), .str z, List.getElem?_set_self ljs, kv6, Sum.inr z, rfl, eD6, ?_, F6, putK kv6 (Sum.inr z) (.bl true), sb6, ?_, upd_same, fD6, ?_⟩
            · have l1 := hits_len (flatL (ds.take a) f ++ (f d).take b)
              have l2 : kv6.length = _ := Paired.length pk6
              rw [List.length_append, List.length_take] at l1
              rw [hdrop, List.length_append] at hle
              omega
            · exact R6.otherK hm4 eD6 fD6 hD0 hDS
            · rw [take_succ_get hby, ← List.append_assoc, hitsD_snoc]
              exact pk6.put hzs (.bl true)
          · cases ed
        · have e : b = (f d).length := by omega
          subst e
          rw [List.take_length, ← hdrop] at pk6
          refine .inl ⟨svj.2.1 _ hln.symm, F6, kv6, sb2.trans (sb3.trans (sb5.trans sb6)), ?_, eD6, fD6, pk6⟩
          have R8 := R6.unwipe
          refine R8.weak (r' := r1) (s' := L2.wipe s (own.map (·.2))) (by simp) (by simp) fun l z ez => ?_
          have hl : l ≠ i := fun e => by
            subst e
            rw [← hw] at ez
            exact (wipeD_some ez).2 subi
          exact ⟨by rw [List.getElem?_set_ne (Ne.symm hl)]; exact ez, by rw [List.getElem?_set_ne (Ne.symm hl)]⟩
      · have e : a = ds.length := by omega
        subst e
        rw [List.take_length] at pk
        refine .inl ⟨svi.2.1 _ rfl, ?_⟩
        have Ru := R2.unwipe
        exact k _ (.dct (hitsD (flatL ds f))) r1 n1 _ H (sb.trans (sb2.trans (.new fD))) (Ru.freezeK hm eD fD hD0 hDS) ⟨D, kv, rfl, upd_same, pk.mono (.new fD)⟩ pP⟩⟩
end
def outF (D : Deb) : PD → List Str
  | .str x => objd D x
  | _ => []
section
variable {P : Program} {w : World} {K : PySem.W.Frag} {mg : Str → Option Value} {base : Heap} {c : Cst}
theorem sc_hit_by : FnScope ["debate", "members", "member", "other"] ["debate", "members"] (defScope (topS 23)) := ⟨rfl, rfl, rfl, by decide +kernel, rfl, by decide +kernel, by decide +kernel⟩
theorem ok_hit_by (D : DefAt K mg "hit_by" (topS 23)) (B : Bn mg) (DT : DebT K c.C) : OkD P w K mg base c "hit_by" ["debate", "members"] 1 pre_DM post_hit := by
  refine ok_def D (fun _ _ _ _ _ _ us hl => match us, hl with | [_, _], _ => rfl) sc_hit_by (fun ds n h => ?_) (fun f cdv A outer s H E hr => ?_)
  · obtain ⟨a, b, _, _, _, rfl⟩ := h; rfl
  · refine ⟨_, (dss_one (ds_ret (de_hits (own := [("member", 2), ("other", 3)]) 2 3 rfl sc_hit_by.nd (di_lst (de_v 1 (pv 1))) (blkOk_by (N := ["debate", "members", "member", "other"]) (sc := defScope (topS 23)) (own := [("member", 2), ("other", 3)]) (by decide +kernel)) (by decide) (by decide) (by decide) (fun _ _ _ _ _ => (pg_name (i := 2) sc_hit_by.nd rfl (Or.inl rfl))) (fun _ _ _ _ _ => (di_lst (de_get (hu1 hr) (de_fld DT.cls DT.nD (de_v 0 (pv 0))) (de_v 2 (pv 2))))) (fun _ _ _ _ _ => (pg_name (i := 3) sc_hit_by.nd rfl (Or.inl rfl))) (fun _ _ _ _ _ => (pv 3))))), fun ds n h => ?_⟩
    obtain ⟨D, m, hD, hm, hi, rfl⟩ := h
    simp [startD]
    have ef : flatL (sts m) (outF D) = m.flatMap (objd D) := by
      unfold flatL
      rw [List.map_map, List.flatMap_def]
      rfl
    have len : ∀ l : List Str, (l.flatMap (objd D)).length ≤ l.length * 4096 := fun l => by
      induction l with
      | nil => simp
      | cons x l ih =>
        rw [List.flatMap_cons, List.length_append, List.length_cons]
        have := len_objd D x
        have := hD.l2
        omega
    refine ⟨_, rfl, _, rfl, outF D, ?_, by simp, by simp, rfl, ?_, fun d hd K hK => ?_, rfl, rfl, D, m, _, rfl, rfl, fun x => ?_⟩
    · intro l mm e
      match l, e with
      | 0, e => cases e
      | 1, e => cases e
      | 2, e => cases e
      | 3, e => cases e
      | l + 4, e => simp at e
    · rw [ef]
      have := len m
      rw [szL]; omega
    · obtain ⟨x, hx, rfl⟩ := mem_sts.mp hd
      simp [hi x hx]
      exact hK
    · rw [ef, look_hits]
      unfold hitB
      by_cases e : x ∈ m.flatMap (objd D)
      · rw [decide_eq_true e]
        obtain ⟨y, h1, h2⟩ := List.mem_flatMap.mp e
        exact (List.any_eq_true.mpr ⟨(y, x), mem_objd.mp h2, by simp [h1]⟩).symm
      · rw [decide_eq_false e]
        symm
        rw [List.any_eq_false]
        rintro ⟨y, z⟩ hp hq
        simp only [Bool.and_eq_true, decide_eq_true_eq] at hq
        obtain ⟨h1, h2⟩ := hq
        subst h2
        exact e (List.mem_flatMap.mpr ⟨y, h1, mem_objd.mpr hp⟩)
end
end K21

set_option Elab.async false
set_option linter.all false
set_option maxHeartbeats 4000000
/-! K21M1: the least odd closed walk is a ring; lots (plain Lean). -/
namespace K21
open PySem PySem.Spec
def HasOddD (D : Deb) : Prop := ∃ a ∈ D.ns, ∃ w, Wk D.ps a w a ∧ w.length % 2 = 1
/-! ### walks cut and joined -/
theorem wk_append {ps : List (Str × Str)} {a : Str} : ∀ {w2 : List Str} {w1 : List Str} {y : Str}, Wk ps a (w1 ++ w2) y → ∃ x, Wk ps a w1 x ∧ Wk ps x w2 y := by
  intro w2 w1 y h
  generalize hw : w1 ++ w2 = w at h
  induction h generalizing w2 with
  | nil =>
    obtain ⟨h1, h2⟩ := List.append_eq_nil_iff.mp hw
    subst h1 h2
    exact ⟨a, .nil, .nil⟩
  | @snoc w x y hx he ih =>
    rcases List.eq_nil_or_concat w2 with h2 | ⟨w3, z, h2⟩
    · subst h2
      rw [List.append_nil] at hw
      subst hw
      exact ⟨y, .snoc hx he, .nil⟩
    · subst h2
      rw [List.concat_eq_append, ← List.append_assoc] at hw
      obtain ⟨h3, h4⟩ := List.append_inj' hw rfl
      simp only [List.cons.injEq, and_true] at h4
      subst h4
      obtain ⟨u, k1, k2⟩ := ih h3
      exact ⟨u, k1, by rw [List.concat_eq_append]; exact .snoc k2 he⟩
theorem wk_trans {ps : List (Str × Str)} {a b y : Str} {w1 w2 : List Str} (h1 : Wk ps a w1 b) (h2 : Wk ps b w2 y) : Wk ps a (w1 ++ w2) y := by
  induction h2 with
  | nil => rw [List.append_nil]; exact h1
  | snoc _ he ih => rw [← List.append_assoc]; exact .snoc ih he
theorem wk_nil {ps : List (Str × Str)} {b y : Str} (h : Wk ps b [] y) : y = b := by
  generalize hw : ([] : List Str) = w at h
  cases h with
  | nil => rfl
  | snoc _ _ => simp at hw
theorem wk_head {ps : List (Str × Str)} {b x y : Str} {w : List Str} (h : Wk ps b (x :: w) y) : b = x ∧ ∃ z, (x, z) ∈ ps ∧ Wk ps z w y := by
  have h' : Wk ps b ([x] ++ w) y := h
  obtain ⟨z, h1, h2⟩ := wk_append h'
  obtain ⟨w0, x0, e, k1, k2⟩ := wk_snoc_inv h1 (by simp)
  have e' : ([] : List Str) ++ [x] = w0 ++ [x0] := e
  obtain ⟨e1, e2⟩ := List.append_inj' e' rfl
  subst e1
  simp only [List.cons.injEq, and_true] at e2
  subst e2
  have := wk_nil k1
  subst this
  exact ⟨rfl, z, k2, h2⟩
theorem wk_mono {ps qs : List (Str × Str)} (s : ∀ p ∈ ps, p ∈ qs) {a y : Str} {w : List Str} (h : Wk ps a w y) : Wk qs a w y := by
  induction h with
  | nil => exact .nil
  | snoc _ he ih => exact .snoc ih (s _ he)
theorem wk_mem {ps : List (Str × Str)} {a y : Str} {w : List Str} (h : Wk ps a w y) : ∀ x ∈ w, ∃ z, (x, z) ∈ ps := by
  induction h with
  | nil => intro x hx; cases hx
  | @snoc w x y _ he ih =>
    intro z hz
    rcases List.mem_append.mp hz with h | h
    · exact ih z h
    · rw [List.mem_singleton.mp h]; exact ⟨y, he⟩
/-- the steps of a walk -/
theorem wk_step {ps : List (Str × Str)} : ∀ {w : List Str} {a y : Str} {i : Nat} {x z : Str}, Wk ps a w y → w[i]? = some x → w[i + 1]? = some z → (x, z) ∈ ps
  | [], _, _, i, _, _, _, h1, _ => by simp at h1
  | u :: w, a, y, 0, x, z, h, h1, h2 => by
    obtain ⟨_, v, k1, k2⟩ := wk_head h
    simp only [List.getElem?_cons_zero, Option.some.injEq] at h1
    subst h1
    cases w with
    | nil => simp at h2
    | cons b w =>
      simp only [List.getElem?_cons_succ, List.getElem?_cons_zero, Option.some.injEq] at h2
      subst h2
      obtain ⟨e, _⟩ := wk_head k2
      rw [e] at k1
      exact k1
  | u :: w, a, y, i + 1, x, z, h, h1, h2 => by
    obtain ⟨_, v, k1, k2⟩ := wk_head h
    exact wk_step k2 (by simpa using h1) (by simpa using h2)
theorem wk_last {ps : List (Str × Str)} {a y x : Str} {w : List Str} (h : Wk ps a w y) (hx : w[w.length - 1]? = some x) : (x, y) ∈ ps := by
  have hn : w ≠ [] := fun z => by rw [z] at hx; simp at hx
  obtain ⟨w0, x0, rfl, _, k2⟩ := wk_snoc_inv h hn
  rw [List.length_append, List.length_singleton, Nat.add_sub_cancel, List.getElem?_append_right (Nat.le_refl _), Nat.sub_self] at hx
  simp only [List.getElem?_cons_zero, Option.some.injEq] at hx
  subst hx
  exact k2
theorem wk_cyc {ps : List (Str × Str)} {a : Str} {w : List Str} (h : Wk ps a w a) : cyc ps w := by
  intro i x y hy hx
  cases i with
  | zero =>
    have hl : 0 < w.length := (List.getElem?_eq_some_iff.mp hy).1
    rw [show ((0 : Nat) : Int) - 1 = -1 by omega, atI_last hl] at hx
    cases w with
    | nil => simp at hl
    | cons u w =>
      obtain ⟨e, _⟩ := wk_head h
      simp only [List.getElem?_cons_zero, Option.some.injEq] at hy
      rw [← hy, ← e]
      exact wk_last h hx
  | succ i =>
    rw [show ((i + 1 : Nat) : Int) - 1 = (i : Int) by omega] at hx
    have hl : i + 1 < w.length := (List.getElem?_eq_some_iff.mp hy).1
    have e : w[i]? = some w[i] := List.getElem?_eq_getElem (by omega)
    rw [L2.atI_nat e] at hx
    cases hx
    exact wk_step h e hy
theorem not_nodup {α : Type} [DecidableEq α] : ∀ {w : List α}, ¬ w.Nodup → ∃ x u v z, w = u ++ x :: (v ++ x :: z)
  | [], h => absurd List.nodup_nil h
  | a :: w, h => by
    by_cases ha : a ∈ w
    · obtain ⟨v, z, e⟩ := List.append_of_mem ha
      exact ⟨a, [], v, z, by rw [e]; rfl⟩
    · have : ¬ w.Nodup := fun q => h (List.nodup_cons.mpr ⟨ha, q⟩)
      obtain ⟨x, u, v, z, e⟩ := not_nodup this
      exact ⟨x, a :: u, v, z, by rw [e]; rfl⟩
/-- the least odd closed walk is a ring -/
theorem least_ring {D : Deb} (hD : DOk D) {w : List Str} (h : LeastW D (some w)) : RingP D.ns D.ps (.list (sts w)) := by
  obtain ⟨a, ha, hw, hodd, hmin⟩ := h
  have hin : ∀ x ∈ w, x ∈ D.ns := fun x hx => by
    obtain ⟨z, hz⟩ := wk_mem hw x hx
    exact (hD.inn _ hz).1
  refine ⟨w, .inl rfl, hodd, ?_, hin, wk_cyc hw⟩
  apply Classical.byContradiction
  intro hn
  obtain ⟨x, u, v, z, e⟩ := not_nodup hn
  subst e
  obtain ⟨b, k1, k2⟩ := wk_append hw
  obtain ⟨e1, _⟩ := wk_head k2
  subst e1
  have k2' : Wk D.ps b ((b :: v) ++ (b :: z)) a := k2
  obtain ⟨d, k3, k4⟩ := wk_append k2'
  obtain ⟨e2, _⟩ := wk_head k4
  subst e2
  have hdn : d ∈ D.ns := hin d (by simp)
  have o1 := hmin d hdn (d :: v) k3
  have o2 := hmin a ha (u ++ d :: z) (wk_trans k1 k4)
  simp only [List.length_append, List.length_cons] at o1 o2 hodd
  by_cases hp : (v.length + 1) % 2 = 1
  · have := o1 hp; omega
  · have := o2 (by omega); omega
theorem least_some {D : Deb} {o : Option (List Str)} (h : LeastW D o) : o.isSome = true ↔ HasOddD D := by
  cases o with
  | none =>
    simp only [Option.isSome_none, Bool.false_eq_true, false_iff]
    rintro ⟨a, ha, w, h1, h2⟩
    have := h a ha w h1
    omega
  | some w =>
    obtain ⟨a, ha, hw, ho, _⟩ := h
    simp only [Option.isSome_some, true_iff]
    exact ⟨a, ha, w, hw, ho⟩
end K21

set_option Elab.async false
set_option linter.all false
set_option maxHeartbeats 4000000
/-! K21M2: held lots, greatest lots (plain Lean). -/
namespace K21
open PySem PySem.Spec
structure Held (N : List Str) (ps : List (Str × Str)) (l : List Str) : Prop where
  sub : l.Sublist N
  calm : ∀ x ∈ l, ∀ y ∈ l, (x, y) ∉ ps
  ans : ∀ x ∈ l, ∀ o, (o, x) ∈ ps → ∃ y ∈ l, (y, o) ∈ ps
def Great (N : List Str) (ps : List (Str × Str)) (l : List Str) : Prop := Held N ps l ∧ ∀ o, Held N ps o → (∀ x ∈ l, x ∈ o) → o = l
/-! ### sublists of a list without repeats -/
theorem sub_filter : ∀ {l N : List Str}, l.Sublist N → N.Nodup → N.filter (fun x => decide (x ∈ l)) = l
  | _, _, .slnil, _ => rfl
  | l, a :: N, .cons _ h, nd => by
    rw [List.nodup_cons] at nd
    have : a ∉ l := fun z => nd.1 (h.subset z)
    rw [List.filter_cons_of_neg (by simp [this])]
    exact sub_filter h nd.2
  | a :: l, _ :: N, .cons_cons _ h, nd => by
    rw [List.nodup_cons] at nd
    rw [List.filter_cons_of_pos (by simp)]
    congr 1
    have ih := sub_filter h nd.2
    rw [← ih] 
    apply List.filter_congr
    intro x hx
    have hne : x ≠ a := fun z => nd.1 (z ▸ hx)
    rw [ih]
    simp [hne]
theorem sub_ext {l o N : List Str} (nd : N.Nodup) (h1 : l.Sublist N) (h2 : o.Sublist N) (h : ∀ x, x ∈ l ↔ x ∈ o) : l = o := by
  rw [← sub_filter h1 nd, ← sub_filter h2 nd]
  exact List.filter_congr fun x _ => by simp [h x]
theorem sub_len {l o N : List Str} (nd : N.Nodup) (h1 : l.Sublist N) (h2 : o.Sublist N) (h : ∀ x ∈ l, x ∈ o) (hne : l ≠ o) : l.length < o.length := by
  apply Classical.byContradiction
  intro hle
  refine hne (sub_ext nd h1 h2 fun x => ⟨h x, fun hx => ?_⟩)
  apply Classical.byContradiction
  intro hn
  have := nodup_len (xs := x :: l) (ys := o) (List.nodup_cons.mpr ⟨hn, nd.sublist h1⟩) fun z hz => by
    rcases List.mem_cons.mp hz with e | e
    · rw [e]; exact hx
    · exact h z e
  rw [List.length_cons] at this
  omega
theorem within_iff {a b : List Str} : withinS a b = true ↔ ∀ x ∈ a, x ∈ b := by simp [withinS]
/-! ### the widest of a list of lots -/
theorem keepL_snoc (ls : List (List Str)) (x : List Str) : keepL (ls ++ [x]) = if (keepL ls).any (withinS x) then keepL ls else keepL ls ++ [x] := by
  unfold keepL
  rw [List.foldl_append]
  rfl
theorem keepL_ok {N : List Str} (nd : N.Nodup) : ∀ (k : Nat) (ls : List (List Str)), ls.length = k → ls.Nodup → (∀ l ∈ ls, l.Sublist N) → ls.Pairwise (fun a b => b.length ≤ a.length) →
    (∀ l, l ∈ keepL ls ↔ l ∈ ls ∧ ∀ o ∈ ls, (∀ x ∈ l, x ∈ o) → o = l) ∧ ∀ l ∈ ls, ∃ o ∈ keepL ls, ∀ x ∈ l, x ∈ o
  | 0, ls, h, _, _, _ => by
    have : ls = [] := List.length_eq_zero_iff.mp h
    subst this
    simp [keepL]
  | k + 1, ls, h, hnd, hs, hp => by
    obtain ⟨xs, x, rfl⟩ : ∃ xs x, ls = xs ++ [x] := ⟨ls.dropLast, ls.getLast (by intro z; rw [z] at h; cases h), (List.dropLast_concat_getLast _).symm⟩
    rw [List.nodup_append] at hnd
    rw [List.pairwise_append] at hp
    obtain ⟨i1, i2⟩ := keepL_ok nd k xs (by simpa using h) hnd.1 (fun l hl => hs l (by simp [hl])) hp.1
    have hxs : x.Sublist N := hs x (by simp)
    have xne : ∀ l ∈ xs, l ≠ x := fun l hl => hnd.2.2 l hl x (by simp)
    have wide : ∀ l ∈ xs, (∀ z ∈ l, z ∈ x) → False := fun l hl hw => by
      have h1 := sub_len nd (hs l (by simp [hl])) hxs hw (xne l hl)
      have h2 := hp.2.2 l hl x (by simp)
      omega
    rw [keepL_snoc]
    cases q : (keepL xs).any (withinS x) with
    | true =>
      rw [if_pos rfl]
      obtain ⟨o, ho, hw⟩ := List.any_eq_true.mp q
      rw [within_iff] at hw
      have ho1 := ((i1 o).mp ho).1
      refine ⟨fun l => ?_, fun l hl => ?_⟩
      · rw [i1 l]
        constructor
        · rintro ⟨h1, h2⟩
          refine ⟨by simp [h1], fun o ho hw => ?_⟩
          rcases List.mem_append.mp ho with z | z
          · exact h2 o z hw
          · rw [List.mem_singleton.mp z] at hw
            exact (wide l h1 hw).elim
        · rintro ⟨h1, h2⟩
          rcases List.mem_append.mp h1 with z | z
          · exact ⟨z, fun o ho hw => h2 o (by simp [ho]) hw⟩
          · rw [List.mem_singleton] at z
            subst z
            exact absurd (h2 o (by simp [ho1]) hw) (xne o ho1)
      · rcases List.mem_append.mp hl with z | z
        · exact i2 l z
        · rw [List.mem_singleton] at z
          subst z
          exact ⟨o, ho, hw⟩
    | false =>
      rw [if_neg (by simp)]
      rw [List.any_eq_false] at q
      have free : ∀ o ∈ xs, ¬ ∀ z ∈ x, z ∈ o := fun o ho hw => by
        obtain ⟨p, hp1, hp2⟩ := i2 o ho
        exact q p hp1 (within_iff.mpr fun z hz => hp2 z (hw z hz))
      refine ⟨fun l => ?_, fun l hl => ?_⟩
      · rw [List.mem_append, List.mem_singleton, i1 l]
        constructor
        · rintro (⟨h1, h2⟩ | rfl)
          · refine ⟨by simp [h1], fun o ho hw => ?_⟩
            rcases List.mem_append.mp ho with z | z
            · exact h2 o z hw
            · rw [List.mem_singleton.mp z] at hw
              exact (wide l h1 hw).elim
          · refine ⟨by simp, fun o ho hw => ?_⟩
            rcases List.mem_append.mp ho with z | z
            · exact (free o z hw).elim
            · exact List.mem_singleton.mp z
        · rintro ⟨h1, h2⟩
          rcases List.mem_append.mp h1 with z | z
          · exact .inl ⟨z, fun o ho hw => h2 o (by simp [ho]) hw⟩
          · exact .inr (List.mem_singleton.mp z)
      · rcases List.mem_append.mp hl with z | z
        · obtain ⟨o, h1, h2⟩ := i2 l z
          exact ⟨o, by simp [h1], h2⟩
        · rw [List.mem_singleton] at z
          subst z
          exact ⟨l, by simp, fun _ h => h⟩
/-! ### the program's lots -/
theorem sub_snoc {l xs : List Str} {s : Str} : l.Sublist (xs ++ [s]) ↔ l.Sublist xs ∨ ∃ l', l = l' ++ [s] ∧ l'.Sublist xs := by
  rw [List.sublist_append_iff]
  constructor
  · rintro ⟨l1, l2, rfl, h1, h2⟩
    rcases (show l2 = [] ∨ l2 = [s] by
      cases h2 with
      | cons _ h => exact .inl (List.sublist_nil.mp h)
      | cons_cons _ h => exact .inr (by rw [List.sublist_nil.mp h])) with e | e
    · subst e; rw [List.append_nil]; exact .inl h1
    · subst e; exact .inr ⟨l1, rfl, h1⟩
  · rintro (h | ⟨l', rfl, h⟩)
    · exact ⟨l, [], by simp, h, List.nil_sublist _⟩
    · exact ⟨l', [s], rfl, h, List.Sublist.refl _⟩
theorem calmB_iff {D : Deb} {l : List Str} {s : Str} : calmB D l s = true ↔ (s, s) ∉ D.ps ∧ ∀ m ∈ l, (m, s) ∉ D.ps ∧ (s, m) ∉ D.ps := by
  simp [calmB, mem_objs, mem_objd]
theorem calmL_mem {D : Deb} : ∀ (k : Nat) (ns : List Str), ns.length = k → ∀ l, l ∈ calmL D ns ↔ l.Sublist ns ∧ ∀ x ∈ l, ∀ y ∈ l, (x, y) ∉ D.ps
  | 0, ns, h, l => by
    have : ns = [] := List.length_eq_zero_iff.mp h
    subst this
    simp only [calmL, List.foldl_nil, List.mem_singleton, List.sublist_nil]
    constructor
    · rintro rfl; simp
    · exact fun h => h.1
  | k + 1, ns, h, l => by
    obtain ⟨xs, s, rfl⟩ : ∃ xs x, ns = xs ++ [x] := ⟨ns.dropLast, ns.getLast (by intro z; rw [z] at h; cases h), (List.dropLast_concat_getLast _).symm⟩
    have ih := calmL_mem (D := D) k xs (by simpa using h)
    rw [calmL_snoc, growC, List.mem_append, List.mem_map, ih l, sub_snoc]
    constructor
    · rintro (⟨h1, h2⟩ | ⟨l', h1, rfl⟩)
      · exact ⟨.inl h1, h2⟩
      · obtain ⟨h3, h4⟩ := List.mem_filter.mp h1
        obtain ⟨h5, h6⟩ := (ih l').mp h3
        obtain ⟨h7, h8⟩ := calmB_iff.mp h4
        refine ⟨.inr ⟨l', rfl, h5⟩, fun x hx y hy => ?_⟩
        rcases List.mem_append.mp hx with hx | hx <;> rcases List.mem_append.mp hy with hy | hy
        · exact h6 x hx y hy
        · rw [List.mem_singleton.mp hy]; exact (h8 x hx).1
        · rw [List.mem_singleton.mp hx]; exact (h8 y hy).2
        · rw [List.mem_singleton.mp hx, List.mem_singleton.mp hy]; exact h7
    · rintro ⟨h1 | ⟨l', rfl, h1⟩, h2⟩
      · exact .inl ⟨h1, h2⟩
      · refine .inr ⟨l', List.mem_filter.mpr ⟨(ih l').mpr ⟨h1, fun x hx y hy => h2 x (by simp [hx]) y (by simp [hy])⟩, calmB_iff.mpr ⟨h2 s (by simp) s (by simp), fun m hm => ⟨h2 m (by simp [hm]) s (by simp), h2 s (by simp) m (by simp [hm])⟩⟩⟩, rfl⟩
theorem hitB_iff {D : Deb} {m : List Str} {x : Str} : hitB D m x = true ↔ ∃ y ∈ m, (y, x) ∈ D.ps := by
  simp only [hitB, List.any_eq_true, Bool.and_eq_true, decide_eq_true_eq]
  constructor
  · rintro ⟨⟨a, b⟩, h1, h2, h3⟩
    subst h3
    exact ⟨a, h2, h1⟩
  · rintro ⟨y, h1, h2⟩
    exact ⟨(y, x), h2, h1, rfl⟩
theorem leftR_none {D : Deb} {h : Str → Bool} : ∀ {m : List Str}, leftR D h m = none ↔ ∀ x ∈ m, ∀ o, (o, x) ∈ D.ps → h o = true
  | [] => by simp [leftR]
  | x :: m => by
    have ih := leftR_none (D := D) (h := h) (m := m)
    rw [leftR]
    cases q : (objs D x).find? fun o => !h o with
    | some o =>
      simp only [reduceCtorEq, false_iff]
      intro z
      have h1 := List.mem_of_find?_eq_some q
      have h2 := List.find?_some q
      rw [z x (by simp) o (mem_objs.mp h1)] at h2
      cases h2
    | none =>
      rw [ih]
      rw [List.find?_eq_none] at q
      constructor
      · intro z y hy o ho
        rcases List.mem_cons.mp hy with e | e
        · subst e
          have := q o (mem_objs.mpr ho)
          simpa using this
        · exact z y e o ho
      · intro z y hy
        exact z y (by simp [hy])
theorem heldL_mem {D : Deb} {l : List Str} : l ∈ heldL D ↔ Held D.ns D.ps l := by
  have hp : (heldL D).Perm _ := sort_pm lotD ((calmL D D.ns).filter fun l => (leftP D l).isNone)
  rw [hp.mem_iff, List.mem_filter, calmL_mem _ D.ns rfl, Option.isNone_iff_eq_none, leftP, leftR_none]
  constructor
  · rintro ⟨⟨h1, h2⟩, h3⟩
    exact ⟨h1, h2, fun x hx o ho => hitB_iff.mp (h3 x hx o ho)⟩
  · rintro ⟨h1, h2, h3⟩
    exact ⟨⟨h1, h2⟩, fun x hx o ho => hitB_iff.mpr (h3 x hx o ho)⟩
theorem calmL_nd {D : Deb} : ∀ (k : Nat) (ns : List Str), ns.length = k → ns.Nodup → (calmL D ns).Nodup
  | 0, ns, h, _ => by
    have : ns = [] := List.length_eq_zero_iff.mp h
    subst this
    simp [calmL]
  | k + 1, ns, h, nd => by
    obtain ⟨xs, s, rfl⟩ : ∃ xs x, ns = xs ++ [x] := ⟨ns.dropLast, ns.getLast (by intro z; rw [z] at h; cases h), (List.dropLast_concat_getLast _).symm⟩
    rw [List.nodup_append] at nd
    have ih := calmL_nd (D := D) k xs (by simpa using h) nd.1
    rw [calmL_snoc, growC, List.nodup_append]
    refine ⟨ih, ?_, fun l hl o ho e => ?_⟩
    · rw [List.Nodup, List.pairwise_map]
      exact (ih.sublist List.filter_sublist).imp fun {a b} hne e => hne (List.append_cancel_right e)
    · obtain ⟨l', _, rfl⟩ := List.mem_map.mp ho
      have h1 := ((calmL_mem _ xs rfl l).mp hl).1
      subst e
      exact nd.2.2 s (h1.subset (by simp)) s (by simp) rfl
theorem greats_mem {D : Deb} (nd : D.ns.Nodup) {l : List Str} : l ∈ greatsD D ↔ Great D.ns D.ps l := by
  have p2 : (greatsD D).Perm (keepL ((heldL D).mergeSort fun a b => decide (b.length ≤ a.length))) := sort_pm lotD _
  have p1 := List.mergeSort_perm (heldL D) fun a b => decide (b.length ≤ a.length)
  have hn : (heldL D).Nodup := by
    have hp : (heldL D).Perm _ := sort_pm lotD ((calmL D D.ns).filter fun l => (leftP D l).isNone)
    exact hp.nodup_iff.mpr ((calmL_nd _ D.ns rfl nd).sublist List.filter_sublist)
  have pw : ((heldL D).mergeSort fun a b => decide (b.length ≤ a.length)).Pairwise (fun a b => b.length ≤ a.length) := by
    have := List.pairwise_mergeSort (le := fun a b : List Str => decide (b.length ≤ a.length)) (fun a b c h1 h2 => by simp at h1 h2 ⊢; omega) (fun a b => by simp; omega) (heldL D)
    exact this.imp fun h => by simpa using h
  obtain ⟨k1, _⟩ := keepL_ok nd _ _ rfl (p1.nodup_iff.mpr hn) (fun l hl => (heldL_mem.mp (p1.mem_iff.mp hl)).sub) pw
  rw [p2.mem_iff, k1 l, p1.mem_iff, heldL_mem]
  constructor
  · rintro ⟨h1, h2⟩
    exact ⟨h1, fun o ho hw => h2 o (p1.mem_iff.mpr (heldL_mem.mpr ho)) hw⟩
  · rintro ⟨h1, h2⟩
    exact ⟨h1, fun o ho hw => h2 o (heldL_mem.mp (p1.mem_iff.mp ho)) hw⟩
/-- each held lot lies within a greatest one -/
theorem held_great {N : List Str} {ps : List (Str × Str)} (nd : N.Nodup) : ∀ (k : Nat) (l : List Str), N.length - l.length = k → Held N ps l → ∃ g, Great N ps g ∧ ∀ x ∈ l, x ∈ g := by
  intro k
  induction k using Nat.strongRecOn with
  | _ k ih =>
    intro l hk hl
    by_cases hg : ∃ o, Held N ps o ∧ (∀ x ∈ l, x ∈ o) ∧ o ≠ l
    · obtain ⟨o, h1, h2, h3⟩ := hg
      have h4 := sub_len nd hl.sub h1.sub h2 (Ne.symm h3)
      have h5 := h1.sub.length_le
      obtain ⟨g, g1, g2⟩ := ih (N.length - o.length) (by omega) o rfl h1
      exact ⟨g, g1, fun x hx => g2 x (h2 x hx)⟩
    · refine ⟨l, ⟨hl, fun o ho hw => ?_⟩, fun _ h => h⟩
      apply Classical.byContradiction
      intro z
      exact hg ⟨o, ho, hw, z⟩
end K21

set_option Elab.async false
set_option linter.all false
set_option maxHeartbeats 4000000
/-! K21M3: what a greatest lot leaves undecided holds an odd closed walk (plain Lean). -/
namespace K21
open PySem PySem.Spec
section
variable {N : List Str} {ps : List (Str × Str)} {m : List Str}
open Classical in
theorem no_more (nd : N.Nodup) (G : Great N ps m) {S : Str → Prop} (hS : ∀ x, S x → x ∈ N) (calm : ∀ x y, (x ∈ m ∨ S x) → (y ∈ m ∨ S y) → (x, y) ∉ ps) (ans : ∀ x, S x → ∀ o, (o, x) ∈ ps → ∃ y, (y ∈ m ∨ S y) ∧ (y, o) ∈ ps) : ∀ x, S x → x ∈ m := by
  have mem : ∀ x, x ∈ N.filter (fun x => decide (x ∈ m ∨ S x)) ↔ x ∈ m ∨ S x := fun x => by
    rw [List.mem_filter, decide_eq_true_eq]
    exact ⟨fun h => h.2, fun h => ⟨h.elim (fun z => G.1.sub.subset z) (hS x), h⟩⟩
  have H : Held N ps (N.filter fun x => decide (x ∈ m ∨ S x)) := by
    refine ⟨List.filter_sublist, fun x hx y hy => calm x y ((mem x).mp hx) ((mem y).mp hy), fun x hx o ho => ?_⟩
    rcases (mem x).mp hx with h | h
    · obtain ⟨y, h1, h2⟩ := G.1.ans x h o ho
      exact ⟨y, (mem y).mpr (.inl h1), h2⟩
    · obtain ⟨y, h1, h2⟩ := ans x h o ho
      exact ⟨y, (mem y).mpr h1, h2⟩
  have e := G.2 _ H fun x hx => (mem x).mpr (.inl hx)
  intro x hx
  have := (mem x).mpr (.inr hx)
  rw [e] at this
  exact this
/-- it is complete -/
theorem great_complete (nd : N.Nodup) (G : Great N ps m) {s : Str} (hs : s ∈ N) (hm : s ∉ m) (ha : ∀ o, (o, s) ∈ ps → ∃ y ∈ m, (y, o) ∈ ps) : False := by
  have hit : ∀ y ∈ m, (y, s) ∉ ps := fun y hy h => by
    obtain ⟨z, h1, h2⟩ := ha y h
    exact G.1.calm z h1 y hy h2
  have out : ∀ y ∈ m, (s, y) ∉ ps := fun y hy h => by
    obtain ⟨z, h1, h2⟩ := G.1.ans y hy s h
    exact hit z h1 h2
  have self : (s, s) ∉ ps := fun h => by
    obtain ⟨z, h1, h2⟩ := ha s h
    exact hit z h1 h2
  refine hm (no_more nd G (S := fun x => x = s) (fun x hx => hx ▸ hs) (fun x y hx hy => ?_) (fun x hx o ho => ?_) s rfl)
  · rcases hx with hx | rfl <;> rcases hy with hy | rfl
    · exact G.1.calm x hx y hy
    · exact hit x hx
    · exact out y hy
    · exact self
  · subst hx
    obtain ⟨y, h1, h2⟩ := ha o ho
    exact ⟨y, .inl h1, h2⟩
structure Und (N : List Str) (ps : List (Str × Str)) (m : List Str) (s : Str) : Prop where
  inn : s ∈ N
  out : s ∉ m
  free : ∀ y ∈ m, (y, s) ∉ ps
def EU (N : List Str) (ps : List (Str × Str)) (m : List Str) (qs : List (Str × Str)) : Prop := ∀ p, p ∈ qs ↔ p ∈ ps ∧ Und N ps m p.1 ∧ Und N ps m p.2
def Rch (qs : List (Str × Str)) (x v : Str) : Prop := ∃ w, Wk qs x w v
theorem Rch.trans {qs : List (Str × Str)} {x y z : Str} (h1 : Rch qs x y) (h2 : Rch qs y z) : Rch qs x z := by
  obtain ⟨w1, h1⟩ := h1
  obtain ⟨w2, h2⟩ := h2
  exact ⟨_, wk_trans h1 h2⟩
theorem Rch.one {qs : List (Str × Str)} {x y : Str} (h : (x, y) ∈ qs) : Rch qs x y := ⟨[] ++ [x], .snoc .nil h⟩
theorem min_of {α : Type} (f : α → Nat) : ∀ (k : Nat) (P : α → Prop), (∃ a, P a ∧ f a ≤ k) → ∃ a, P a ∧ ∀ b, P b → f a ≤ f b := by
  intro k
  induction k with
  | zero =>
    rintro P ⟨a, h1, h2⟩
    exact ⟨a, h1, fun b _ => by omega⟩
  | succ k ih =>
    rintro P ⟨a, h1, h2⟩
    by_cases h : ∃ b, P b ∧ f b ≤ k
    · exact ih P h
    · refine ⟨a, h1, fun b hb => ?_⟩
      have : ¬ f b ≤ k := fun z => h ⟨b, hb, z⟩
      omega
open Classical in
theorem und_odd (nd : N.Nodup) (hin : ∀ p ∈ ps, p.1 ∈ N ∧ p.2 ∈ N) (G : Great N ps m) {qs : List (Str × Str)} (hq : EU N ps m qs) (hU : ∃ s, Und N ps m s) : ∃ a, Und N ps m a ∧ ∃ w, Wk qs a w a ∧ w.length % 2 = 1 := by
  apply Classical.byContradiction
  intro hno
  have even : ∀ a, Und N ps m a → ∀ w, Wk qs a w a → w.length % 2 = 0 := fun a ha w hw => by
    apply Classical.byContradiction
    intro z
    exact hno ⟨a, ha, w, hw, by omega⟩
  have obj : ∀ v, Und N ps m v → ∃ o, (o, v) ∈ qs := fun v hv => by
    apply Classical.byContradiction
    intro hn
    refine great_complete nd G hv.inn hv.out fun o ho => ?_
    apply Classical.byContradiction
    intro z
    refine hn ⟨o, (hq _).mpr ⟨ho, ⟨(hin _ ho).1, fun hm => hv.free o hm ho, fun y hy h => z ⟨y, hy, h⟩⟩, hv⟩⟩
  have away : ∀ x, Und N ps m x → ∀ z ∈ m, (x, z) ∉ ps := fun x hx z hz h => by
    obtain ⟨y, h1, h2⟩ := G.1.ans z hz x h
    exact hx.free y h1 h2
  obtain ⟨s0, hs0⟩ := hU
  obtain ⟨v, hv, hmin⟩ := min_of (fun v => (N.filter fun x => decide (Und N ps m x ∧ Rch qs x v)).length) _ (Und N ps m) ⟨s0, hs0, Nat.le_refl _⟩
  have back : ∀ x, Und N ps m x → Rch qs x v → Rch qs v x := fun x hx hr => by
    have sub : ∀ y ∈ N.filter (fun y => decide (Und N ps m y ∧ Rch qs y x)), y ∈ N.filter (fun y => decide (Und N ps m y ∧ Rch qs y v)) := fun y hy => by
      rw [List.mem_filter, decide_eq_true_eq] at hy ⊢
      exact ⟨hy.1, hy.2.1, hy.2.2.trans hr⟩
    have e : N.filter (fun y => decide (Und N ps m y ∧ Rch qs y x)) = N.filter (fun y => decide (Und N ps m y ∧ Rch qs y v)) := by
      apply Classical.byContradiction
      intro hne
      have h1 := sub_len nd List.filter_sublist List.filter_sublist sub hne
      have h2 := hmin x hx
      omega
    have hvm : v ∈ N.filter (fun y => decide (Und N ps m y ∧ Rch qs y v)) := List.mem_filter.mpr ⟨hv.inn, by rw [decide_eq_true_eq]; exact ⟨hv, [], .nil⟩⟩
    rw [← e, List.mem_filter, decide_eq_true_eq] at hvm
    exact hvm.2.2
  refine hv.out (no_more nd G (S := fun x => Und N ps m x ∧ Rch qs x v ∧ ∃ w, Wk qs v w x ∧ w.length % 2 = 0) (fun x hx => hx.1.inn) (fun x y hx hy h => ?_) (fun x hx o ho => ?_) v ⟨hv, ⟨[], .nil⟩, [], .nil, rfl⟩)
  · rcases hx with hx | ⟨hx, hxr, w1, hw1, e1⟩ <;> rcases hy with hy | ⟨hy, ⟨w3, hw3⟩, w2, hw2, e2⟩
    · exact G.1.calm x hx y hy h
    · exact hy.free x hx h
    · exact away x hx y hy h
    · have hxy : (x, y) ∈ qs := (hq _).mpr ⟨h, hx, hy⟩
      have c1 := even v hv _ (wk_trans (Wk.snoc hw1 hxy) hw3)
      have c2 := even v hv _ (wk_trans hw2 hw3)
      rw [List.length_append, List.length_append, List.length_singleton] at c1
      rw [List.length_append] at c2
      omega
  · obtain ⟨hx, ⟨w5, hw5⟩, w1, hw1, e1⟩ := hx
    by_cases hh : ∃ y ∈ m, (y, o) ∈ ps
    · obtain ⟨y, h1, h2⟩ := hh
      exact ⟨y, .inl h1, h2⟩
    · have hox : (o, x) ∈ qs := (hq _).mpr ⟨ho, ⟨(hin _ ho).1, fun hm => hx.free o hm ho, fun y hy h => hh ⟨y, hy, h⟩⟩, hx⟩
      have hou := ((hq _).mp hox).2.1
      obtain ⟨y, hyo⟩ := obj o hou
      have hyu := ((hq _).mp hyo).2.1
      have hyv : Rch qs y v := (Rch.one hyo).trans ((Rch.one hox).trans ⟨w5, hw5⟩)
      obtain ⟨w4, hw4⟩ := back y hyu hyv
      refine ⟨y, .inr ⟨hyu, hyv, w4, hw4, ?_⟩, ((hq _).mp hyo).1⟩
      have c1 := even v hv _ (wk_trans (Wk.snoc (Wk.snoc hw4 hyo) hox) hw5)
      have c2 := even v hv _ (wk_trans hw1 hw5)
      simp only [List.length_append, List.length_singleton] at c1 c2
      omega
end
end K21

set_option Elab.async false
set_option linter.all false
set_option maxHeartbeats 4000000
/-! K21M4: the law's words and the program's words agree (plain Lean). -/
namespace K21
open PySem PySem.Spec
/-- a drawn debate -/
structure NP (ns : List Str) (ps : List (Str × Str)) : Prop where
  nd : ns.Nodup
  pd : ps.Nodup
  inn : ∀ p ∈ ps, p.1 ∈ ns ∧ p.2 ∈ ns
  l1 : ns.length ≤ 64
  l2 : ps.length ≤ 4096
def mkDeb (ns : List Str) (ps : List (Str × Str)) : Deb := ⟨sortS ns, sortP ps⟩
section
variable {ns : List Str} {ps : List (Str × Str)} {m : List Str}
theorem mem_sortP {p : Str × Str} : p ∈ sortP ps ↔ p ∈ ps := (sort_pm pairD ps).mem_iff
theorem NP.ok (h : NP ns ps) : DOk (mkDeb ns ps) :=
  ⟨(sort_pm PyData.str ns).nodup_iff.mpr h.nd, fun p hp => by
    obtain ⟨h1, h2⟩ := h.inn p (mem_sortP.mp hp)
    exact ⟨mem_sortS.mpr h1, mem_sortS.mpr h2⟩, by show (sortS ns).length ≤ 64; rw [len_sortS]; exact h.l1, by
    show (sortP ps).length ≤ 4096
    have : (sortP ps).length = ps.length := (sort_pm pairD ps).length_eq
    rw [this]; exact h.l2⟩
theorem held_pm {N : List Str} {qs : List (Str × Str)} (h : ∀ p, p ∈ ps ↔ p ∈ qs) : Held N ps m ↔ Held N qs m := by
  constructor
  · rintro ⟨h1, h2, h3⟩
    exact ⟨h1, fun x hx y hy z => h2 x hx y hy ((h _).mpr z), fun x hx o ho => by
      obtain ⟨y, k1, k2⟩ := h3 x hx o ((h _).mpr ho)
      exact ⟨y, k1, (h _).mp k2⟩⟩
  · rintro ⟨h1, h2, h3⟩
    exact ⟨h1, fun x hx y hy z => h2 x hx y hy ((h _).mp z), fun x hx o ho => by
      obtain ⟨y, k1, k2⟩ := h3 x hx o ((h _).mp ho)
      exact ⟨y, k1, (h _).mpr k2⟩⟩
theorem subsL_mem : ∀ (k : Nat) (ns : List Str), ns.length = k → ∀ l, l ∈ subsL ns ↔ l.Sublist ns
  | 0, ns, h, l => by
    have : ns = [] := List.length_eq_zero_iff.mp h
    subst this
    simp [subsL]
  | k + 1, ns, h, l => by
    obtain ⟨xs, s, rfl⟩ : ∃ xs x, ns = xs ++ [x] := ⟨ns.dropLast, ns.getLast (by intro z; rw [z] at h; cases h), (List.dropLast_concat_getLast _).symm⟩
    have ih := subsL_mem k xs (by simpa using h)
    rw [subsL_snoc, growS, List.mem_append, List.mem_map, ih l, sub_snoc]
    constructor
    · rintro (h1 | ⟨l', h1, rfl⟩)
      · exact .inl h1
      · exact .inr ⟨l', rfl, (ih l').mp h1⟩
    · rintro (h1 | ⟨l', rfl, h1⟩)
      · exact .inl h1
      · exact .inr ⟨l', (ih l').mpr h1, rfl⟩
theorem subsets_mem {l : List Str} : l ∈ subsets ns ↔ l.Sublist (sortS ns) := by
  have p : (subsets ns).Perm (subsL (sortS ns)) := sort_pm lotD _
  rw [p.mem_iff, subsL_mem _ _ rfl]
theorem lhits_iff {x : Str} : lhits ps m x = true ↔ ∃ y ∈ m, (y, x) ∈ ps := by
  simp only [lhits, List.any_eq_true, decide_eq_true_eq, mem_lobjs]
  exact ⟨fun ⟨y, h1, h2⟩ => ⟨y, h2, h1⟩, fun ⟨y, h1, h2⟩ => ⟨y, h2, h1⟩⟩
theorem lans_iff {x : Str} : lans ps m x = true ↔ ∀ o, (o, x) ∈ ps → ∃ y ∈ m, (y, o) ∈ ps := by
  simp only [lans, List.all_eq_true, mem_lobjs, lhits_iff]
theorem lcalm_iff : lcalm ps m = true ↔ ∀ x ∈ m, ∀ y ∈ m, (x, y) ∉ ps := by
  simp only [lcalm, Bool.not_eq_true', List.any_eq_false, Bool.and_eq_true, decide_eq_true_eq, not_and]
  exact ⟨fun h x hx y hy hp => h (x, y) hp hx hy, fun h p hp h1 h2 => h p.1 h1 p.2 h2 hp⟩
theorem lHeld_mem {l : List Str} : l ∈ lHeld ns ps ↔ Held (sortS ns) ps l := by
  simp only [lHeld, allC, List.mem_filter, subsets_mem, lheld, Bool.and_eq_true, lcalm_iff, List.all_eq_true, lans_iff]
  exact ⟨fun ⟨⟨h1, h2⟩, _, h3⟩ => ⟨h1, h2, h3⟩, fun ⟨h1, h2, h3⟩ => ⟨⟨h1, h2⟩, h2, h3⟩⟩
theorem lGreat_mem {l : List Str} : l ∈ lGreat ns ps ↔ Great (sortS ns) ps l := by
  simp only [lGreat, List.mem_filter, lHeld_mem, Bool.not_eq_true', List.any_eq_false, Bool.and_eq_true, within_iff, decide_eq_false_iff_not, not_and, Classical.not_not]
  exact ⟨fun ⟨h1, h2⟩ => ⟨h1, fun o ho hw => (h2 o ho hw).symm⟩, fun ⟨h1, h2⟩ => ⟨h1, fun o ho hw => (h2 o ho hw).symm⟩⟩
theorem great_deb {l : List Str} : Great (sortS ns) ps l ↔ Great (mkDeb ns ps).ns (mkDeb ns ps).ps l := by
  have h : ∀ l, Held (sortS ns) ps l ↔ Held (mkDeb ns ps).ns (mkDeb ns ps).ps l := fun l => held_pm fun p => mem_sortP.symm
  constructor
  · rintro ⟨h1, h2⟩
    exact ⟨(h l).mp h1, fun o ho => h2 o ((h o).mpr ho)⟩
  · rintro ⟨h1, h2⟩
    exact ⟨(h l).mpr h1, fun o ho => h2 o ((h o).mp ho)⟩
/-! ### the fault of a lot -/
section
variable {D : Deb}
theorem clash_none : clashP D m = none ↔ ∀ x ∈ m, ∀ y ∈ m, (x, y) ∉ D.ps := by
  simp only [clashP, List.head?_eq_none_iff, List.filter_eq_nil_iff, Bool.and_eq_true, decide_eq_true_eq, not_and]
  exact ⟨fun h x hx y hy hp => h (x, y) hp hx hy, fun h p hp h1 h2 => h p.1 h1 p.2 h2 hp⟩
theorem left_none : leftP D m = none ↔ ∀ x ∈ m, ∀ o, (o, x) ∈ D.ps → ∃ y ∈ m, (y, o) ∈ D.ps := by
  simp only [leftP, leftR_none, hitB_iff]
theorem fault_pre (hD : DOk D) (hs : m.Sublist D.ns) (h1 : clashP D m = none) (h2 : leftP D m = none) : ∃ g ∈ greatsD D, withinS m g = true := by
  obtain ⟨g, g1, g2⟩ := held_great hD.nd _ m rfl ⟨hs, clash_none.mp h1, left_none.mp h2⟩
  exact ⟨g, (greats_mem hD.nd).mpr g1, within_iff.mpr g2⟩
theorem fault_great (hD : DOk D) (G : Great D.ns D.ps m) : faultG D m = .none := by
  have h1 : clashP D m = none := clash_none.mpr G.1.calm
  have h2 : leftP D m = none := left_none.mpr G.1.ans
  have h3 : (answersD D m).filter (fun s => decide (s ∉ m)) = [] := by
    rw [List.filter_eq_nil_iff]
    intro s hs hm
    simp only [answersD, List.mem_filter, List.all_eq_true, mem_objs, hitB_iff] at hs
    simp only [decide_eq_true_eq] at hm
    exact great_complete hD.nd G hs.1 hm hs.2
  have h4 : m ∈ (greatsD D).filter (withinS m) := List.mem_filter.mpr ⟨(greats_mem hD.nd).mpr G, within_iff.mpr fun _ h => h⟩
  simp only [faultG, h1, h2, faultH, h3, h4, if_true]
end
/-! ### what a greatest lot leaves undecided -/
def undL (D : Deb) (m : List Str) : List Str := D.ns.filter fun s => decide (labS D m s = "undecided")
def cutP (D : Deb) (U : List Str) : List (Str × Str) := D.ps.filter fun p => decide (p.1 ∈ U) && decide (p.2 ∈ U)
def undDeb (D : Deb) (m : List Str) : Deb := mkDeb (undL D m) (cutP D (undL D m))
theorem lab_und {D : Deb} {s : Str} : labS D m s = "undecided" ↔ s ∉ m ∧ ∀ y ∈ m, (y, s) ∉ D.ps := by
  unfold labS
  by_cases h1 : s ∈ m
  · rw [if_pos h1]
    simp only [h1, not_true_eq_false, false_and, iff_false]
    decide
  · rw [if_neg h1]
    by_cases h2 : hitB D m s = true
    · rw [if_pos h2]
      obtain ⟨y, k1, k2⟩ := hitB_iff.mp h2
      constructor
      · intro z; exact absurd z (by decide)
      · rintro ⟨_, z⟩; exact absurd k2 (z y k1)
    · rw [if_neg h2]
      simp only [h1, not_false_eq_true, true_and, true_iff]
      exact fun y hy hp => h2 (hitB_iff.mpr ⟨y, hy, hp⟩)
theorem mem_undL {D : Deb} {s : Str} : s ∈ undL D m ↔ Und D.ns D.ps m s := by
  simp only [undL, List.mem_filter, decide_eq_true_eq, lab_und]
  exact ⟨fun ⟨h1, h2, h3⟩ => ⟨h1, h2, h3⟩, fun ⟨h1, h2, h3⟩ => ⟨h1, h2, h3⟩⟩
theorem cut_NP {D : Deb} (hD : DOk D) (hp : D.ps.Nodup) {U : List Str} (hu : U.Sublist D.ns) : NP U (cutP D U) := by
  refine ⟨hD.nd.sublist hu, hp.sublist List.filter_sublist, fun p h => ?_, Nat.le_trans hu.length_le hD.l1, Nat.le_trans (List.length_filter_le _ _) hD.l2⟩
  have := (List.mem_filter.mp h).2
  simpa using this
/-- why a greatest lot is not settled -/
theorem und_ring (h : NP ns ps) (hg : m ∈ lGreat ns ps) : ((ringF (undDeb (mkDeb ns ps) m)).isSome = true ↔ ∃ s, Und (mkDeb ns ps).ns (mkDeb ns ps).ps m s) ∧
    ∀ w, ringF (undDeb (mkDeb ns ps) m) = some w → RingP ns ps (.list (sts w)) ∧ HasOdd ns ps ∧ ∀ x ∈ w, llab ps m x = "undecided" := by
  have hD := h.ok
  have hpd : (mkDeb ns ps).ps.Nodup := (sort_pm pairD ps).nodup_iff.mpr h.pd
  have G := great_deb.mp (lGreat_mem.mp hg)
  generalize hDD : mkDeb ns ps = D at hD hpd G
  have cN := cut_NP hD hpd (U := undL D m) List.filter_sublist
  have hU := cN.ok
  have L : LeastW (undDeb D m) (ringF (undDeb D m)) := ringF_ok hU
  have eN : ∀ s, s ∈ (undDeb D m).ns ↔ Und D.ns D.ps m s := fun s => by
    show s ∈ sortS _ ↔ _
    rw [mem_sortS, mem_undL]
  have eP : EU D.ns D.ps m (undDeb D m).ps := fun p => by
    show p ∈ sortP _ ↔ _
    rw [mem_sortP, cutP, List.mem_filter]
    simp only [Bool.and_eq_true, decide_eq_true_eq, mem_undL]
  have inD : ∀ x, x ∈ (undDeb D m).ns → x ∈ ns := fun x hx => by
    have := ((eN x).mp hx).inn
    rw [← hDD] at this
    exact mem_sortS.mp this
  have inP : ∀ p, p ∈ (undDeb D m).ps → p ∈ ps := fun p hp => by
    have := ((eP p).mp hp).1
    rw [← hDD] at this
    exact mem_sortP.mp this
  refine ⟨?_, fun w hw => ?_⟩
  · rw [least_some L]
    constructor
    · rintro ⟨a, ha, _⟩
      exact ⟨a, (eN a).mp ha⟩
    · rintro hs
      obtain ⟨a, ha, w, hw, ho⟩ := und_odd hD.nd hD.inn G eP hs
      exact ⟨a, (eN a).mpr ha, w, hw, ho⟩
  · rw [hw] at L
    obtain ⟨ws, h1, h2, h3, h4, h5⟩ := least_ring hU L
    have e : ws = w := by
      rcases h1 with h1 | h1
      · simp only [PyData.list.injEq] at h1
        rw [← unS_sts ws, ← h1, unS_sts]
      · cases h1
    subst e
    refine ⟨⟨ws, .inl rfl, h2, h3, fun x hx => inD x (h4 x hx), fun i x y hy hx => inP _ (h5 i x y hy hx)⟩, ?_, fun x hx => ?_⟩
    · obtain ⟨a, ha, hwk, ho, _⟩ := L
      exact ⟨a, inD a ha, ws, wk_mono inP hwk, ho⟩
    · have hu := (eN x).mp (h4 x hx)
      unfold llab
      rw [if_neg hu.out, if_neg fun z => ?_]
      obtain ⟨y, k1, k2⟩ := lhits_iff.mp z
      refine hu.free y k1 ?_
      rw [← hDD]
      exact mem_sortP.mpr k2
theorem settled_iff (h : NP ns ps) (hg : m ∈ lGreat ns ps) : m ∈ lSettled ns ps ↔ ¬ ∃ s, Und (mkDeb ns ps).ns (mkDeb ns ps).ps m s := by
  have G := lGreat_mem.mp hg
  have hc : m ∈ allC ns ps := List.mem_filter.mpr ⟨subsets_mem.mpr G.1.sub, lcalm_iff.mpr G.1.calm⟩
  simp only [lSettled, List.mem_filter, hc, true_and, List.all_eq_true, Bool.or_eq_true, decide_eq_true_eq, lhits_iff]
  constructor
  · rintro hall ⟨s, hs⟩
    rcases hall s (mem_sortS.mp hs.inn) with z | ⟨y, k1, k2⟩
    · exact hs.out z
    · exact hs.free y k1 (mem_sortP.mpr k2)
  · intro hn x hx
    by_cases h1 : x ∈ m
    · exact .inl h1
    · refine .inr ?_
      apply Classical.byContradiction
      intro z
      exact hn ⟨x, mem_sortS.mpr hx, h1, fun y hy hp => z ⟨y, hy, mem_sortP.mp hp⟩⟩
theorem ring_deb {t : PD} : RingP ns ps t ↔ RingP (mkDeb ns ps).ns (mkDeb ns ps).ps t := by
  constructor
  · rintro ⟨ws, h1, h2, h3, h4, h5⟩
    exact ⟨ws, h1, h2, h3, fun x hx => mem_sortS.mpr (h4 x hx), fun i x y hy hx => mem_sortP.mpr (h5 i x y hy hx)⟩
  · rintro ⟨ws, h1, h2, h3, h4, h5⟩
    exact ⟨ws, h1, h2, h3, fun x hx => mem_sortS.mp (h4 x hx), fun i x y hy hx => mem_sortP.mp (h5 i x y hy hx)⟩
theorem odd_deb (h : NP ns ps) : (ringF (mkDeb ns ps)).isSome = true ↔ HasOdd ns ps := by
  rw [least_some (ringF_ok h.ok)]
  constructor
  · rintro ⟨a, ha, w, hw, ho⟩
    exact ⟨a, mem_sortS.mp ha, w, wk_mono (fun p hp => mem_sortP.mp hp) hw, ho⟩
  · rintro ⟨a, ha, w, hw, ho⟩
    exact ⟨a, mem_sortS.mpr ha, w, wk_mono (fun p hp => mem_sortP.mpr hp) hw, ho⟩
theorem ring_told (h : NP ns ps) {w : List Str} (hw : ringF (mkDeb ns ps) = some w) : RingP ns ps (.list (sts w)) := by
  have L := ringF_ok h.ok
  rw [hw] at L
  exact ring_deb.mpr (least_ring h.ok L)
end
end K21

set_option Elab.async false
set_option linter.all false
set_option maxRecDepth 100000
set_option maxHeartbeats 4000000
/-! K21E1: draws. -/
namespace K21
open PySem PySem.Spec PyProof.Rows L2
section
variable {P : Program} {w : World} {K : PySem.W.Frag} {mg : Str → Option Value} {base : Heap} {c : Cst}
theorem sc__law_draw : FnScope ["_law_stream", "_law_many", "_law_mixed_here", "_law_cell", "_law_digit"] ["_law_stream", "_law_many"] (defScope (topS 51)) := ⟨rfl, rfl, rfl, by decide +kernel, rfl, by decide +kernel, by decide +kernel⟩
def pre_draw (ds : List DV) (n : Nat) : Prop := ∃ k : Nat, 0 < k ∧ k < 1000000 ∧ n < 1000000 ∧ ds = [.strm, .py (.int (k : Nat))]
def post_draw (ds : List DV) (n : Nat) (d : DV) (n' : Nat) : Prop := n' = n + 1 ∧ ∃ k i : Nat, ds = [.strm, .py (.int (k : Nat))] ∧ d = .py (.int (i : Nat)) ∧ i < k
/-- the stream, its cells; the rest of the heap only grows -/
structure Strm (a cc : Addr) (H0 : Hp) (cells : List Int) (x i m : Int) (H : Hp) : Prop where
  ne : a ≠ cc
  ha : H a = some (.lst [.ref cc, .int x, .int i, .int m])
  hc : H cc = some (.lst (cells.map V.int))
  gr : ∀ b o, H0 b = some o → b ≠ a → b ≠ cc → H b = some o
theorem ok_draw (D : DefAt K mg "_law_draw" (topS 51)) (B : Bn mg) : OkD P w K mg base c "_law_draw" ["_law_stream", "_law_many"] 1 pre_draw post_draw := by
  obtain ⟨f, fd, F, m⟩ := D.ex
  refine ⟨f, fd, m, F.kp, F.binds (fun _ _ _ _ _ _ us hl => match us, hl with | [_, _], _ => rfl), F.ok (k := 0) sc__law_draw (fun vs H Q E h => ?_) (fun cdv A outer s H vs Q E hr h => ?_)⟩
  · obtain ⟨g, ds, n, _, _, _, _, rs, ⟨k, _, _, _, rfl⟩, _⟩ := h
    have := Paired.length rs
    simpa using this
  · obtain ⟨g, ds, n, hg, hH, hA, b, rs, ⟨k, hk0, hk1, hn, rfl⟩, q⟩ := h
    have one : ∀ {X : Cx} {j : Nat} {z : Pos}, PE X (.Constant (.int (j : Nat)) 0 z) (tC (.int (j : Nat))) := fun {X j z} => pe_int
    refine ⟨_, pss_cons (ps_asg (pe_op op_add (pe_ix ix_list (pv 0) pe_int (by intro _ _; rfl)) pe_int) (pg_sub (pv 0) pe_int L2.set_list)) (pss_cons (ps_while PassesOwn.never ((pw_and (pt_cmpR (op_eqD (hu64 hr)) (pe_ix ix_list (pv 0) pe_int (by intro _ _; rfl)) pe_int (nomark _)) (pw_and1 (pt_cmpR (op_neD (hu64 hr)) (pe_ix ix_list (pv 0) pe_int (by intro _ _; rfl)) (pe_lst pa_nil) (nomark _)))).pt)
      (pss_cons (ps_set (i := 3) sc__law_draw.nd rfl (.inl rfl) (pe_bm PySem.F.plainAttrs_list PySem.F.slot_list_pop PySem.F.type_list_pop mt_popAt (pe_ix ix_list (pv 0) pe_int (by intro _ _; rfl)) (pa_cons pe_int pa_nil rfl)) rfl (.inl rfl))
      (pss_cons (ps_asg (pe_op op_mod (pe_callTy call_int1 rfl B.int (by decide +kernel) (pa_cons (pe_op op_add (pe_op op_add (pe_op op_mul (pe_ix ix_list (pv 0) pe_int (by intro _ _; rfl)) pe_int) (pv 3)) pe_int) pa_nil rfl)) pe_int) (pg_sub (pv 0) pe_int L2.set_list))
      (pss_one (ps_asg (pe_ifExp (pt_cmpR op_ge (pv 3) (pe_op op_pow pe_int pe_int) (nomark _)) (pv 3) pe_int) (pg_sub (pv 0) pe_int L2.set_list))))))
      (pss_cons (ps_if (pt_cmpR op_gt (pe_ix ix_list (pv 0) pe_int (by intro _ _; rfl)) pe_int (nomark _))
        (pss_cons (ps_set (i := 4) sc__law_draw.nd rfl (.inl rfl) (pe_op op_mod (pe_callTy call_int1 rfl B.int (by decide +kernel) (pa_cons (pe_ix ix_list (pv 0) pe_int (by intro _ _; rfl)) pa_nil rfl)) (pv 1)) rfl (.inl rfl))
        (pss_cons (ps_asg (pe_op op_fdiv (pe_ix ix_list (pv 0) pe_int (by intro _ _; rfl)) (pv 1)) (pg_sub (pv 0) pe_int L2.set_list))
        (pss_one (ps_ret (pv 4))))) pss_nil)
      (pss_cons (ps_set (i := 2) sc__law_draw.nd rfl (.inl rfl) (pe_op op_mod (pe_callTy call_int1 rfl B.int (by decide +kernel) (pa_cons (pe_op op_pow (pe_op op_add (pe_op op_add (pe_ix ix_list (pv 0) pe_int (by intro _ _; rfl)) (pe_op op_mul pe_int (pe_ix ix_list (pv 0) pe_int (by intro _ _; rfl)))) pe_int) pe_int) pa_nil rfl)) pe_int) rfl (.inl rfl))
      (pss_one (ps_ret (pe_op op_mod (pe_op op_mod (pe_callTy call_int1 rfl B.int (by decide +kernel) (pa_cons (pe_op op_pow (pe_op op_add (pe_op op_add (pe_op op_mul (pv 2) pe_int) (pe_op op_mul pe_int (pe_ix ix_list (pv 0) pe_int (by intro _ _; rfl)))) pe_int) pe_int) pa_nil rfl)) pe_int) (pv 1))))))), ?_⟩
    obtain ⟨hS, hc⟩ | ⟨sa, hS⟩ : (g.S = none ∧ False) ∨ ∃ sa, g.S = some sa := by
      cases rs with
      | cons h _ => obtain ⟨sa, e, _⟩ := h; exact .inr ⟨sa, e⟩
    · exact hc.elim
    obtain ⟨a, cc⟩ := sa
    have so := b.str (a, cc) hS
    obtain ⟨ne, cells, x, i, mm, ha, hcc, x0, xb, cb, i0, in_, m0, mb⟩ := so
    have hvs : vs = [.ref a, .int (k : Nat)] := by
      cases rs with
      | cons h t =>
        cases t with
        | cons h2 t2 =>
          cases t2
          obtain ⟨sa, e, rfl⟩ := h
          rw [hS] at e
          cases e
          cases h2
          rfl
    subst hvs
    have st0 : L2.start ["_law_stream", "_law_many", "_law_mixed_here", "_law_cell", "_law_digit"] [V.ref a, .int (k : Nat)] = [some (.ref a), some (.int (k : Nat)), none, none, none] := rfl
    rw [st0]
    simp only [tSeq, tAsg, tOp, rI0, rI, rIx, rIxL, tVar, tC, gSub, rSetL, gName, tRet, tIfS, tTest, tCB, tCons, tNil, tNext, tIf, tBM, tLst, rPopAt, tAnd, rEqD, rNeD]
    refine ⟨.ref a, rfl, a, _, 2, .int i, rfl, rfl, .of ha, atI_nat (j := 2) rfl, i, 1, rfl, rfl, .ref a, rfl, a, _, 2, 2, rfl, rfl, ha, rfl, ?_⟩
    subst hH
    have dis : ∀ z, g.F0 z ≠ none → z ≠ a ∧ z ≠ cc := fun z hz => ⟨fun e => hz (by rw [e]; exact b.strF a ⟨(a, cc), hS, .inl rfl⟩), fun e => hz (by rw [e]; exact b.strF cc ⟨(a, cc), hS, .inr rfl⟩)⟩
    have fin : ∀ {cells : List Int} {x i mm : Int} {H' : Hp}, Strm a cc g.H0 cells x i mm H' → 0 ≤ x → x.natAbs < 2 ^ 1048577 → (∀ z ∈ cells, z.natAbs < 2 ^ 1048577) → 0 ≤ i → i ≤ (n + 1 : Nat) → 0 ≤ mm → mm < 2147483647 → Bas g g.F0 (n + 1) H' := by
      intro cells x i mm H' S h1 h2 h3 h4 h5 h6 h7
      refine ⟨fun z o e => ?_, .refl _, fun z o h1 h2 _ => absurd (h2.symm.trans h1) (Option.some_ne_none _), fun z o e _ hs => S.gr z o e (fun q => hs ⟨(a, cc), hS, .inl q⟩) (fun q => hs ⟨(a, cc), hS, .inr q⟩), fun z ps e => ⟨ps, S.gr z _ e (fun q => by rw [q, ha] at e; cases e) (fun q => by rw [q, hcc] at e; cases e)⟩, b.ntb, fun p hp => ?_, fun sa e => ?_, b.strF, b.anc⟩
      · obtain ⟨n1, n2⟩ := dis z (by rw [e]; simp)
        rcases b.und z o e with h | ⟨od, kv, e1, h⟩
        · exact .inl (S.gr z _ h n1 n2)
        · exact .inr ⟨od, kv, e1, S.gr z _ h n1 n2⟩
      · obtain ⟨ps, e1, e2, e3⟩ := b.tab p hp
        refine ⟨ps, S.gr _ _ e1 (fun q => by rw [q, ha] at e1; cases e1) (fun q => by rw [q, hcc] at e1; cases e1), e2, fun pos cv hcv => ?_⟩
        obtain ⟨co, f1, f2⟩ := e3 pos cv hcv
        exact ⟨co, f1, S.gr _ _ f2 (fun q => by rw [q, ha] at f2; unfold LamX.CodeO at f2; cases f2) (fun q => by rw [q, hcc] at f2; unfold LamX.CodeO at f2; cases f2)⟩
      · rw [hS] at e
        cases e
        exact ⟨ne, cells, x, i, mm, S.ha, S.hc, h1, h2, h3, h4, h5, h6, h7⟩
    generalize (2 ^ 1048577 : Nat) = BB at xb cb fin
    have S0 : Strm a cc g.H0 cells x (i + 1) mm (upd g.H0 a (.lst ([V.ref cc, .int x, .int i, .int mm].set 2 (.int (i + 1))))) := ⟨ne, upd_same, by rw [upd_ne (Ne.symm ne)]; exact hcc, fun z o e h1 _ => by rw [upd_ne h1]; exact e⟩
    generalize upd g.H0 a (.lst ([V.ref cc, .int x, .int i, .int mm].set 2 (.int (i + 1)))) = H1 at S0
    generalize (cxOf CX0 P w K mg base ["_law_stream", "_law_many", "_law_mixed_here", "_law_cell", "_law_digit"] "_law_draw" (defScope (topS 51)) f cdv A outer s g.H0 E).K = KK
    refine ⟨fun m s' H' => ∃ cells x mm o3, s' = [some (.ref a), some (.int (k : Nat)), none, o3, none] ∧ Strm a cc g.H0 cells x (i + 1) mm H' ∧ 0 ≤ x ∧ x.natAbs < BB ∧ (∀ z ∈ cells, z.natAbs < BB) ∧ 0 ≤ mm ∧ mm < 2147483647 ∧ m = cells.length, ⟨_, cells, x, mm, none, rfl, S0, x0, xb, cb, m0, mb, rfl⟩, ?_⟩
    clear S0 H1 ha hcc x0 xb cb m0 mb
    rintro m s1 H1 ⟨cells, x, mm, o3, rfl, S, x0, xb, cb, m0, mb, rfl⟩
    have shI : ∀ z : Int, SeqAt.shaped (.int z) = true := fun z => by simp [SeqAt.shaped, PyData.canLay0, PyData.depth]
    have eqI : ∀ z u : Int, PyData.eqv (.int z) (.int u) = decide (z = u) := fun z u => by
      simp only [PyData.eqv]
      exact Bool.beq_eq_decide_eq z u
    simp only [tSeq, tAsg, tOp, rI0, rI, rIx, rIxL, tVar, tC, gSub, rSetL, gName, tRet, tIfS, tTest, tCB, tCons, tNil, tNext, tIf, tBM, tLst, rPopAt, tAnd, rEqD, rNeD]
    refine ⟨.ref a, rfl, a, _, 1, .int x, rfl, rfl, .of S.ha, atI_nat (j := 1) rfl, .int x, .int 0, .int x, .int 0, shI x, shI 0, _, rfl, ?_⟩
    rw [eqI]
    by_cases hx0 : x = 0
    · rw [decide_eq_true hx0, if_pos rfl]
      refine ⟨.ref a, rfl, a, _, 0, .ref cc, rfl, rfl, .of S.ha, atI_nat (j := 0) rfl, by simp, fun p hp => ?_⟩
      have pa : a ≠ p := ne_of_none S.ha hp
      have pc : cc ≠ p := ne_of_none S.hc hp
      have T : Strm a cc g.H0 cells x (i + 1) mm (upd H1 p (.lst [])) := ⟨ne, by rw [upd_ne pa]; exact S.ha, by rw [upd_ne pc]; exact S.hc, fun z o e h1 h2 => by
        have h3 := S.gr z o e h1 h2
        rw [upd_ne (ne_of_none h3 hp)]; exact h3⟩
      have ep : upd H1 p (.lst []) p = some (.lst []) := upd_same
      generalize upd H1 p (.lst []) = H2 at T ep
      have dpc : ∀ cs : List Int, DpAll KK H2 (cs.map V.int) (cs.map PyData.int) := fun cs => by
        induction cs with
        | nil => exact .nil
        | cons z cs ih => exact .cons (.int z) ih
      have shc : SeqAt.shaped (.list (cells.map PyData.int)) = true := by
        have : ∀ cs : List Int, PyData.canLayAll0 (cs.map PyData.int) = true ∧ PyData.depthAll (cs.map PyData.int) = 0 := fun cs => by
          induction cs with
          | nil => simp [PyData.canLayAll0, PyData.depthAll]
          | cons z cs ih => simp [PyData.canLayAll0, PyData.canLay0, PyData.depthAll, PyData.depth, ih]
        obtain ⟨k1, k2⟩ := this cells
        simp [SeqAt.shaped, PyData.canLay0, PyData.depth, k1, k2]
      refine ⟨.list (cells.map PyData.int), .list [], .lst (.of T.hc) (dpc cells), .lst (.of ep) .nil, shc, by simp [SeqAt.shaped, PyData.canLay0, PyData.canLayAll0, PyData.depth, PyData.depthAll], _, rfl, ?_⟩
      rw [eqv_nil]
      cases cells with
      | nil =>
        rw [if_neg (by simp)]
        refine ⟨.ref a, rfl, a, _, 1, .int x, rfl, rfl, .of T.ha, atI_nat (j := 1) rfl, x, 0, rfl, rfl, _, rfl, ?_⟩
        rw [if_neg (by simp; omega)]
        have hb : CMul 7919 (i + 1) := .inl (by omega)
        refine ⟨.ref a, rfl, a, _, 3, .int mm, rfl, rfl, .of T.ha, atI_nat (j := 3) rfl, .ref a, rfl, a, _, 2, .int (i + 1), rfl, rfl, .of T.ha, atI_nat (j := 2) rfl, _, _, rfl, rfl, hb, _, _, rfl, rfl, _, _, rfl, rfl, _, _, rfl, rfl, ⟨by omega, by omega, by omega⟩, .inl ⟨_, rfl, _, _, rfl, rfl, by omega, ?_⟩⟩
        generalize hz : (mm + 7919 * (i + 1) + 104729) ^ (5 : Int).toNat % 2147483629 = z
        have z0 : 0 ≤ z ∧ z < 2147483629 := by rw [← hz]; omega
        refine ⟨.int z, rfl, _, _, rfl, rfl, .inr (by omega), .ref a, rfl, a, _, 2, .int (i + 1), rfl, rfl, .of T.ha, atI_nat (j := 2) rfl, _, _, rfl, rfl, .inl (by omega), _, _, rfl, rfl, _, _, rfl, rfl, _, _, rfl, rfl, ⟨by omega, by omega, by omega⟩, .inl ⟨_, rfl, _, _, rfl, rfl, by omega, .int (k : Nat), rfl, _, _, rfl, rfl, by omega, ?_⟩⟩
        generalize (z * 48271 + 30011 * (i + 1) + 29) ^ (3 : Int).toNat % 1000000007 = u
        have u1 : 0 ≤ u % (k : Int) := Int.emod_nonneg _ (by omega)
        have u2 : u % (k : Int) < k := Int.emod_lt_of_pos _ (by omega)
        refine q g.F0 (.py (.int (u % k))) (n + 1) _ _ (fin T x0 xb cb (by omega) (by omega) m0 mb) (Dz.int _) rfl ⟨rfl, k, (u % k).toNat, rfl, ?_, by omega⟩
        congr 2
        omega
      | cons c0 cs =>
        rw [if_pos (by simp)]
        have T3 : Strm a cc g.H0 cs x (i + 1) mm (upd H2 cc (.lst (((c0 :: cs).map V.int).eraseIdx 0))) := ⟨ne, by rw [upd_ne ne]; exact T.ha, upd_same, fun z o e h1 h2 => by rw [upd_ne h2]; exact T.gr z o e h1 h2⟩
        refine ⟨fun s' H' => ∃ m', m' < (c0 :: cs).length ∧ ∃ cells x mm o3, s' = [some (.ref a), some (.int (k : Nat)), none, o3, none] ∧ Strm a cc g.H0 cells x (i + 1) mm H' ∧ 0 ≤ x ∧ x.natAbs < BB ∧ (∀ z ∈ cells, z.natAbs < BB) ∧ 0 ≤ mm ∧ mm < 2147483647 ∧ m' = cells.length, fun _ _ h => h,
          .ref a, rfl, a, _, 0, .ref cc, rfl, rfl, .of T.ha, atI_nat (j := 0) rfl, .inl ⟨rfl, _, .of T.hc⟩, cc, _, 0, 0, .int c0, rfl, rfl, T.hc, by omega, by omega, seqIndex_nat (k := 0) (by simp), rfl, ?_⟩
        generalize upd H2 cc (.lst (((c0 :: cs).map V.int).eraseIdx 0)) = H3 at T3
        refine ⟨.ref a, rfl, a, _, 3, .int mm, rfl, rfl, .of T3.ha, atI_nat (j := 3) rfl, _, _, rfl, rfl, .inr (by omega), .int c0, rfl, _, _, rfl, rfl, _, _, rfl, rfl, .inl ⟨_, rfl, _, _, rfl, rfl, by omega, .ref a, rfl, a, _, 3, 3, rfl, rfl, T3.ha, rfl, ?_⟩⟩
        generalize hz : (mm * 8191 + c0 + 3) % 2147483647 = z
        have z0 : 0 ≤ z ∧ z < 2147483647 := by rw [← hz]; omega
        have T4 : Strm a cc g.H0 cs x (i + 1) z (upd H3 a (.lst ([V.ref cc, .int x, .int (i + 1), .int mm].set 3 (.int z)))) := ⟨ne, upd_same, by rw [upd_ne (Ne.symm ne)]; exact T3.hc, fun y o e h1 h2 => by rw [upd_ne h1]; exact T3.gr y o e h1 h2⟩
        generalize upd H3 a (.lst ([V.ref cc, .int x, .int (i + 1), .int mm].set 3 (.int z))) = H4 at T4
        have T5 : ∀ u, Strm a cc g.H0 cs u (i + 1) z (upd H4 a (.lst ([V.ref cc, .int x, .int (i + 1), .int z].set 1 (.int u)))) := fun u => ⟨ne, upd_same, by rw [upd_ne (Ne.symm ne)]; exact T4.hc, fun y o e h1 h2 => by rw [upd_ne h1]; exact T4.gr y o e h1 h2⟩
        refine ⟨.int c0, rfl, _, _, rfl, rfl, ⟨by omega, by omega, by omega⟩, _, _, rfl, rfl, _, rfl, ?_⟩
        have c0b : c0.natAbs < BB := cb c0 (by simp)
        have csb : ∀ z ∈ cs, z.natAbs < BB := fun z hz => cb z (by simp [hz])
        by_cases hge : (10 : Int) ^ (18 : Int).toNat ≤ c0
        · rw [decide_eq_true hge, if_pos rfl]
          have : 0 ≤ c0 := Int.le_trans (by decide) hge
          exact ⟨.int c0, rfl, .ref a, rfl, a, _, 1, 1, rfl, rfl, T4.ha, rfl, cs.length, by simp, cs, c0, z, _, rfl, T5 c0, this, c0b, csb, z0.1, z0.2, rfl⟩
        · rw [decide_eq_false hge, if_neg (by simp)]
          exact ⟨.ref a, rfl, a, _, 1, 1, rfl, rfl, T4.ha, rfl, cs.length, by simp, cs, 0, z, _, rfl, T5 0, by omega, by omega, csb, z0.1, z0.2, rfl⟩
    · rw [decide_eq_false hx0, if_neg (by simp)]
      refine ⟨.ref a, rfl, a, _, 1, .int x, rfl, rfl, .of S.ha, atI_nat (j := 1) rfl, x, 0, rfl, rfl, _, rfl, ?_⟩
      rw [if_pos (by simp; omega)]
      refine ⟨.ref a, rfl, a, _, 1, .int x, rfl, rfl, .of S.ha, atI_nat (j := 1) rfl, .inl ⟨x, rfl, .int (k : Nat), rfl, x, k, rfl, rfl, by omega, .ref a, rfl, a, _, 1, .int x, rfl, rfl, .of S.ha, atI_nat (j := 1) rfl, .int (k : Nat), rfl, x, k, rfl, rfl, ⟨by omega, by omega⟩, .ref a, rfl, a, _, 1, 1, rfl, rfl, S.ha, rfl, .int (x % k), rfl, ?_⟩⟩
      have T : Strm a cc g.H0 cells (x / k) (i + 1) mm (upd H1 a (.lst ([V.ref cc, .int x, .int (i + 1), .int mm].set 1 (.int (x / k))))) := ⟨ne, upd_same, by rw [upd_ne (Ne.symm ne)]; exact S.hc, fun z o e h1 h2 => by rw [upd_ne h1]; exact S.gr z o e h1 h2⟩
      have h1 : 0 ≤ x / (k : Int) := Int.ediv_nonneg x0 (by omega)
      have h2 : x / (k : Int) ≤ x := Int.ediv_le_self _ x0
      have u1 : 0 ≤ x % (k : Int) := Int.emod_nonneg _ (by omega)
      have u2 : x % (k : Int) < k := Int.emod_lt_of_pos _ (by omega)
      refine q g.F0 (.py (.int (x % k))) (n + 1) _ _ (fin T h1 (Nat.lt_of_le_of_lt (by omega) xb) cb (by omega) (by omega) m0 mb) (Dz.int _) rfl ⟨rfl, k, (x % k).toNat, rfl, ?_, by omega⟩
      congr 2
      omega
end
end K21

set_option Elab.async false
set_option linter.all false
set_option maxRecDepth 100000
set_option maxHeartbeats 4000000
/-! K21E2: what the law draws: one of some things, an order, lists in the place of tuples. -/
namespace K21
open PySem PySem.Spec PyProof.Rows L2
section
variable {X : Cx} {c : Cst} {e a elt tg iter : Expr} {ifs : List Expr} {scope : Scope} {own : List (Str × Nat)} {te : TED} {tt : TTD} {src : TSrc} {x : Str} {pos pos' p : Pos} {i : Nat}
/-- x = list(e), the list to be changed -/
@[simp] def sListM (i : Nat) (te : TED) : TSD := fun E r n => te r n fun d r1 n1 => ∃ es, seqOf d = some es ∧ E.nx (r1.set i (some (.mu (.lst es)))) n1
theorem ds_listM {pn : Pos} (hN : X.N.Nodup) (hi : X.N[i]? = some x) (hx : Loc X.env.scope x) (hg : Gl X "list") (hm : X.mg "list" = none) (h : DE c X a te) (he : starEach [a] X.env = (false, eval a X.env) :: starEach [] X.env := by rfl) (hpl : (backTo p (starEach [] X.env)).any (·.1) = false := by rfl)
    (hs : swapsWith (.Call (.Name "list" pn) [a] [] p) (some (.Name x pos')) pos.line X.env = pure false := by rfl) (hf : X.fn x = true ∨ X.env.scope.names.lookup x = some .local := by first | exact .inl rfl | exact .inr rfl | assumption) :
    DS c X (.Assign [.Name x pos'] (.Call (.Name "list" pn) [a] [] p) pos) (sListM i te) := ⟨fun g hgc => PS.imp (ps_set hN hi hx (pe_callTy call_list_of hg hm (by decide +kernel) (pa_cons (h.run g hgc) pa_nil he) (he := he) (hpl := hpl)) hs hf) fun D s H ⟨F, r, n, E, R, q, k⟩ =>
  ⟨F, r, n, _, R, q, fun F1 d r1 n1 v H1 sb R1 rv q1 => by
    obtain ⟨es, e1, q1⟩ := q1
    cases d with
    | py d =>
      cases rv <;> simp at e1
      case lst f1 f2 =>
        subst e1
        exact ⟨_, _, rfl, .inl (.of (R1.bas.und.lst f1)), fun l hl => k.nx F1 _ n1 _ _ sb (R1.newM (m := .lst _) hl ⟨_, upd_same, f2⟩) q1⟩
      case tup f1 f2 =>
        subst e1
        exact ⟨_, _, rfl, .inr (.of (R1.bas.und.tup f1)), fun l hl => k.nx F1 _ n1 _ _ sb (R1.newM (m := .lst _) hl ⟨_, upd_same, f2⟩) q1⟩
    | _ => simp at e1⟩⟩
/-- a comprehension's list, to be changed -/
def sLcM (i : Nat) (b : Bnd) (src : TSrc) (tt : TTD) (te : TED) (vs : List Nat) : TSD := fun E r n => src r n fun ds r1 n1 => ∃ I : Nat → List PD → DEnv → Nat → Prop, I 0 [] (wipeD r1 vs) n1 ∧ TurnD b tt te vs ds I ∧
  ∀ acc r n, I ds.length acc r n → E.nx (r.set i (some (.mu (.lst acc)))) n
theorem ds_newLc {y : Str} {py spos : Pos} (hy : X.N[i]? = some y) (hyl : X.env.scope.names.lookup y = some .local) (b : Bnd) (hc : X.calm = true) (hN : X.N.Nodup) (hi : DI c X tg iter src) (ok : BlkOk X.N X.env.scope scope own)
    (hb : ∀ (s : Shared) (H : Hp) (C : Addr) (cl : List (Str × Addr)) (fp : List Addr), PG (X.blk s H scope (compEnvC scope cl C X.env) fp) tg (b.tg X.K)) (ht : ∀ (s : Shared) (H : Hp) (C : Addr) (cl : List (Str × Addr)) (fp : List Addr), DTs c (X.blk s H scope (compEnvC scope cl C X.env) fp) ifs tt)
    (he : ∀ (s : Shared) (H : Hp) (C : Addr) (cl : List (Str × Addr)) (fp : List Addr), DE c (X.blk s H scope (compEnvC scope cl C X.env) fp) elt te)
    (hsw : swapsWith (.ListComp elt [⟨tg, iter, ifs, 0⟩] scope pos) (some (.Name y py)) spos.line X.env = pure true) (hbs : ∀ i ∈ b.slots, i ∈ own.map (·.2) := by decide) (hs : ∀ x, foldedSetIterable iter X.env x = pure x := by intro _; rfl) :
    DS c X (.Assign [.Name y py] (.ListComp elt [⟨tg, iter, ifs, 0⟩] scope pos) spos) (sLcM i b src tt te (own.map (·.2))) := ⟨fun g hg =>
  PS.imp (ps_setLc hc hN hy hyl hsw (hi.run g hg) ok hb (fun s H C cl fp => (ht s H C cl fp).run) (fun s H C cl fp => (he s H C cl fp).x) hs) fun D s H ⟨F, r, n, E, R, p, k⟩ =>
    ⟨F, r, n, _, R, p, fun F1 ds r1 n1 J H1 sb R1 sv ⟨I, h0, hs, hP⟩ => lcD_core0 (Q := fun v H' => D.nx (s.set i (some v)) H') hg hbs sv R1 (fun F2 H2 s2 st => ⟨s2, R1.undA' st⟩) I h0 hs fun F2 acc r2 n2 L H2 ws s2 R2 eL fL hz nL h0L hSL _ hI _ =>
      k.nx F2 _ n2 _ H2 (sb.trans s2) (R2.setM (i := i) (p := L) (m := .lst acc) fL h0L hSL ⟨ws, eL, hz⟩ fun j m' e1 e2 => nL ⟨j, m', e1, e2⟩) (hP acc r2 n2 hI)⟩⟩
/-- list(range(n)) -/
@[simp] def dLstRg (te : TED) : TED := fun r n P => te r n fun d r1 n1 => ∃ k : Nat, d = .py (.int (k : Nat)) ∧ k ≤ 1000000 ∧ P (.py (.list (rngD k))) r1 n1
theorem de_listRg {p2 p3 : Pos} (hc : X.calm = true) (hgl : Gl X "list") (hml : X.mg "list" = none) (hgr : Gl X "range") (hmr : X.mg "range" = none) (h : DE c X a te) (na : starEach [.Call (.Name "range" p2) [a] [] p3] X.env = (false, eval (.Call (.Name "range" p2) [a] [] p3) X.env) :: starEach [] X.env := by rfl) (na2 : starEach [a] X.env = (false, eval a X.env) :: starEach [] X.env := by rfl) :
    DE c X (.Call (.Name "list" p) [.Call (.Name "range" p2) [a] [] p3] [] pos) (dLstRg te) := ⟨fun g hgc => PE.imp (pe_listRg hc hgl hml (prg_1 hgr hmr (h.run g hgc) na2) na) fun s H Q ⟨F, r, n, P, R, q, k⟩ =>
  ⟨F, r, n, _, R, q, fun F1 d r1 n1 v H1 sb R1 rv q1 => by
    obtain ⟨m, rfl, hm, q1⟩ := q1
    cases rv
    refine ⟨_, rfl, .of_le (by omega) (by omega) (by omega) (by omega), fun l hl => k.py (sb.trans (.new (R1.bas.und.some hl))) (R1.laid hl fun _ z => by cases z) (.lst upd_same ?_) q1⟩
    have : ∀ (F : Hp) (xs : List Nat), DzAll F (xs.map fun i => V.int (0 + (i : Nat))) (xs.map fun i => PyData.int (i : Nat)) := fun F xs => by
      induction xs with
      | nil => exact .nil
      | cons z zs ih =>
        refine .cons ?_ ih
        show Dz F (V.int (0 + (z : Nat))) _
        rw [Int.zero_add]
        exact .int _
    have := this (upd F1 l (.lst (rgV 0 (m : Int)))) (List.range m)
    unfold rgV rngD
    rw [show ((m : Int) - 0).toNat = m by omega]
    exact this⟩⟩
end
/-- a comprehension whose turns draw -/
theorem lcN {i : Nat} {src : TSrc} {te : TED} {vs : List Nat} {r : DEnv} {n : Nat} {P : DV → DEnv → Nat → Prop} (ds : List PD) (J : Nat → List PD → DEnv → Nat → Prop) (hs : ∀ K : List PD → DEnv → Nat → Prop, K ds r n → src r n K) (h0 : J 0 [] (wipeD r vs) n)
    (turn : ∀ k d acc r n, ds[k]? = some d → J k acc r n → te (r.set i (some (.dat (.py d)))) n fun y r n => ∃ p, y = .py p ∧ acc.length < sizeLine ∧ J (k + 1) (acc ++ [p]) (wipeD r vs) n)
    (hP : ∀ acc r n, J ds.length acc r n → P (.py (.list acc)) r n) : tLcD (.one i) src tYesD te vs r n P :=
  hs _ ⟨J, h0, fun k d acc r n hd hI => turn k d acc r n hd hI, hP⟩
theorem lcNM {j i : Nat} {src : TSrc} {te : TED} {vs : List Nat} {r : DEnv} {n : Nat} {E : EndsD} (ds : List PD) (J : Nat → List PD → DEnv → Nat → Prop) (hs : ∀ K : List PD → DEnv → Nat → Prop, K ds r n → src r n K) (h0 : J 0 [] (wipeD r vs) n)
    (turn : ∀ k d acc r n, ds[k]? = some d → J k acc r n → te (r.set i (some (.dat (.py d)))) n fun y r n => ∃ p, y = .py p ∧ acc.length < sizeLine ∧ J (k + 1) (acc ++ [p]) (wipeD r vs) n)
    (hP : ∀ acc r n, J ds.length acc r n → E.nx (r.set j (some (.mu (.lst acc)))) n) : sLcM j (.one i) src tYesD te vs E r n :=
  hs _ ⟨J, h0, fun k d acc r n hd hI => turn k d acc r n hd hI, hP⟩
end K21

set_option Elab.async false
set_option linter.all false
set_option maxRecDepth 100000
set_option maxHeartbeats 4000000
/-! K21E3: one of some things, an order, lists in the place of tuples. -/
namespace K21
open PySem PySem.Spec PyProof.Rows L2
theorem eraseIdx_perm {α : Type} : ∀ {xs : List α} {i : Nat} {x : α}, xs[i]? = some x → (x :: xs.eraseIdx i).Perm xs
  | [], i, x, h => by simp at h
  | y :: ys, 0, x, h => by simp at h; subst h; exact .refl _
  | y :: ys, i + 1, x, h => by
    have := eraseIdx_perm (xs := ys) (i := i) (x := x) (by simpa using h)
    exact (List.Perm.swap y x _).trans (this.cons y)
theorem Paired.app {α β : Type} {R : α → β → Prop} {xs : List α} {ys : List β} {as : List α} {bs : List β} (h : Paired R xs ys) (k : Paired R as bs) : Paired R (xs ++ as) (ys ++ bs) := by
  induction h with
  | nil => exact k
  | cons a t ih => exact .cons a ih
theorem lenR {n : Nat} : (rngD n).length = n := by simp [rngD]
section
variable {P : Program} {w : World} {K : PySem.W.Frag} {mg : Str → Option Value} {base : Heap} {c : Cst}
theorem sc__law_pick : FnScope ["_law_stream", "_law_some"] ["_law_stream", "_law_some"] (defScope (topS 52)) := ⟨rfl, rfl, rfl, by decide +kernel, rfl, by decide +kernel, by decide +kernel⟩
def pre_pick (ds : List DV) (n : Nat) : Prop := ∃ es, 0 < es.length ∧ es.length < 1000000 ∧ n < 1000000 ∧ ds = [.strm, .py (.list es)]
def post_pick (ds : List DV) (n : Nat) (d : DV) (n' : Nat) : Prop := n' = n + 1 ∧ ∃ es e, ds = [.strm, .py (.list es)] ∧ d = .py e ∧ e ∈ es
theorem ok_pick (D : DefAt K mg "_law_pick" (topS 52)) (B : Bn mg) (O_law_draw : OkD P w K mg base c "_law_draw" ["_law_stream", "_law_many"] 1 pre_draw post_draw) : OkD P w K mg base c "_law_pick" ["_law_stream", "_law_some"] 2 pre_pick post_pick := by
  refine ok_def D (fun _ _ _ _ _ _ us hl => match us, hl with | [_, _], _ => rfl) sc__law_pick (fun ds n h => ?_) (fun f cdv A outer s H E hr => ?_)
  · obtain ⟨a, _, _, _, rfl⟩ := h; rfl
  · refine ⟨_, (dss_one (ds_ret (de_ix (de_v 1 (pv 1)) (de_ok O_law_draw hr (by decide) rfl (da_cons (de_v 0 (pv 0)) (da_cons (de_len rfl B.len (de_v 1 (pv 1))) da_nil)))))), fun ds n h => ?_⟩
    obtain ⟨es, h1, h2, h3, rfl⟩ := h
    simp [startD]
    refine ⟨⟨es.length, h1, h2, h3, rfl⟩, fun d n2 h => ?_⟩
    obtain ⟨rfl, k, i, e, rfl, hi⟩ := h
    simp at e
    have hi' : i < es.length := by omega
    refine ⟨_, rfl, es[i], atI_nat (List.getElem?_eq_getElem hi'), rfl, es, _, rfl, rfl, List.getElem_mem hi'⟩
theorem sc__law_mixed : FnScope ["_law_stream", "_law_some", "_law_left", "_law_k"] ["_law_stream", "_law_some"] (defScope (topS 53)) := ⟨rfl, rfl, rfl, by decide +kernel, rfl, by decide +kernel, by decide +kernel⟩
def pre_mixed (ds : List DV) (n : Nat) : Prop := ∃ d es, seqOf (.py d) = some es ∧ es.length < 100000 ∧ n + es.length < 1000000 ∧ ds = [.strm, .py d]
def post_mixed (ds : List DV) (n : Nat) (d : DV) (n' : Nat) : Prop := ∃ d0 es es', ds = [.strm, .py d0] ∧ seqOf (.py d0) = some es ∧ d = .py (.list es') ∧ es'.Perm es ∧ n' = n + es.length
theorem ok_mixed (D : DefAt K mg "_law_mixed" (topS 53)) (B : Bn mg) (O_law_draw : OkD P w K mg base c "_law_draw" ["_law_stream", "_law_many"] 1 pre_draw post_draw) : OkD P w K mg base c "_law_mixed" ["_law_stream", "_law_some"] 2 pre_mixed post_mixed := by
  refine ok_def D (fun _ _ _ _ _ _ us hl => match us, hl with | [_, _], _ => rfl) sc__law_mixed (fun ds n h => ?_) (fun f cdv A outer s H E hr => ?_)
  · obtain ⟨a, _, _, _, _, rfl⟩ := h; rfl
  · refine ⟨_, (dss_cons (ds_listM (i := 2) sc__law_mixed.nd rfl (Or.inr rfl) rfl B.list (de_v 1 (pv 1))) (dss_one (ds_ret (de_lc (own := [("_law_k", 3)]) (.one 3) rfl sc__law_mixed.nd (di_rng rfl B.range (de_lenM 2 rfl B.len (pv 2))) (blkOk_by (N := ["_law_stream", "_law_some", "_law_left", "_law_k"]) (sc := defScope (topS 53)) (own := [("_law_k", 3)]) (by decide +kernel)) (fun _ _ _ _ _ => (pg_name (i := 3) sc__law_mixed.nd rfl (Or.inl rfl))) (fun _ _ _ _ _ => dts_nil) (fun _ _ _ _ _ => (de_pop 2 (pv 2) (de_ok O_law_draw hr (by decide) rfl (da_cons (de_v 0 (pv 0)) (da_cons (de_lenM 2 rfl B.len (pv 2)) da_nil))))))))), fun ds n h => ?_⟩
    obtain ⟨d, es, hs, h1, h2, rfl⟩ := h
    simp [startD, -seqOf]
    refine ⟨es, hs, ?_⟩
    refine lcN (rngD es.length) (fun k acc r n' => n' = n + k ∧ ∃ left, r = [some (.dat .strm), some (.dat (.py d)), some (.mu (.lst left)), none] ∧ (acc ++ left).Perm es ∧ left.length + k = es.length ∧ acc.length = k) (fun K h => ?_) ⟨rfl, es, rfl, .refl _, rfl, rfl⟩ (fun k e acc r n' hk ⟨e1, left, e2, hp, hl, ha⟩ => ?_) (fun acc r n' ⟨e1, left, e2, hp, hl, ha⟩ => ?_)
    · simp
      exact ⟨by omega, by simpa [rngD] using h⟩
    · subst e1 e2
      have hk' : k < es.length := by simpa [rngD] using (List.getElem?_eq_some_iff.mp hk).1
      simp
      refine ⟨⟨left.length, by omega, by omega, by omega, rfl⟩, fun d2 n2 h => ?_⟩
      obtain ⟨rfl, k2, i, e, rfl, hi⟩ := h
      simp at e
      have hi' : i < left.length := by omega
      have hx : left[i]? = some left[i] := List.getElem?_eq_getElem hi'
      refine ⟨i, rfl, by omega, left[i], hx, by rw [szL]; omega, by omega, left.eraseIdx i, rfl, ?_, ?_, ha⟩
      · exact (List.Perm.append_left acc (eraseIdx_perm hx)).trans hp
      · rw [List.length_eraseIdx_of_lt hi']; omega
    · subst e1 e2
      have hl' : left = [] := List.length_eq_zero_iff.mp (by rw [lenR] at hl; omega)
      subst hl'
      simp
      exact ⟨d, es, acc, rfl, hs, rfl, by simpa using hp, by rw [lenR]⟩
theorem sc__law_loose : FnScope ["_law_stream", "_law_thing", "_law_found", "_law_part"] ["_law_stream", "_law_thing"] (defScope (topS 56)) := ⟨rfl, rfl, rfl, by decide +kernel, rfl, by decide +kernel, by decide +kernel⟩
def looseR : Nat → PD → PD → Prop
  | 0, d, d' => seqOf (.py d) = none ∧ d' = d
  | j + 1, d, d' => (seqOf (.py d) = none ∧ d' = d) ∨ ∃ es es', seqOf (.py d) = some es ∧ seqOf (.py d') = some es' ∧ Paired (looseR j) es es'
def lowD : Nat → PD → Prop
  | 0, d => seqOf (.py d) = none
  | j + 1, d => seqOf (.py d) = none ∨ ∃ es, seqOf (.py d) = some es ∧ es.length ≤ 5000 ∧ ∀ e ∈ es, lowD j e
def costL : Nat → Nat
  | 0 => 0
  | j + 1 => 1 + 5000 * costL j
def pre_loose : Nat → List DV → Nat → Prop
  | 0, _, _ => False
  | j + 1, ds, n => ∃ d, lowD j d ∧ n + costL j < 1000000 ∧ ds = [.strm, .py d]
def post_loose : Nat → List DV → Nat → DV → Nat → Prop
  | 0, _, _, _, _ => False
  | j + 1, ds, n, d, n' => ∃ d0 d1, ds = [.strm, .py d0] ∧ d = .py d1 ∧ looseR j d0 d1 ∧ n' ≤ n + costL j
theorem ok_void {x : Str} {st : Stmt} {N ps : List Str} {post : List DV → Nat → DV → Nat → Prop} (D : DefAt K mg x st) (hb : ∀ (kV doc pm : Value) (an : Option Addr) (cdv ct : Value) (us : List Value), us.length = ps.length → bindArgs (PySem.W.fnOf x x (defArgs st) (defBody st) (defScope st) .none kV doc pm an cdv ct) ⟨us, []⟩ = pure (ps.zip us))
    (S : FnScope N ps (defScope st)) : OkD P w K mg base c x ps 1 (fun _ _ => False) post := ok_def (k := 0) D hb S (fun _ _ h => h.elim) fun _ _ _ _ _ _ _ _ => ⟨sNever, dss_never, fun _ _ h => h.elim⟩
theorem low_none {j : Nat} {d : PD} (h : seqOf (.py d) = none) : looseR j d d := by
  cases j with
  | zero => exact ⟨h, rfl⟩
  | succ j => exact .inl ⟨h, rfl⟩
theorem ok_loose (D : DefAt K mg "_law_loose" (topS 56)) (B : Bn mg) (O_law_draw : OkD P w K mg base c "_law_draw" ["_law_stream", "_law_many"] 1 pre_draw post_draw) : ∀ j, OkD P w K mg base c "_law_loose" ["_law_stream", "_law_thing"] (j + 1) (pre_loose j) (post_loose j)
  | 0 => ok_void D (fun _ _ _ _ _ _ us hl => match us, hl with | [_, _], _ => rfl) sc__law_loose
  | j + 1 => by
    have O_law_loose := ok_loose D B O_law_draw j
    refine ok_def D (fun _ _ _ _ _ _ us hl => match us, hl with | [_, _], _ => rfl) sc__law_loose (fun ds n h => ?_) (fun f cdv A outer s H E hr => ?_)
    · obtain ⟨a, _, _, rfl⟩ := h; rfl
    · refine ⟨_, (dss_cons (ds_if (dt_not (dt_val (de_isiT (ts := ["list", "tuple"]) rfl B.isinstance (de_v 1 (pv 1)) (.cons (t := "list") (pe_bltn rfl B.list (by decide +kernel) rfl) rfl (by simp [okTy]) (.cons (t := "tuple") (pe_bltn rfl B.tuple (by decide +kernel) rfl) rfl (by simp [okTy]) .nil)) (by decide)))) (dss_one (ds_ret (de_v 1 (pv 1)))) dss_nil) (dss_cons (ds_setLc (i := 2) (y := "_law_found") rfl rfl (own := [("_law_part", 3)]) (.one 3) rfl sc__law_loose.nd (di_seqV 1 (pv 1)) (blkOk_by (N := ["_law_stream", "_law_thing", "_law_found", "_law_part"]) (sc := defScope (topS 56)) (own := [("_law_part", 3)]) (by decide +kernel)) (fun _ _ _ _ _ => (pg_name (i := 3) sc__law_loose.nd rfl (Or.inl rfl))) (fun _ _ _ _ _ => dts_nil) (fun _ _ _ _ _ => (de_ok O_law_loose hr (by omega) rfl (da_cons (de_v 0 (pv 0)) (da_cons (de_v 3 (pv 3)) da_nil)))) (sw_true rfl rfl rfl (by decide +kernel))) (dss_one (ds_ret (de_if (dt_eq (hu64 hr) (de_ok O_law_draw hr (by omega) rfl (da_cons (de_v 0 (pv 0)) (da_cons de_int da_nil))) de_int) (de_v 2 (pv 2)) (de_tupleOf rfl B.tuple (de_v 2 (pv 2)))))))), fun ds n h => ?_⟩
      obtain ⟨d, h1, h2, rfl⟩ := h
      simp [startD, -seqOf, isi_LT]
      cases hs : seqOf (.py d) with
      | none =>
        simp
        exact ⟨d, d, rfl, rfl, low_none hs, by omega⟩
      | some es =>
        simp
        cases j with
        | zero => unfold lowD at h1; rw [hs] at h1; cases h1
        | succ j =>
          unfold lowD at h1
          rw [hs] at h1
          obtain h1 | ⟨es', h0, hl, h1⟩ := h1
          · cases h1
          · cases h0
            have hc : costL (j + 1) = 1 + 5000 * costL j := rfl
            have hk5 : ∀ k, k ≤ es.length → k * costL j ≤ 5000 * costL j := fun k h => Nat.mul_le_mul_right _ (by omega)
            refine lcN es (fun k acc r n' => r = [some (.dat .strm), some (.dat (.py d)), none, none] ∧ Paired (looseR j) (es.take k) acc ∧ n' ≤ n + k * costL j) (fun K h => ?_) ⟨rfl, .nil, by omega⟩ (fun k e acc r n' hk ⟨e1, hp, hn⟩ => ?_) (fun acc r n' ⟨e1, hp, hn⟩ => ?_)
            · simp [-seqOf]
              exact ⟨es, hs, h⟩
            · subst e1
              have hk' : k < es.length := (List.getElem?_eq_some_iff.mp hk).1
              have h5 := hk5 (k + 1) hk'
              rw [Nat.succ_mul] at h5
              simp
              refine ⟨⟨e, h1 e (List.mem_of_getElem? hk), by omega, rfl⟩, fun d2 n2 h => ?_⟩
              obtain ⟨d0, d1, e0, rfl, h3, h4⟩ := h
              simp at e0
              subst e0
              have := Paired.length hp
              rw [List.length_take] at this
              refine ⟨d1, rfl, by rw [szL]; omega, rfl, ?_, by rw [Nat.succ_mul]; omega⟩
              rw [take_succ_get hk]
              exact Paired.app hp (.cons h3 .nil)
            · subst e1
              rw [List.take_length] at hp
              have h5 := hk5 es.length (by omega)
              simp
              refine ⟨⟨3, by omega, by omega, by omega, rfl⟩, fun d2 n2 h => ?_⟩
              obtain ⟨rfl, k2, i, e, rfl, hi⟩ := h
              have fin : ∀ d1, seqOf (.py d1) = some acc → post_loose (j + 2) [.strm, .py d] n (.py d1) (n' + 1) := fun d1 h => ⟨d, d1, rfl, rfl, .inr ⟨es, acc, hs, h, hp⟩, by omega⟩
              refine ⟨_, rfl, shape_int _, ?_⟩
              split
              · exact fin _ rfl
              · exact fin _ rfl
end
end K21

set_option Elab.async false
set_option linter.all false
set_option maxRecDepth 100000
set_option maxHeartbeats 4000000
/-! K21G0: sorted(..) of a tuple, of a dict whose keys are tuples. -/
namespace K21
open PySem PySem.Spec PyProof.Rows L2
section
variable {X : Cx}
/-- sorted of what is collected as xs -/
theorem sorted_from {pins : List (Addr × Obj)} {s : Shared} {σ : L2.St} {H : Hp} {x : Value} {xs : List V} {ds : List PD} {Q : VK} (I : Inv X pins σ H s) (hu : X.A.units + 64 < cLine) (hz : DpAll X.K H xs ds) (h1 : PySem.W.AllAlike ds) (h2 : PySem.W.Sortable ds)
    (hl : ds.length ≤ sizeLine) (hd : ∀ d ∈ ds, d.depth ≤ 60)
    (col : ∀ {R : List Value → Shared → Prop} {E : Value → Shared → Prop}, (∀ (h' : Heap) (tk : Nat) (us : List Value), (∀ b o, s.heap.get? b = some o → h'.get? b = some o) → Vals xs us → R us { s with heap := h', toks := tk }) → wpAny (model X.prog X.w) X.A.in1 (collect x) R E s)
    (q : ∀ p ys, H p = none → ys.length = xs.length → PySem.W.EachIs (fun y d => ∃ i : Nat, xs[i]? = some y ∧ ds[i]? = some d) ys (sortD ds) → Q (.ref p) (upd H p (.lst ys))) :
    wpAny (model X.prog X.w) X.A (call (.builtin "sorted") [x]) (EP X pins σ Q) X.xe s := by
  refine Calls.call_function_entry PyProof.Rows.kind_sorted PyProof.Rows.plain_sorted PyProof.Rows.entry_sorted (PyProof.Rows.args_sorted1 _) ?_
  unfold Builtin.«sorted»
  refine wpAny_bind (m := checkCount "sorted" 1 1 _) (wpAny_pure ?_)
  refine wpAny_bind (col fun h' tk us hk rv => ?_)
  have I1 : Inv X pins σ H { s with heap := h', toks := tk } := I.kept hk
  have hxl := DpAll.length hz
  have hul : us.length = xs.length := rv.length.symm
  have huz : us.length ≤ sizeLine := by omega
  refine wpAny_bind (wpAny_newList ?_ huz)
  have hoL : (h'.push (seqObj "list" us.toArray 0)).get? h'.objs.size = some (seqObj "list" us.toArray 0) := Heap.get?_push_size _ rfl
  show wpAny _ _ _ _ _ { s with heap := h'.push (seqObj "list" us.toArray 0), toks := tk }
  have er := each_reads I1 hz rv
  have old : ∀ b o, h'.get? b = some o → (PySem.W.sortingHeap (h'.push (seqObj "list" us.toArray 0)) h'.objs.size us).get? b = some o := fun b o e => PySem.W.sortingHeap_old (Nat.ne_of_lt (Heap.lt_size e)) (Heap.get?_push_of_some _ e)
  have er' : PySem.W.EachIs (fun v b => ∃ as, Reads (PySem.W.sortingHeap (h'.push (seqObj "list" us.toArray 0)) h'.objs.size us) v (id b) as) us ds := er.mono fun _ _ ⟨as, r⟩ => ⟨as, PyProof.Rows.Reads.keeps old r⟩
  have ix := each_ix 0 xs ds hxl rv (fun i => rfl) fun i => rfl
  refine wpAny_bind (wpAny_holding (wpAny_call_entry PyProof.Rows.slot_list_sort ⟨_, hoL, rfl⟩ PyProof.Rows.entry_list_sort
    (PySem.W.list_sort_vals (s := { s with heap := h'.push (seqObj "list" us.toArray 0), toks := tk }) (κ := PySem.W.dataKind (PySem.W.sortingHeap (h'.push (seqObj "list" us.toArray 0)) h'.objs.size us) (ds.map id)) hoL
      (PySem.W.SortsAt.data (s := { s with heap := PySem.W.sortingHeap (h'.push (seqObj "list" us.toArray 0)) h'.objs.size us, toks := tk }) (PySem.W.each_map (R := fun v d => ∃ as, Reads (PySem.W.sortingHeap (h'.push (seqObj "list" us.toArray 0)) h'.objs.size us) v d as) id er') (by rw [List.map_id]; exact h1) (by rw [List.map_id]; exact h2) (fun d hd' => ?_)) huz ⟨_, rfl, ?_⟩) (PyProof.Rows.args_list_sort _)))
  · rw [List.map_id] at hd'
    have := hd d hd'
    show X.A.units + 2 + PyData.depth d < cLine
    omega
  · have hs := PySem.W.sortVals_data (enc := id) false ix er' (by rw [List.map_id]; exact h1)
    obtain ⟨ys, k1, k2, k3⟩ := each_vals hs
    generalize hout : PySem.W.sortVals (PySem.W.dataKind (PySem.W.sortingHeap (h'.push (seqObj "list" us.toArray 0)) h'.objs.size us) (ds.map id)) false us us = out at hs k1 k3 ⊢
    obtain ⟨ep, he'⟩ := PyProof.Rows.sortedHeap_at (vs := us) (out := out.toArray) hoL
    have hyl : ys.length = xs.length := by rw [k2, List.length_mergeSort, hxl]
    refine wpAny_pure ⟨_, rfl, .ref h'.objs.size, upd H h'.objs.size (.lst ys), I1.laid (t' := tk) (fun b u e => ?_) (Nat.le_refl _) ⟨by rw [hyl]; omega, _, ep, k1, by simpa using he'⟩, rfl, q _ _ (I1.hok.fresh (Nat.le_refl _)) hyl k3⟩
    have hb : b < h'.objs.size := Heap.lt_size e
    rw [PyProof.Rows.sortedHeap_old (Nat.ne_of_lt hb) (by rw [size_push']; exact Nat.lt_succ_of_lt hb)]
    exact Heap.get?_push_of_some _ e
end
section
variable {prog : Program} {w : World} {A : Around} {E : Value → Shared → Prop} {s : Shared}
/-- the items of a tuple, collected -/
theorem collect_tup {l : Addr} {vs : List Value} {R : List Value → Shared → Prop} (hl : IsTup s.heap l vs.toArray) (hz : vs.length ≤ sizeLine)
    (h : ∀ h', (∀ b o, s.heap.get? b = some o → h'.get? b = some o) → R vs { s with heap := h' }) : wpAny (model prog w) A (collect (.ref l)) R E s := by
  obtain ⟨o, ho, hc, n, hd⟩ := hl
  have new : (s.heap.push (seqObj "list" #[] 0)).get? s.heap.objs.size = some (seqObj "list" #[] 0) := Heap.get?_push_size _ rfl
  have ho' : (s.heap.push (seqObj "list" #[] 0)).get? l = some o := Heap.get?_push_of_some _ ho
  unfold collect
  refine wpAny_bind (wpAny_runValue (codeAny_builtin PyProof.Rows.entry_proto_collect' ?_))
  show wpAny _ _ (newList [] >>= fun z => again (.builtin "list.__iadd__" ⟨[z, .ref l], []⟩)) _ _ s
  refine wpAny_bind (wpAny_newList (wpAny_pure ⟨Code.quiet_builtin _ (by decide +kernel), codeAny_builtin PyProof.Rows.entry_list_iadd' ?_⟩))
  show wpAny _ _ (Builtin.List.listExtendWith (.ref s.heap.objs.size) (.ref l) (.ref s.heap.objs.size)) _ _ { s with heap := s.heap.push (seqObj "list" #[] 0) }
  unfold Builtin.List.listExtendWith
  refine wpAny_bind (wpAny_typeOf (T := "tuple") ⟨o, ho', hc⟩ ?_)
  rw [if_pos (by simp)]
  refine wpAny_bind (PyProof.Rows.listItems_at ho' hd ?_)
  refine wpAny_bind (PyProof.Rows.listItems_at (xs := #[]) (n := 0) new rfl ?_)
  rw [if_neg (by simp)]
  refine wpAny_bind (PyProof.Rows.listUpdate_at (xs := #[]) (n := 0) new rfl ?_ (Nat.zero_le _) (by rw [Array.size_append, List.size_toArray]; simp; omega))
  refine wpAny_pure ?_
  show wpAny (model prog w) A (load s.heap.objs.size >>= fun z => match z.data with
      | .seq xs _ => pure xs.toList
      | _ => unsupported "internal:collect") R E { s with heap := (s.heap.push (seqObj "list" #[] 0)).update s.heap.objs.size (Obj.mapSeq (· ++ vs.toArray)) }
  refine wpAny_bind (wpAny_load (PyProof.Rows.get?_update_seq new _) ?_)
  show wpAny _ _ (pure ((#[] : Array Value) ++ vs.toArray).toList) R E _
  have e0 : ((#[] : Array Value) ++ vs.toArray).toList = vs := by simp
  rw [e0]
  refine wpAny_pure (h _ fun b u e => ?_)
  rw [Heap.get?_update_ne _ _ _ _ (Nat.ne_of_lt (Heap.lt_size e))]
  exact Heap.get?_push_of_some _ e
end
section
variable {X : Cx}
/-- sorted of a list or a tuple of data -/
def rSortQ (K : PySem.W.Frag) : List V → Hp → VK → Prop := fun vs H Q => ∃ a xs ds, vs = [V.ref a] ∧ (SqL K H a xs ∨ SqT K H a xs) ∧ DpAll K H xs ds ∧ PySem.W.AllAlike ds ∧ PySem.W.Sortable ds ∧ ds.length ≤ sizeLine ∧ (∀ d ∈ ds, d.depth ≤ 60) ∧
  ∀ p ys, H p = none → ys.length = xs.length → PySem.W.EachIs (fun y d => ∃ i : Nat, xs[i]? = some y ∧ ds[i]? = some d) ys (sortD ds) → Q (.ref p) (upd H p (.lst ys))
theorem cr_sortQ (hu : X.A.units + 64 < cLine) : CallR X (.builtin "sorted") (rSortQ X.K) := by
  intro pins s σ H vs us Q I r h
  obtain ⟨a, xs, ds, rfl, hs, hz, hal, hso, hl, hdp, q⟩ := h
  obtain rfl := Vals.ref1 r
  have hxl := DpAll.length hz
  refine sorted_from I hu hz hal hso hl hdp (fun {R E} h => ?_) q
  rcases hs with hs | hs
  · obtain ⟨its, rv, pl, hsz⟩ := I.list hs
    have := rv.length
    refine PyProof.Rows.collect_list pl.isList (h _ s.toks its (fun b u e => ?_) rv) (by omega)
    rw [Heap.get?_update_ne _ _ _ _ (Nat.ne_of_lt (Heap.lt_size e))]
    exact Heap.get?_push_of_some _ e
  · obtain ⟨its, rv, pl, hsz⟩ := I.tuple hs
    have := rv.length
    exact collect_tup pl (by omega) fun h' k => h h' s.toks its k rv
/-- sorted of a dict whose keys are pairs of texts -/
def keyP (p : Str × Str) : List Key := [Sum.inr p.1, Sum.inr p.2]
def rSortT : List V → Hp → VK → Prop := fun vs H Q => ∃ (d : Addr) (kv : List (List Key × V)) (ps : List (Str × Str)), vs = [V.ref d] ∧ Rd H d (.dT kv) ∧ kv.map (·.1) = ps.map keyP ∧ ps.length ≤ sizeLine ∧
  ∀ bs p ys, IsKeys H kv bs → H p = none → PySem.W.EachIs (fun y d => ∃ i : Nat, (bs.map V.ref)[i]? = some y ∧ (ps.map pairD)[i]? = some d) ys (sortD (ps.map pairD)) → Q (.ref p) (upd H p (.lst ys))
theorem keys_dp {K : PySem.W.Frag} {H : Hp} : ∀ {kv : List (List Key × V)} {bs : List Addr} {ps : List (Str × Str)}, IsKeys H kv bs → kv.map (·.1) = ps.map keyP → DpAll K H (bs.map V.ref) (ps.map pairD)
  | _, _, ps, .nil, h => by
    have : ps = [] := by simpa using h.symm
    subst this
    exact .nil
  | _, _, [], .cons _ _, h => by simp at h
  | _, _, p :: ps, .cons (a := q) (b := b) e t, h => by
    rw [List.map_cons, List.map_cons, List.cons.injEq] at h
    rw [h.1] at e
    exact .cons (.tup (.of e) (.cons (.str _) (.cons (.str _) .nil))) (keys_dp t h.2)
theorem cr_sortT (hc : X.calm = true) (hu : X.A.units + 64 < cLine) : CallR X (.builtin "sorted") rSortT := by
  intro pins s σ H vs us Q I r h
  obtain ⟨d, kvs, ps, rfl, hd, hk, hl, q⟩ := h
  obtain rfl := Vals.ref1 r
  obtain ⟨z, hs, ks, pr, o, es, ep, ho, hx, hdt, he, hn⟩ := (show ObjOk X.prog X.w H s.heap d (.dT kvs) from hd.ok I.hok)
  have l1 : es.size = ks.length := size_of_entries he
  have ik := isKeys_of pr
  have l2 : kvs.length = ks.length := Paired.length pr
  have l3 : kvs.length = ps.length := by have := congrArg List.length hk; simpa using this
  refine sorted_from I hu (keys_dp ik hk) (PySem.W.AllAlike.of (fun _ _ => by simp [pairD, PySem.W.alike, PySem.W.alikeAll])) (PySem.W.Sortable.tuples (fun b => ⟨_, _, rfl⟩)) (by rw [List.length_map]; exact hl) (fun d hd => ?_) (fun {R E} h => ?_) (fun p ys hp _ e => q _ p ys ik hp e)
  · obtain ⟨x, _, rfl⟩ := List.mem_map.mp hd
    simp [pairD, PyData.depth, PyData.depthAll]
  · refine PySem.W.kdu_collect (kdl_raw hs hx hdt) (I.ok.hd hc) ho (by omega) fun h' tk acc hk' it => h h' tk _ hk' ?_
    have ea : acc.toList = (ks.map fun x => x.2.1).map Value.ref := by
      apply List.ext_getElem?
      intro j
      rw [List.getElem?_map, List.getElem?_map]
      have hlen : acc.toList.length = ks.length := by rw [Array.length_toList, it.1, l1]
      cases hj : acc.toList[j]? with
      | none =>
        have := List.getElem?_eq_none_iff.mp hj
        rw [List.getElem?_eq_none (by omega)]
        rfl
      | some v =>
        obtain ⟨en, hen, hv⟩ := it.2 j v (by rw [← Array.getElem?_toList]; exact hj)
        have qe := entry_at he j
        rw [hen] at qe
        cases hb : ks[j]? with
        | none => rw [hb] at qe; cases qe
        | some b =>
          rw [hb] at qe
          have e2 : en = entryOfKey (tupleKind (mixKind X.prog X.w)) b := Option.some.inj qe
          rw [hv, e2]
          rfl
    rw [ea]
    exact vals_refs _
end

/-! ### over data -/
@[simp] def kSortQ : KC := fun ds r n P => ∃ d es, ds = [d] ∧ seqOf d = some es ∧ PySem.W.AllAlike es ∧ PySem.W.Sortable es ∧ es.length ≤ sizeLine ∧ (∀ d ∈ es, layD d = true ∧ d.depth ≤ 60) ∧ P (.py (.list (sortD es))) r n
section
variable {X : Cx} {c : Cst} {a : Expr} {te : TED} {p pos px : Pos} {x : Str}
theorem cd_sortQ : CallD c (rSortQ X.K) kSortQ := fun g F r n s H vs ds P Q _ R rs h k => by
  obtain ⟨d, es, rfl, hs, h1, h2, h3, h4, p⟩ := h
  cases rs with
  | cons a t =>
    cases t
    cases d with
    | py d =>
      cases a <;> simp [seqOf] at hs
      case lst e1 e2 =>
        subst hs
        refine ⟨_, _, _, rfl, .inl (.of (R.bas.und.lst e1)), DzAll.dp R.bas.und e2 (DzAll.lay e2 (layAll_of fun d hd => (h4 d hd).1)), h1, h2, h3, fun d hd => (h4 d hd).2, fun q ys hq _ he => ?_⟩
        have sb : SubH F (upd F q (.lst ys)) := .new (R.bas.und.some hq)
        exact k.py sb (R.laid hq fun _ z => by cases z) (.lst upd_same ((each_dz e2 he).mono sb)) p
      case tup e1 e2 =>
        subst hs
        refine ⟨_, _, _, rfl, .inr (.of (R.bas.und.tup e1)), DzAll.dp R.bas.und e2 (DzAll.lay e2 (layAll_of fun d hd => (h4 d hd).1)), h1, h2, h3, fun d hd => (h4 d hd).2, fun q ys hq _ he => ?_⟩
        have sb : SubH F (upd F q (.lst ys)) := .new (R.bas.und.some hq)
        exact k.py sb (R.laid hq fun _ z => by cases z) (.lst upd_same ((each_dz e2 he).mono sb)) p
    | _ => simp [seqOf] at hs
theorem de_sortedQ (hu : X.A.units + 64 < cLine) (hg : Gl X "sorted") (hm : X.mg "sorted" = none) (ha : DE c X a te) (hs : starEach [a] X.env = (false, eval a X.env) :: starEach [] X.env := by rfl) (hpl : (backTo pos (starEach [] X.env)).any (·.1) = false := by rfl) :
    DE c X (.Call (.Name "sorted" p) [a] [] pos) (dCB kSortQ (dCons te dNil)) := de_callB (cr_sortQ hu) cd_sortQ hg hm (by decide +kernel) (da_cons ha da_nil hs) (he := hs) (hpl := hpl)
theorem kSortQ_sts {n : Nat} {r : DEnv} {P : DV → DEnv → Nat → Prop} {d : DV} {xs : List Str} (hs : seqOf d = some (sts xs)) (hl : xs.length ≤ sizeLine) (h : P (.py (.list (sts (sortS xs)))) r n) : kSortQ [d] r n P :=
  ⟨d, sts xs, rfl, hs, PySem.W.AllAlike.of (fun _ _ => by simp [PySem.W.alike]), PySem.W.Sortable.others (fun b => ⟨by simp, by simp⟩), by simpa using hl, fun d hd => by
    obtain ⟨x, _, rfl⟩ := mem_sts.mp hd
    exact ⟨by simp [layD], by simp [PyData.depth]⟩, by rw [sortD_sts]; exact h⟩
/-! ### sorted(known) -/
open Classical in
/-- tuples that stand are data from now on -/
noncomputable def tupH (F H : Hp) (bs : List Addr) : Hp := fun a => match F a with
  | some o => some o
  | none => if a ∈ bs then H a else none
theorem tupH_left {F H : Hp} {bs : List Addr} : SubH F (tupH F H bs) := fun a o e => by simp only [tupH, e]
theorem tupH_case {F H : Hp} {bs : List Addr} {a : Addr} {o : HO} (e : tupH F H bs a = some o) : F a = some o ∨ (F a = none ∧ a ∈ bs ∧ H a = some o) := by
  unfold tupH at e
  cases q : F a with
  | some u => rw [q] at e; exact .inl e
  | none =>
    rw [q] at e
    by_cases h : a ∈ bs
    · simp only [h, if_true] at e; exact .inr ⟨rfl, h, e⟩
    · simp only [h, if_false] at e; cases e
theorem Rel.tups {g : G} {F H : Hp} {r : DEnv} {n : Nat} {s : L2.St} (R : Rel g F r n s H) {bs : List Addr} (ht : ∀ b ∈ bs, ∃ xs, H b = some (.tup xs)) : Rel g (tupH F H bs) r n s H := by
  have no : ∀ {a : Addr} {o : HO}, H a = some o → (∀ xs, o ≠ .tup xs) → a ∉ bs := fun e h z => by
    obtain ⟨xs, q⟩ := ht _ z
    rw [e] at q; cases q; exact h xs rfl
  refine ⟨⟨fun a o e => ?_, R.bas.gro.trans tupH_left, fun a o h1 h2 h3 => ?_, R.bas.fr, R.bas.frt, fun a ps e => ?_, R.bas.tab, R.bas.str, fun a h => ?_, R.bas.anc⟩, R.len, fun i z e => ?_, R.dis⟩
  · rcases tupH_case e with q | ⟨_, _, q⟩
    · exact R.bas.und a o q
    · exact .inl q
  · rcases tupH_case h2 with q | ⟨_, hb, q⟩
    · exact R.bas.new a o h1 q h3
    · exact absurd hb (no q h3)
  · rcases tupH_case e with q | ⟨_, hb, q⟩
    · exact R.bas.ntb a ps q
    · exact absurd hb (no q fun _ z => by cases z)
  · cases q : tupH F H bs a with
    | none => rfl
    | some o =>
      rcases tupH_case q with z | ⟨_, hb, z⟩
      · rw [R.bas.strF a h] at z; cases z
      · obtain ⟨sa, e1, h1⟩ := h
        obtain ⟨_, cells, x, i, m, k1, k2, _⟩ := R.bas.str sa e1
        rcases h1 with rfl | rfl
        · exact absurd hb (no k1 fun _ z => by cases z)
        · exact absurd hb (no k2 fun _ z => by cases z)
  · obtain ⟨v, e1, h⟩ := R.slot i z e
    refine ⟨v, e1, ?_⟩
    cases z with
    | dat d => exact RepD.mono tupH_left h
    | mu m =>
      obtain ⟨p, rfl, h1, h2, h3, h4⟩ := h
      obtain ⟨u, hu, _, un⟩ := h4.obj
      refine ⟨p, rfl, ?_, h2, h3, h4.mono tupH_left⟩
      cases q : tupH F H bs p with
      | none => rfl
      | some o =>
        rcases tupH_case q with z | ⟨_, hb, _⟩
        · rw [h1] at z; cases z
        · exact absurd hb (no hu un)
theorem Rel.tupAt {g : G} {F H : Hp} {r : DEnv} {n : Nat} {s : L2.St} (R : Rel g F r n s H) {bs : List Addr} {b : Addr} {xs : List V} (hb : b ∈ bs) (e : H b = some (.tup xs)) : tupH F H bs b = some (.tup xs) := by
  unfold tupH
  cases q : F b with
  | none => simp only [hb, if_true]; exact e
  | some o =>
    rcases R.bas.und b o q with h | ⟨_, _, _, h⟩
    · rw [e] at h; exact h.symm
    · rw [e] at h; cases h
theorem isKeys_tup {H : Hp} : ∀ {kv : List (List Key × V)} {bs : List Addr}, IsKeys H kv bs → ∀ b ∈ bs, ∃ xs, H b = some (.tup xs)
  | _, _, .nil => fun _ h => by cases h
  | _, _, .cons e t => fun b h => by
    rcases List.mem_cons.mp h with rfl | h
    · exact ⟨_, e⟩
    · exact isKeys_tup t b h
theorem DzAll.strs {F : Hp} : ∀ {vs : List V} {ns : List Str}, DzAll F vs (sts ns) → ∀ x ∈ ns, PyData.strOk x = true
  | _, [], _ => fun _ h => by cases h
  | _, n :: ns, h => fun x hx => by
    cases h with
    | cons a t =>
      rcases List.mem_cons.mp hx with rfl | hx
      · exact Dz.strOk a
      · exact DzAll.strs t x hx
theorem keys_dz {g : G} {F H : Hp} {r : DEnv} {n : Nat} {s : L2.St} (R : Rel g F r n s H) {bs0 : List Addr} : ∀ {kv : List (List Key × V)} {bs : List Addr} {ps : List (Str × Str)}, IsKeys H kv bs → kv.map (·.1) = ps.map keyP → (∀ b ∈ bs, b ∈ bs0) → (∀ p ∈ ps, PyData.strOk p.1 = true ∧ PyData.strOk p.2 = true) → DzAll (tupH F H bs0) (bs.map V.ref) (ps.map pairD)
  | _, _, ps, .nil, h, _, _ => by
    have : ps = [] := by simpa using h.symm
    subst this
    exact .nil
  | _, _, [], .cons _ _, h, _, _ => by simp at h
  | _, _, p :: ps, .cons (a := q) (b := b) e t, h, hb, ho => by
    rw [List.map_cons, List.map_cons, List.cons.injEq] at h
    rw [h.1] at e
    exact .cons (.tup (R.tupAt (hb b (by simp)) e) (.cons (.str _ (ho p (by simp)).1) (.cons (.str _ (ho p (by simp)).2) .nil))) (keys_dz R t h.2 (fun b h => hb b (by simp [h])) fun p h => ho p (by simp [h]))
@[simp] def dSortT (i : Nat) : TED := fun r n P => ∃ (kvs : List (List Key × PD)) (ps : List (Str × Str)) (j : Nat) (ns : List Str), r[i]? = some (some (.mu (.dT kvs))) ∧ kvs.map (·.1) = ps.map keyP ∧ r[j]? = some (some (.dat (.py (.list (sts ns))))) ∧ (∀ p ∈ ps, p.1 ∈ ns ∧ p.2 ∈ ns) ∧ ps.length ≤ sizeLine ∧ P (.py (.list ((sortP ps).map pairD))) r n
theorem pairT_keys {F : Hp} : ∀ {kv : List (List Key × V)} {kvs : List (List Key × PD)}, PairT F kv kvs → kv.map (·.1) = kvs.map (·.1)
  | _, _, .nil => rfl
  | _, _, .cons h t => by rw [List.map_cons, List.map_cons, h.1, pairT_keys t]
theorem de_sortedT (i : Nat) (hc : X.calm = true) (hu : X.A.units + 64 < cLine) (hg : Gl X "sorted") (hm : X.mg "sorted" = none) (ho : PE X (.Name x px) (tVar i)) (hs : starEach [.Name x px] X.env = (false, eval (.Name x px) X.env) :: starEach [] X.env := by rfl) (hpl : (backTo pos (starEach [] X.env)).any (·.1) = false := by rfl) :
    DE c X (.Call (.Name "sorted" p) [.Name x px] [] pos) (dSortT i) := ⟨fun g hgc =>
  PE.imp (pe_callB (cr_sortT hc hu) hg hm (by decide +kernel) (pa_cons ho pa_nil hs) (he := hs) (hpl := hpl)) fun s H Q ⟨F, r, n, P, R, ⟨kvs, ps, j, ns, e, ek, ej, hin, hl, pq⟩, k⟩ => by
    obtain ⟨d, es, h1, h2, h3, kv, h4, h5⟩ := R.mu e
    obtain ⟨nv, _, hn⟩ := R.dat ej
    refine ⟨_, es, d, kv, ps, rfl, .inl h4, (pairT_keys h5).trans ek, hl, fun bs p ys ik hp he => ?_⟩
    have R2 := R.tups (isKeys_tup ik)
    have ok : ∀ p ∈ ps, PyData.strOk p.1 = true ∧ PyData.strOk p.2 = true := fun p hp => by
      cases hn with
      | lst e1 e2 => exact ⟨DzAll.strs e2 _ (hin p hp).1, DzAll.strs e2 _ (hin p hp).2⟩
    have hz := keys_dz R ik ((pairT_keys h5).trans ek) (fun _ h => h) ok
    have hd := each_dz hz he
    have hp' : tupH F H bs p = none := R2.bas.und.some hp
    have sb : SubH F (upd (tupH F H bs) p (.lst ys)) := tupH_left.trans (.new hp')
    rw [sortD_pairs] at hd
    exact k.py sb (R2.laid hp fun _ z => by cases z) (.lst upd_same (hd.mono (.new hp'))) pq⟩
end
end K21

set_option Elab.async false
set_option linter.all false
set_option maxRecDepth 100000
set_option maxHeartbeats 4000000
/-! K21G1: defs that raise, over data. -/
namespace K21
open PySem PySem.Spec PyProof.Rows L2

/-! ### what an exception's class is -/
/-- __init__(self, f): self.f = f, of an exception that is being made -/
def spIx (C : Addr) (f : Str) : Sp := fun vs H Q _ => ∃ a v, vs = [.ref a, v] ∧ H a = some (exo a C none) ∧ ∀ dx, H dx = none → dx ≠ a → Q .non (upd (upd H dx (exd dx [(f, v)])) a (exo a C (some dx)))
structure ExcT (P : Program) (w : World) (K : PySem.W.Frag) (mg : Str → Option Value) (base : Heap) (x : Str) (C : Addr) (f : Str) : Prop where
  mgC : mg x = some (.ref C)
  oex : OexC K C
  xf : XfC K C
  noF : PySem.W.findIn K (.ref C) f = some none
  te : PySem.W.exmOne K (.ref C) (.ref C) = some true
  init : ∃ fI fd, PySem.W.findIn K (.ref C) "__init__" = some (some (.ref fI)) ∧ PySem.W.typeIn K (.ref fI) = some (.type "function") ∧ Binds K fd ["self", f] [] ∧ FnOk P w K mg base CX0 1 fI fd ["self", f] (spIx C f)

/-! ### what leaves a def -/
abbrev XWD := Addr → Str → DV → Nat → Prop
def XOk (g : G) (EX : XK) (W : XWD) : Prop := ∀ F n H C d f v x, Bas g F n H → H d = some (.xd [(f, v)]) → RepD g F v x → plainD x = true → W C f x n → EX (.ref C) (some d) H
theorem XOk.inner {g : G} {EX : XK} {W : XWD} {F H : Hp} {r : DEnv} {n : Nat} {s : L2.St} (h : XOk g EX W) (R : Rel g F r n s H) : XOk (g.inner F r s H) EX W := fun F' n' H' C d f v x b e rv pl w => h F' n' H' C d f v x (R.backB b) e (RepD.inner.mp rv) pl w
structure DEx (c : Cst) (X : Cx) (EX : XK) (W : XWD) (e : Expr) (t : TED) : Prop where
  run : ∀ g : G, g.c = c → XOk g EX W → PE X e (lift g t)
structure DSx (c : Cst) (X : Cx) (EX : XK) (W : XWD) (st : Stmt) (t : TSD) : Prop where
  run : ∀ g : G, g.c = c → XOk g EX W → PS X st (liftS g t)
structure DSsx (c : Cst) (X : Cx) (EX : XK) (W : XWD) (st : List Stmt) (t : TSD) : Prop where
  run : ∀ g : G, g.c = c → XOk g EX W → PSs X st (liftS g t)
def promX (c : Cst) (pre : List DV → Nat → Prop) (post : List DV → Nat → DV → Nat → Prop) (postx : List DV → Nat → XWD) : Sp := fun vs H Q E => ∃ g ds n, g.c = c ∧ g.H0 = H ∧ g.A = g.F0 ∧ Bas g g.F0 n H ∧ RepAll g g.F0 vs ds ∧ pre ds n ∧
  (∀ F' d n' v H', Bas g F' n' H' → RepD g F' v d → plainD d = true → post ds n d n' → Q v H') ∧ XOk g E (postx ds n)
@[simp] def sRaise (C : Addr) (f : Str) (W : XWD) (te : TED) : TSD := fun _ r n => te r n fun d _ n1 => plainD d = true ∧ W C f d n1
@[simp] def dCallX (pre : List DV → Nat → Prop) (post : List DV → Nat → DV → Nat → Prop) (postx : List DV → Nat → XWD) (W : XWD) (ts : TAD) : TED := fun r n P => ts r n fun ds r1 n1 => (ds.all okArg = true) ∧ pre (ds.map argD) n1 ∧ (∀ d n2, post (ds.map argD) n1 d n2 → P d r1 n2) ∧
  ∀ C f d n2, postx (ds.map argD) n1 C f d n2 → W C f d n2
section
variable {X : Cx} {c : Cst} {EX : XK} {W : XWD} {e a b cc tg iter : Expr} {es : List Expr} {st : Stmt} {rest body : List Stmt} {te : TED} {tas : TAD} {tt : TTD} {t u : TSD} {src : TSrc} {x f : Str} {pos p pos2 : Pos} {C : Addr}
theorem dsx_of (h : DS c X st t) : DSx c X EX W st t := ⟨fun g hg _ => h.run g hg⟩
theorem dssx_of (h : DSs c X rest t) : DSsx c X EX W rest t := ⟨fun g hg _ => h.run g hg⟩
theorem dssx_cons (h1 : DSx c X EX W st t) (h2 : DSsx c X EX W rest u) : DSsx c X EX W (st :: rest) (sSeq t u) := ⟨fun g hg hx => PSs.imp (pss_cons (h1.run g hg hx) (h2.run g hg hx)) fun D s H ⟨F, r, n, E, R, p, k⟩ =>
  ⟨F, r, n, _, R, p, ⟨fun F1 r1 n1 s1 H1 R1 p1 => ⟨F1, r1, n1, E, R1, p1, k.to⟩, k.rt0, k.bk0, k.ct0⟩⟩⟩
theorem dssx_one (h1 : DSx c X EX W st t) : DSsx c X EX W [st] t := ⟨fun g hg hx => pss_one (h1.run g hg hx)⟩
theorem dsx_if {a b : List Stmt} (hc : DT c X cc tt) (ha : DSsx c X EX W a t) (hb : DSsx c X EX W b u) : DSx c X EX W (.If cc a b pos) (sIf tt t u) := ⟨fun g hg hx => PS.imp (ps_if (hc.run g hg) (ha.run g hg hx) (hb.run g hg hx)) fun D s H ⟨F, r, n, E, R, p, k⟩ =>
  ⟨F, r, n, _, R, p, fun F1 b r1 n1 H1 sb R1 p1 => by
    cases b with
    | true => exact ⟨F1, r1, n1, E, R1, p1, k.mono sb⟩
    | false => exact ⟨F1, r1, n1, E, R1, p1, k.mono sb⟩⟩⟩
def liftSY (c : Cst) (EX : XK) (W : XWD) (t : TSD) : TS := fun D s H => ∃ g : G, g.c = c ∧ XOk g EX W ∧ liftS g t D s H
theorem DSsx.y (h : DSsx c X EX W body t) : PSs X body (liftSY c EX W t) := ⟨fun pins s σ H D I ⟨g, hg, hx, q⟩ => (h.run g hg hx).run pins s σ H D I q⟩
theorem dsx_for (b : Bnd) (hp : PassesOwn (model X.prog X.w) X.A X.env X.xe) (hc : X.calm = true) (hi : DI c X tg iter src) (hb : PG X tg (b.tg X.K)) (ht : DSsx c X EX W body t) (hs : ∀ x, foldedSetIterable iter X.env x = pure x := by intro _; rfl) : DSx c X EX W (.For tg iter body [] pos) (sFor b src t) := ⟨fun g hg hx =>
  PS.imp (ps_for hp hc (hi.run g hg) hb ht.y hs) fun D s H ⟨F, r, n, E, R, p, k⟩ => ⟨F, r, n, _, R, p, fun F1 ds r1 n1 J H1 sb R1 sv ⟨I, h0, hs, hd⟩ => by
    have J0 := R1.into
    have xin := hx.inner R1
    refine ⟨fun i m s' H' => m = ds.length - i ∧ i ≤ ds.length ∧ ∃ F r' n, Rel (g.inner F1 r1 s H1) F r' n s' H' ∧ I i r' n, ⟨ds.length, by simp, Nat.zero_le _, F1, r1, n1, J0, h0⟩, ?_⟩
    rintro i m s' H ⟨rfl, hi, F2, r2, n2, R2, hI⟩
    have svi := sv F2 H ⟨R2.bas.gro, R2.undA⟩ R2.bas.und
    by_cases hlt : i < ds.length
    · refine .inr ⟨svi.1 i hlt, fun s'' H' => ∃ F r n, Rel (g.inner F1 r1 s H1) F r n s'' H' ∧ I (i + 1) r n, fun s'' H' h => ⟨ds.length - (i + 1), by omega, rfl, hlt, h⟩, fun x H' y => ?_⟩
      have hdi : ds[i]? = some ds[i] := List.getElem?_eq_getElem hlt
      obtain ⟨F3, sb3, R3, zx⟩ : ∃ F3, SubH F2 F3 ∧ Rel (g.inner F1 r1 s H1) F3 r2 n2 s' H' ∧ Dz F3 x ds[i] := by
        rcases svi.2.2 i x H' _ hdi y with ⟨rfl, hx⟩ | ⟨p, us, es, rfl, hp, rfl, hu, ed⟩
        · exact ⟨F2, .refl F2, R2, hx⟩
        · have fp := R2.bas.und.some hp
          exact ⟨upd F2 p (.tup us), .new fp, R2.laid hp (fun _ z => by cases z), by rw [ed]; exact .tup upd_same (hu.mono (.new fp))⟩
      refine Bnd.run R3 zx (hs i _ r2 n2 hdi hI) fun r' s'' R4 hb _ => ?_
      exact ⟨g.inner F1 r1 s H1, hg, xin, F3, r', n2, _, R4, hb, ⟨fun F4 r4 n4 s4 H4 R5 q => ⟨F4, r4, n4, R5, q⟩, fun F4 d n4 v H4 b4 rv pl q => k.rt0 F4 d n4 v H4 (R1.backB b4) (RepD.inner.mp rv) pl q, fun F4 r4 n4 s4 H4 R5 q => k.nx0 F4 r4 n4 s4 H4 (R1.back R5) q, fun F4 r4 n4 s4 H4 R5 q => ⟨F4, r4, n4, R5, q⟩⟩⟩
    · have e : i = ds.length := by omega
      subst e
      exact .inl ⟨svi.2.1 _ rfl, k.nx0 F2 r2 n2 s' H (R1.back R2) (hd r2 n2 hI)⟩⟩⟩
theorem made_end {H1 : Hp} {a dx C : Addr} {f : Str} {v : V} (ha : H1 a = none) : upd (del (upd (upd (upd H1 a (exo a C none)) dx (exd dx [(f, v)])) a (exo a C (some dx))) a) dx (.xd [(f, v)]) = upd H1 dx (.xd [(f, v)]) := by
  funext b
  by_cases h1 : b = dx
  · subst h1; rw [upd_same, upd_same]
  · rw [upd_ne h1, upd_ne h1]
    by_cases h2 : b = a
    · subst h2; rw [del_same, ha]
    · rw [del_ne h2, upd_ne h2, upd_ne h1, upd_ne h2]
/-- raise X(e) -/
theorem dsx_raise (hc : X.calm = true) (tk : Takes X (fun cls d _ H => EX cls d H)) (T : ExcT X.prog X.w X.K X.mg X.base x C f) (hr : Room 2 X.A) (hg : Gl X x) (h : DE c X a te) (hdb : (x == ("__debug__" : Str)) = false := by decide)
    (he : starEach (a :: []) X.env = (false, eval a X.env) :: starEach [] X.env := by rfl) (hpl : (backTo pos (starEach [] X.env)).any (·.1) = false := by rfl) :
    DSx c X EX W (.Raise (some (.Call (.Name x p) [a] [] pos)) none pos2) (sRaise C f W te) := by
  obtain ⟨fI, fd, iC, tI, b, F⟩ := T.init
  refine ⟨fun g hgc hx => PS.imp (ps_raise hc tk (pmk_oex T.oex iC tI F hr b .nil pass0 hg T.mgC (pa_cons (h.run g hgc) pa_nil he) hdb he hpl)) fun D s H ⟨F, r, n, E, R, q, k⟩ => ⟨F, r, n, _, R, q, fun F1 d r1 n1 v H1 sb R1 rv ⟨pl, w⟩ => ?_⟩⟩
  refine ⟨by simp, fun z hz => ⟨z, v, rfl, upd_same, fun dx hdx hne => ⟨rfl, dx, [(f, v)], upd_same, by rw [upd_ne hne]; exact upd_same, ?_, ?_⟩⟩⟩
  · rw [upd_ne hne] at hdx; exact hdx
  · rw [upd_ne hne] at hdx
    rw [made_end hz]
    exact hx F1 n1 _ C dx f v d (R1.laidM hdx).bas upd_same rv pl w
/-- a call of a def that may raise -/
structure OkX (P : Program) (w : World) (K : PySem.W.Frag) (mg : Str → Option Value) (base : Heap) (c : Cst) (x : Str) (ps : List Str) (k : Nat) (pre : List DV → Nat → Prop) (post : List DV → Nat → DV → Nat → Prop) (postx : List DV → Nat → XWD) : Prop where
  ex : ∃ f fd, mg x = some (.ref f) ∧ PySem.W.keepIn K (.ref f) = true ∧ Binds K fd ps [] ∧ FnOk P w K mg base (L2.CX P w) k f fd ps (promX c pre post postx)
variable {pre : List DV → Nat → Prop} {post : List DV → Nat → DV → Nat → Prop} {postx : List DV → Nat → XWD} {k j : Nat} {ps : List Str}
theorem dex_call (O : OkX X.prog X.w X.K X.mg X.base c x ps k pre post postx) (hr : Room j X.A) (hj : k ≤ j) (hg : Gl X x) (tk : Takes X (fun cls d _ H => EX cls d H)) (ha : DA c X (e :: es) tas) (hdb : (x == ("__debug__" : Str)) = false := by decide)
    (he : starEach (e :: es) X.env = (false, eval e X.env) :: starEach es X.env := by rfl) (hpl : (backTo pos (starEach es X.env)).any (·.1) = false := by rfl) :
    DEx c X EX W (.Call (.Name x p) (e :: es) [] pos) (dCallX pre post postx W tas) := by
  obtain ⟨f, fd, m, kp, b, F⟩ := O.ex
  refine ⟨fun g hgc hx => PE.imp (pe_callS F (hr.mono hj) hg m kp b (fun σ => passAt tk σ) (ha.run g hgc) hdb he hpl) fun s H Q ⟨F, r, n, P, R, q, kk⟩ => ⟨F, r, n, _, R, q, fun F1 ds r1 n1 vs H1 s1 R1 rs ⟨ok, hp, hq, hqx⟩ => ?_⟩⟩
  refine ⟨g.call F1 H1, ds.map argD, n1, hgc, rfl, rfl, R1.bas.call, rep_args rs ok, hp, fun F' d n' v H' b rv pl h => ?_, fun F' n' H' C d f v y b ed rv pl h => ?_⟩
  · have sb : SubH F1 F' := b.gro
    exact kk F' d r1 n' v H' (s1.trans sb) (R1.called b) (rv.ret R1 b pl) (hq d n' h)
  · exact hx F' n' H' C d f v y (R1.called b).bas ed (rv.ret R1 b pl) pl (hqx C f y n' h)
theorem dsx_set {i : Nat} {y : Str} {pos' : Pos} (hN : X.N.Nodup) (hi : X.N[i]? = some y) (hx : Loc X.env.scope y) (h : DEx c X EX W e te) (hs : swapsWith e (some (.Name y pos')) pos.line X.env = pure false := by rfl) (hf : X.fn y = true ∨ X.env.scope.names.lookup y = some .local := by first | exact .inl rfl | exact .inr rfl | assumption) :
    DSx c X EX W (.Assign [.Name y pos'] e pos) (sSet i te) := ⟨fun g hg hxo => PS.imp (ps_set hN hi hx (h.run g hg hxo) hs hf) fun D s H ⟨F, r, n, E, R, p, k⟩ =>
  ⟨F, r, n, _, R, p, fun F1 d r1 n1 v H1 sb R1 rv p1 => k.nx F1 _ n1 _ H1 sb (R1.set rv) p1⟩⟩
end
theorem ok_defX {P : Program} {w : World} {K : PySem.W.Frag} {mg : Str → Option Value} {base : Heap} {c : Cst} {pre : List DV → Nat → Prop} {post : List DV → Nat → DV → Nat → Prop} {postx : List DV → Nat → XWD} {x : Str} {st : Stmt} {N ps : List Str} {k : Nat} (D : DefAt K mg x st)
    (hb : ∀ (kV doc pm : Value) (an : Option Addr) (cdv ct : Value) (us : List Value), us.length = ps.length → bindArgs (PySem.W.fnOf x x (defArgs st) (defBody st) (defScope st) .none kV doc pm an cdv ct) ⟨us, []⟩ = pure (ps.zip us))
    (S : FnScope N ps (defScope st)) (hlen : ∀ ds n, pre ds n → ds.length = ps.length)
    (hbody : ∀ (f : Addr) (cdv : Value) (A : Around) (outer : List Env) (s : Shared) (H : Hp) (E : XK), Room k (A.deeper (envOfC x (defScope st) s.heap.objs.size f cdv)) →
      ∃ t : XWD → TSD, (∀ W, DSsx c (cxOf (L2.CX P w) P w K mg base N x (defScope st) f cdv A outer s H E) E W (defBody st) (t W)) ∧ ∀ ds n, pre ds n → t (postx ds n) { nx := fun _ n' => post ds n (.py .none) n', rt := fun d n' => post ds n d n' } (startD N ds) n) :
    OkX P w K mg base c x ps (k + 1) pre post postx := by
  obtain ⟨f, fd, F, m⟩ := D.ex
  refine ⟨f, fd, m, F.kp, F.binds hb, F.okX S (fun vs H Q E h => ?_) (fun cdv A outer s H vs Q E hr h => ?_)⟩
  · obtain ⟨g, ds, n, _, _, _, _, rs, hp, _⟩ := h
    rw [Paired.length rs]; exact hlen ds n hp
  · obtain ⟨g, ds, n, hg, hH, _, b, rs, hp, q, qx⟩ := h
    obtain ⟨t, ht, hb⟩ := hbody f cdv A outer s H E hr
    exact ⟨_, (ht (postx ds n)).run g hg qx, g.F0, startD N ds, n, _, rel_start b rs, hb ds n hp, ⟨fun F' r' n' s' H' R hx => q F' (.py .none) n' .non H' R.bas Dz.non rfl hx, fun F' d n' v H' b' rv pl hx => q F' d n' v H' b' rv pl hx, fun _ _ _ _ _ _ z => z.elim, fun _ _ _ _ _ _ z => z.elim⟩⟩
end K21

set_option Elab.async false
set_option linter.all false
set_option maxRecDepth 100000
set_option maxHeartbeats 4000000
/-! K21G2: lots checked, ways checked, the fault of a lot. -/
namespace K21
open PySem PySem.Spec PyProof.Rows L2
section
variable {X : Cx} {c : Cst} {e a : Expr} {es : List Expr} {te : TED} {tas : TAD} {x : Str} {p pos p2 : Pos} {pre : List DV → Nat → Prop} {post : List DV → Nat → DV → Nat → Prop} {postx : List DV → Nat → XWD} {k j : Nat} {ps : List Str}
/-- .. where it does not raise -/
theorem de_okX (O : OkX X.prog X.w X.K X.mg X.base c x ps k pre post postx) (hr : Room j X.A) (hj : k ≤ j) (hg : Gl X x) (ha : DA c X (e :: es) tas) (hdb : (x == ("__debug__" : Str)) = false := by decide)
    (he : starEach (e :: es) X.env = (false, eval e X.env) :: starEach es X.env := by rfl) (hpl : (backTo pos (starEach es X.env)).any (·.1) = false := by rfl) :
    DE c X (.Call (.Name x p) (e :: es) [] pos) (dCallX pre post postx (fun _ _ _ _ => False) tas) := ⟨fun g hgc =>
  (dex_call (EX := fun _ _ _ => False) (W := fun _ _ _ _ => False) O hr hj hg takes0 ha hdb he hpl).run g hgc fun _ _ _ _ _ _ _ _ _ _ _ _ w => w⟩
def waysL : List Str := ["calm", "held", "whole", "least", "greatest", "settled"]
structure WayT (K : PySem.W.Frag) (mg : Str → Option Value) : Prop where
  ex : ∃ a o its n, mg "WAYS" = some (.ref a) ∧ K.lookup a = some o ∧ o.cls = .type "tuple" ∧ o.data = .seq its n ∧ its.size ≤ sizeLine ∧ Vals (waysL.map V.str) its.toList
@[simp] def tWays (te : TED) : TTD := fun r n P => te r n fun d r1 n1 => ∃ y, d = .py (.str y) ∧ P (!decide (y ∈ waysL)) r1 n1
theorem inV_strs (x : Str) : ∀ ys : List Str, inV (.str x) (ys.map V.str) = decide (x ∈ ys)
  | [] => by simp [inV]
  | y :: ys => by
    have ih := inV_strs x ys
    unfold inV at ih ⊢
    rw [List.map_cons, List.any_cons, ih]
    by_cases e : y = x
    · subst e; simp [eqV]
    · have : (x = y) = False := by simp [Ne.symm e]
      simp [eqV, e, this]
theorem dt_ways (T : WayT X.K X.mg) (hg : Gl X "WAYS") (h : DE c X a te) (hm : behindInMarks .NotIn (.Name "WAYS" p2) = false := by rfl) : DT c X (.Compare a [.NotIn] [.Name "WAYS" p2] pos) (tWays te) := by
  obtain ⟨w, o, its, n, m, lk, h1, h2, h3, h4⟩ := T.ex
  refine ⟨fun g hgc => PT.imp (pt_cmpR op_notIn_seq (h.run g hgc) (pe_glob (v := .ref w) hg m rfl) hm) fun s H Q ⟨F, r, n, P, R, q, k⟩ => ⟨F, r, n, _, R, q, fun F1 d r1 n1 v H1 sb R1 rv ⟨y, ed, q1⟩ => ?_⟩⟩
  subst ed
  cases rv
  refine ⟨w, waysL.map V.str, rfl, .inr (.inr ⟨o, its, _, lk, h1, h2, h3, h4⟩), rfl, by decide, _, rfl, ?_⟩
  rw [inV_strs]
  exact k F1 _ r1 n1 H1 sb R1 q1
end
section
variable {P : Program} {w : World} {K : PySem.W.Frag} {mg : Str → Option Value} {base : Heap} {c : Cst}
theorem sc_checked_lot : FnScope ["debate", "lot", "index", "thing"] ["debate", "lot"] (defScope (topS 21)) := ⟨rfl, rfl, rfl, by decide +kernel, rfl, by decide +kernel, by decide +kernel⟩
def pre_cl (ds : List DV) (_ : Nat) : Prop := ∃ D d, DOk D ∧ (∀ es, seqOf (.py d) = some es → es.length ≤ 1000) ∧ ds = [.deb D, .py d]
def post_cl (ds : List DV) (n : Nat) (d : DV) (n' : Nat) : Prop := n' = n ∧ ∃ D t ws, ds = [.deb D, .py t] ∧ seqOf (.py t) = some (sts ws) ∧ ws.Nodup ∧ (∀ x ∈ ws, x ∈ D.ns) ∧ d = .py (.list (sts (sortS ws)))
/-- where a lot is bad -/
def badAt (D : Deb) (t : PD) (k : Nat) : Prop := (seqOf (.py t) = none ∧ k = 0) ∨ ∃ es, seqOf (.py t) = some es ∧ k < es.length ∧ (∀ i < k, goodAt D es i) ∧ ¬ goodAt D es k
def px_cl (CB : Addr) (ds : List DV) (n : Nat) : XWD := fun C f x n' => n' = n ∧ C = CB ∧ f = "index" ∧ ∃ D t k, ds = [.deb D, .py t] ∧ badAt D t k ∧ x = .py (.int (k : Nat))
theorem cl_good {D : Deb} {t : PD} {m : List Str} {n n2 : Nat} {d : DV} (ht : seqOf (.py t) = some (sts m)) (h : post_cl [.deb D, .py t] n d n2) : n2 = n ∧ d = .py (.list (sts (sortS m))) := by
  obtain ⟨rfl, D', t', ws, e, hs, _, _, rfl⟩ := h
  simp only [List.cons.injEq, DV.deb.injEq, DV.py.injEq, and_true] at e
  obtain ⟨rfl, rfl⟩ := e
  rw [ht] at hs
  have := sts_inj (Option.some.inj hs)
  subst this
  exact ⟨rfl, rfl⟩
theorem good_not_bad {D : Deb} {t : PD} {m : List Str} {k : Nat} (ht : seqOf (.py t) = some (sts m)) (hn : m.Nodup) (hi : ∀ x ∈ m, x ∈ D.ns) (h : badAt D t k) : False := by
  rcases h with ⟨h, _⟩ | ⟨es, h, hk, _, hb⟩
  · rw [ht] at h; cases h
  · rw [ht] at h
    cases h
    exact hb (good_of hn hi (by simpa using hk))
theorem ok_checked_lot {CB : Addr} (D : DefAt K mg "checked_lot" (topS 21)) (B : Bn mg) (DT : DebT K c.C) (XT_BadLot : ExcT P w K mg base "BadLot" CB "index") (O_is_list : OkD P w K mg base c "is_list" ["thing"] 1 pre_any (pv1 f_is_list)) :
    OkX P w K mg base c "checked_lot" ["debate", "lot"] 3 pre_cl post_cl (px_cl CB) := by
  refine ok_defX D (fun _ _ _ _ _ _ us hl => match us, hl with | [_, _], _ => rfl) sc_checked_lot (fun ds n h => ?_) (fun f cdv A outer s H E hr => ?_)
  · obtain ⟨a, b, _, _, rfl⟩ := h; rfl
  · refine ⟨fun W => _, fun W => (dssx_cons (dsx_if (dt_not (dt_val (de_ok O_is_list hr (by decide) rfl (da_cons (de_v 1 (pv 1)) da_nil)))) (dssx_one (dsx_raise rfl (takes_of rfl rfl rfl rfl) XT_BadLot (hr.mono (by decide)) rfl de_int)) (dssx_of dss_nil)) (dssx_cons (dsx_for (.two 2 3) (passes_of rfl) rfl (di_enum rfl B.enumerate (de_v 1 (pv 1))) (pg_tup rfl (pgs_cons (pg_name (i := 2) sc_checked_lot.nd rfl (Or.inl rfl)) (pgs_cons (pg_name (i := 3) sc_checked_lot.nd rfl (Or.inl rfl)) pgs_nil))) (dssx_one (dsx_if (DW.dt (dw_or (dt_not (dt_val (de_isi (t := "str") rfl B.isinstance (de_v 3 (pv 3)) rfl B.str (by decide +kernel) (by simp [okTy])))) (dw_or (dt_dNotIn (hu1 hr) (de_v 3 (pv 3)) (de_fld DT.cls DT.nR (de_v 0 (pv 0)))) (dw_or1 (dt_inQ (hu65 hr) (de_v 3 (pv 3)) (de_cut (de_v 1 (pv 1)) do_none (do_some (de_v 2 (pv 2))))))))) (dssx_one (dsx_raise rfl (takes_of rfl rfl rfl rfl) XT_BadLot (hr.mono (by decide)) rfl (de_v 2 (pv 2)))) (dssx_of dss_nil)))) (dssx_one (dsx_of (ds_ret (de_sortedQ (hu64 hr) rfl B.sorted (de_v 1 (pv 1)))))))), fun ds n h => ?_⟩
    obtain ⟨D, t, hD, ht, rfl⟩ := h
    simp [startD, pv1, -Bool.exists_bool, -seqOf]
    refine ⟨⟨t, rfl⟩, ?_⟩
    cases hs : seqOf (.py t) with
    | none =>
      simp [-seqOf]
      exact ⟨rfl, rfl, rfl, D, t, 0, rfl, .inl ⟨hs, rfl⟩, rfl⟩
    | some es =>
      have hl := ht es hs
      simp [-seqOf]
      refine for_t2 (List.range es.length) (fun i => .int (i : Nat)) (fun i => es.getD i .none) (fun k r n' => (∃ a b, r = [some (.dat (.deb D)), some (.dat (.py t)), a, b]) ∧ n' = n ∧ ∀ i < k, goodAt D es i) (fun K h => by simp [-seqOf, hs, enumD_eq]; exact h) ⟨⟨_, _, rfl⟩, rfl, fun i hi => by omega⟩ (fun k x r n' hx ⟨⟨a, b, e⟩, en, hI⟩ => ?_) (fun r n' ⟨⟨a, b, e⟩, en, hI⟩ => ?_)
      · subst e en
        have hk : k < es.length := by simpa using (List.getElem?_eq_some_iff.mp hx).1
        have ex : x = k := by rw [List.getElem?_range hk] at hx; exact (Option.some.inj hx).symm
        subst ex
        have eg : es.getD x .none = es[x] := by simp [List.getD, hk]
        have ee : es[x]? = some es[x] := List.getElem?_eq_getElem hk
        rw [eg]
        generalize es[x] = q at ee
        have bad : ¬ goodAt D es x → px_cl CB [DV.deb D, DV.py t] n' CB "index" (.py (.int (x : Nat))) n' := fun h => ⟨rfl, rfl, rfl, D, t, x, rfl, .inr ⟨es, hs, hk, hI, h⟩, rfl⟩
        simp [-Bool.exists_bool, -seqOf]
        by_cases hq : isiD q ["str"] = true
        · obtain ⟨z, rfl⟩ := isi_str hq
          rw [hq]
          simp [-Bool.exists_bool, -seqOf]
          by_cases hzn : z ∈ D.ns
          · simp only [hzn, if_true]
            try simp [-Bool.exists_bool, -seqOf]
            obtain ⟨ws, k1, k2, k3⟩ := good_all (D := D) x (by omega) hI
            refine cut_pre hs hk ⟨by rw [k1]; exact shape_sts ws, ?_⟩
            cases hin : inD (.str z) (es.take x) with
            | true =>
              simp
              refine bad fun ⟨y, y1, y2, y3⟩ => ?_
              rw [ee] at y1
              cases y1
              rw [hin] at y3; cases y3
            | false =>
              simp
              intro i hi
              by_cases h2 : i = x
              · subst h2; exact ⟨z, ee, hzn, hin⟩
              · exact hI i (by omega)
          · simp only [hzn, if_false]
            try simp [-Bool.exists_bool, -seqOf]
            refine bad fun ⟨y, y1, y2, y3⟩ => ?_
            rw [ee] at y1
            cases y1
            exact hzn y2
        · have hq' : isiD q ["str"] = false := by simpa using hq
          rw [hq']
          simp
          refine bad fun ⟨y, y1, y2, y3⟩ => ?_
          rw [ee] at y1
          cases y1
          exact hq (by simp [isiD, subTy, tyName])
      · subst e en
        obtain ⟨ws, k1, k2, k3⟩ := good_all (D := D) es.length (Nat.le_refl _) fun i hi => hI i (by simpa using hi)
        rw [List.take_length] at k1
        subst k1
        have hl2 : ws.length ≤ 1000 := by rw [show (sts ws).length = ws.length by simp] at hl; exact hl
        simp only [sRet, dCB, dCons, dNil]
        refine ⟨_, rfl, kSortQ_sts hs (by rw [szL]; omega) ⟨rfl, rfl, D, t, ws, rfl, hs, k2, k3, rfl⟩⟩
theorem sc_checked_way : FnScope ["way"] ["way"] (defScope (topS 22)) := ⟨rfl, rfl, rfl, by decide +kernel, rfl, by decide +kernel, by decide +kernel⟩
@[simp] def f_checked_way : List DV → DV
  | [d] => d
  | _ => .py .none
def pre_cw (ds : List DV) (_ : Nat) : Prop := ds = [.py (.str "greatest")]
theorem ok_checked_way (D : DefAt K mg "checked_way" (topS 22)) (B : Bn mg) (WT : WayT K mg) : OkD P w K mg base c "checked_way" ["way"] 1 pre_cw (pv1 f_checked_way) := by
  refine ok_def D (fun _ _ _ _ _ _ us hl => match us, hl with | [_], _ => rfl) sc_checked_way (fun ds n h => ?_) (fun f cdv A outer s H E hr => ?_)
  · subst h; rfl
  · refine ⟨_, (dss_cons (ds_if (DW.dt (dw_or (dt_not (dt_val (de_isi (t := "str") rfl B.isinstance (de_v 0 (pv 0)) rfl B.str (by decide +kernel) (by simp [okTy])))) (dw_or1 (dt_ways WT rfl (de_v 0 (pv 0)))))) (dss_one ds_never) dss_nil) (dss_one (ds_ret (de_v 0 (pv 0))))), fun ds n h => ?_⟩
    subst h
    simp [startD, pv1, isiD, subTy, tyName, waysL]
theorem sc_fault_of : FnScope ["debate", "way", "lot"] ["debate", "way", "lot"] (defScope (topS 37)) := ⟨rfl, rfl, rfl, by decide +kernel, rfl, by decide +kernel, by decide +kernel⟩
def pre_fo (ds : List DV) (_ : Nat) : Prop := ∃ (D : Deb) (m : List Str), DOk D ∧ D.ns.length ≤ 7 ∧ m.length ≤ 64 ∧ m.Nodup ∧ (∀ x ∈ m, x ∈ D.ns) ∧ (clashP D (sortS m) = none → leftP D (sortS m) = none → ∃ g ∈ greatsD D, withinS (sortS m) g = true) ∧ ds = [.deb D, .py (.str "greatest"), .py (.list (sts m))]
def post_fo (ds : List DV) (n : Nat) (d : DV) (n' : Nat) : Prop := n' = n ∧ ∃ D m, ds = [.deb D, .py (.str "greatest"), .py (.list (sts m))] ∧ d = .py (faultG D (sortS m))
theorem ok_fault_of {CB : Addr} (D : DefAt K mg "fault_of" (topS 37)) (O_checked_way : OkD P w K mg base c "checked_way" ["way"] 1 pre_cw (pv1 f_checked_way)) (O_checked_lot : OkX P w K mg base c "checked_lot" ["debate", "lot"] 3 pre_cl post_cl (px_cl CB))
    (O_fault_in : OkD P w K mg base c "fault_in" ["debate", "way", "members"] 6 pre_FI (pv1 f_fault_in)) : OkD P w K mg base c "fault_of" ["debate", "way", "lot"] 7 pre_fo post_fo := by
  refine ok_def D (fun _ _ _ _ _ _ us hl => match us, hl with | [_, _, _], _ => rfl) sc_fault_of (fun ds n h => ?_) (fun f cdv A outer s H E hr => ?_)
  · obtain ⟨_, _, _, _, _, _, _, _, rfl⟩ := h; rfl
  · refine ⟨_, (dss_one (ds_ret (de_ok O_fault_in hr (by decide) rfl (da_cons (de_v 0 (pv 0)) (da_cons (de_ok O_checked_way hr (by decide) rfl (da_cons (de_v 1 (pv 1)) da_nil)) (da_cons (de_okX O_checked_lot hr (by decide) rfl (da_cons (de_v 0 (pv 0)) (da_cons (de_v 2 (pv 2)) da_nil))) da_nil)))))), fun ds n h => ?_⟩
    obtain ⟨D, m, hD, hl, hm, hn, hi, hg, rfl⟩ := h
    simp [startD, pv1, -Bool.exists_bool, -seqOf]
    refine ⟨rfl, ⟨D, _, hD, fun es h => ?_, rfl⟩, fun d n2 h => ?_, fun C f d n2 h => ?_⟩
    · cases h
      simpa using Nat.le_trans hm (by omega)
    · obtain ⟨rfl, rfl⟩ := cl_good (t := .list (sts m)) rfl h
      simp
      exact ⟨⟨D, sortS m, hD, hl, by rw [len_sortS]; exact hm, fun x hx => hi x (mem_sortS.mp hx), hg, rfl⟩, rfl, D, m, rfl, rfl⟩
    · obtain ⟨_, _, _, D', t, k, e, hb, _⟩ := h
      cases e
      exact good_not_bad rfl hn hi hb
end
end K21

set_option Elab.async false
set_option linter.all false
set_option maxRecDepth 100000
set_option maxHeartbeats 4000000
/-! K21G3: names, pairs, statements and objections checked. -/
namespace K21
open PySem PySem.Spec PyProof.Rows L2
def smallS : Str := "abcdefghijklmnopqrstuvwxyz"
def figS : Str := "0123456789"
def signS (q : Nat) : Str := ⟨#[q]⟩
def nameB (x : Str) : Bool := decide (0 < x.length) && decide (x.length ≤ 12) && (match x.cps.toList with
  | q :: _ => inS (signS q) smallS
  | [] => false) && x.cps.toList.all fun q => inS (signS q) (smallS ++ figS)
structure NamesOk (ns : List Str) : Prop where
  ok : ∀ x ∈ ns, nameB x = true
section
variable {P : Program} {w : World} {K : PySem.W.Frag} {mg : Str → Option Value} {base : Heap} {c : Cst}
theorem sc_is_name : FnScope ["thing", "sign"] ["thing"] (defScope (topS 12)) := ⟨rfl, rfl, rfl, by decide +kernel, rfl, by decide +kernel, by decide +kernel⟩
def pre_nm (ds : List DV) (_ : Nat) : Prop := ∃ x, nameB x = true ∧ ds = [.py (.str x)]
@[simp] def f_true : List DV → DV := fun _ => .py (.bool true)
theorem ok_is_name (D : DefAt K mg "is_name" (topS 12)) (B : Bn mg) (CT : ConT mg) : OkD P w K mg base c "is_name" ["thing"] 1 pre_nm (pv1 f_true) := by
  refine ok_def D (fun _ _ _ _ _ _ us hl => match us, hl with | [_], _ => rfl) sc_is_name (fun ds n h => ?_) (fun f cdv A outer s H E hr => ?_)
  · obtain ⟨_, _, rfl⟩ := h; rfl
  · refine ⟨_, (dss_cons (ds_if (DW.dt (dw_or (dt_not (dt_val (de_isi (t := "str") rfl B.isinstance (de_v 0 (pv 0)) rfl B.str (by decide +kernel) (by simp [okTy])))) (dw_or (dt_not (dt_chain de_int (de_lenS rfl B.len (de_v 0 (pv 0))) de_int (fun _ _ _ h1 h2 h3 => pt_chain op_lt op_le h1 h2 h3))) (dw_or1 (dt_notInS (de_ixS (de_v 0 (pv 0)) de_int) (de_globS rfl CT.SMALL.choose_spec)))))) (dss_one (ds_ret de_bl)) dss_nil) (dss_one (ds_ret (de_all rfl rfl B.all (de_lc (own := [("sign", 1)]) (.one 1) rfl sc_is_name.nd (di_str (de_v 0 (pv 0))) (blkOk_by (N := ["thing", "sign"]) (sc := defScope (topS 12)) (own := [("sign", 1)]) (by decide +kernel)) (fun _ _ _ _ _ => (pg_name (i := 1) sc_is_name.nd rfl (Or.inl rfl))) (fun _ _ _ _ _ => dts_nil) (fun _ _ _ _ _ => (de_inS (de_v 1 (pv 1)) (de_catS (de_globS rfl CT.SMALL.choose_spec) (de_globS rfl CT.FIGURES.choose_spec))))))))), fun ds n h => ?_⟩
    obtain ⟨x, hx, rfl⟩ := h
    simp only [nameB, Bool.and_eq_true, decide_eq_true_eq] at hx
    obtain ⟨⟨⟨h1, h2⟩, h3⟩, h4⟩ := hx
    simp [startD, pv1, -Bool.exists_bool, isiD, subTy, tyName]
    have hz : x.length ≤ sizeLine := by rw [szL]; omega
    cases hx : x.cps.toList with
    | nil => rw [hx] at h3; cases h3
    | cons q qs =>
      rw [hx] at h3
      refine ⟨hz, h1, by omega, hz, q, by simp, h3, ?_⟩
      refine lcta x.cps.toList (fun q => .str (signS q)) (fun _ => .bool true) (fun K h => ?_) (by simp) (by show x.cps.toList.length ≤ _; rw [Array.length_toList]; exact hz) rfl (fun q hq K hK => ?_) ?_
      · simp
        exact h
      · simp [signS]
        refine ⟨by rw [szL]; decide +kernel, ?_⟩
        have := List.all_eq_true.mp h4 q hq
        simp only [smallS, figS, signS] at this
        rw [this]
        exact hK
      · exact ⟨x.cps.toList.map fun _ => true, by rw [List.map_map]; rfl, by simp, rfl⟩
theorem sc_as_tuples : FnScope ["thing", "part"] ["thing"] (defScope (topS 13)) := ⟨rfl, rfl, rfl, by decide +kernel, rfl, by decide +kernel, by decide +kernel⟩
def pre_at : Nat → List DV → Nat → Prop
  | 0, _, _ => False
  | j + 1, ds, _ => ∃ d, (seqOf (.py d) = none ∨ (0 < j ∧ ∃ es, seqOf (.py d) = some es ∧ es.length ≤ 1000 ∧ ∀ e ∈ es, seqOf (.py e) = none)) ∧ ds = [.py d]
@[simp] def f_at : List DV → DV
  | [.py d] => match seqOf (.py d) with
    | some es => .py (.tuple es)
    | none => .py d
  | _ => .py .none
theorem ok_void' {k : Nat} {x : Str} {st : Stmt} {N ps : List Str} {post : List DV → Nat → DV → Nat → Prop} (D : DefAt K mg x st) (hb : ∀ (kV doc pm : Value) (an : Option Addr) (cdv ct : Value) (us : List Value), us.length = ps.length → bindArgs (PySem.W.fnOf x x (defArgs st) (defBody st) (defScope st) .none kV doc pm an cdv ct) ⟨us, []⟩ = pure (ps.zip us))
    (S : FnScope N ps (defScope st)) : OkD P w K mg base c x ps (k + 1) (fun _ _ => False) post := ok_def (k := k) D hb S (fun _ _ h => h.elim) fun _ _ _ _ _ _ _ _ => ⟨sNever, dss_never, fun _ _ h => h.elim⟩
theorem ok_as_tuples (D : DefAt K mg "as_tuples" (topS 13)) (B : Bn mg) (O_is_list : OkD P w K mg base c "is_list" ["thing"] 1 pre_any (pv1 f_is_list)) : ∀ j, OkD P w K mg base c "as_tuples" ["thing"] (j + 2) (pre_at j) (pv1 f_at)
  | 0 => ok_void' D (fun _ _ _ _ _ _ us hl => match us, hl with | [_], _ => rfl) sc_as_tuples
  | j + 1 => by
    have O_as_tuples := ok_as_tuples D B O_is_list j
    refine ok_def D (fun _ _ _ _ _ _ us hl => match us, hl with | [_], _ => rfl) sc_as_tuples (fun ds n h => ?_) (fun f cdv A outer s H E hr => ?_)
    · obtain ⟨_, _, rfl⟩ := h; rfl
    · refine ⟨_, (dss_one (ds_ret (de_if (dt_val (de_ok O_is_list hr (by omega) rfl (da_cons (de_v 0 (pv 0)) da_nil))) (de_tupleOf rfl B.tuple (de_lc (own := [("part", 1)]) (.one 1) rfl sc_as_tuples.nd (di_seqV 0 (pv 0)) (blkOk_by (N := ["thing", "part"]) (sc := defScope (topS 13)) (own := [("part", 1)]) (by decide +kernel)) (fun _ _ _ _ _ => (pg_name (i := 1) sc_as_tuples.nd rfl (Or.inl rfl))) (fun _ _ _ _ _ => dts_nil) (fun _ _ _ _ _ => (de_ok O_as_tuples hr (by omega) rfl (da_cons (de_v 1 (pv 1)) da_nil))))) (de_v 0 (pv 0))))), fun ds n h => ?_⟩
      obtain ⟨d, hd | ⟨hj, es, hd, hl, he⟩, rfl⟩ := h
      · simp [startD, pv1, -seqOf, hd]
        exact ⟨d, rfl⟩
      · simp [startD, pv1, -seqOf, hd]
        refine ⟨⟨d, rfl⟩, ?_⟩
        refine lcta es (fun e => e) (fun e => e) (fun K h => ?_) (by simp) (by rw [szL]; omega) rfl (fun e hm K hK => ?_) ?_
        · simp [-seqOf]
          exact ⟨es, hd, by simpa using h⟩
        · have hn := he e hm
          simp [-seqOf, pv1, hn]
          refine ⟨?_, hK⟩
          obtain ⟨i, rfl⟩ : ∃ i, j = i + 1 := ⟨j - 1, by omega⟩
          exact ⟨e, .inl hn, rfl⟩
        · simp
theorem sc_is_pair_of : FnScope ["thing", "statements", "one"] ["thing", "statements"] (defScope (topS 16)) := ⟨rfl, rfl, rfl, by decide +kernel, rfl, by decide +kernel, by decide +kernel⟩
def pre_po (ds : List DV) (_ : Nat) : Prop := ∃ d a b ns, seqOf (.py d) = some [.str a, .str b] ∧ a ∈ ns ∧ b ∈ ns ∧ ds = [.py d, .py (.list (sts ns))]
theorem ok_is_pair_of (D : DefAt K mg "is_pair_of" (topS 16)) (B : Bn mg) (O_is_list : OkD P w K mg base c "is_list" ["thing"] 1 pre_any (pv1 f_is_list)) : OkD P w K mg base c "is_pair_of" ["thing", "statements"] 2 pre_po (pv1 f_true) := by
  refine ok_def D (fun _ _ _ _ _ _ us hl => match us, hl with | [_, _], _ => rfl) sc_is_pair_of (fun ds n h => ?_) (fun f cdv A outer s H E hr => ?_)
  · obtain ⟨_, _, _, _, _, _, _, rfl⟩ := h; rfl
  · refine ⟨_, (dss_one (ds_ret (de_and (de_ok O_is_list hr (by decide) rfl (da_cons (de_v 0 (pv 0)) da_nil)) (de_and (de_eq (hu64 hr) (de_len rfl B.len (de_v 0 (pv 0))) de_int) (de_one (de_all rfl rfl B.all (de_lc (own := [("one", 2)]) (.one 2) rfl sc_is_pair_of.nd (di_seqV 0 (pv 0)) (blkOk_by (N := ["thing", "statements", "one"]) (sc := defScope (topS 16)) (own := [("one", 2)]) (by decide +kernel)) (fun _ _ _ _ _ => (pg_name (i := 2) sc_is_pair_of.nd rfl (Or.inl rfl))) (fun _ _ _ _ _ => dts_nil) (fun _ _ _ _ _ => (de_and (de_isi (t := "str") rfl B.isinstance (de_v 2 (pv 2)) rfl B.str (by decide +kernel) (by simp [okTy])) (de_one (de_in (hu65 hr) (de_v 2 (pv 2)) (de_v 1 (pv 1))))))))))))), fun ds n h => ?_⟩
    obtain ⟨d, a, b, ns, hd, ha, hb, rfl⟩ := h
    simp [startD, pv1, -Bool.exists_bool, -seqOf, -lenD, lenD_seq, hd]
    refine ⟨⟨d, rfl⟩, by decide +kernel, ?_⟩
    refine lcta [a, b] PyData.str (fun _ => .bool true) (fun K h => ?_) (by simp) (by rw [szL]; simp) rfl (fun x hx K hK => ?_) ⟨[true, true], rfl, by simp, rfl⟩
    · simp [-seqOf]
      exact ⟨_, hd, h⟩
    · have hm : x ∈ ns := by
        simp only [List.mem_cons, List.not_mem_nil, or_false] at hx
        rcases hx with rfl | rfl
        · exact ha
        · exact hb
      simp [-Bool.exists_bool, isiD, subTy, tyName, hm]
      exact hK
theorem sc_checked_statements : FnScope ["statements", "index", "thing"] ["statements"] (defScope (topS 15)) := ⟨rfl, rfl, rfl, by decide +kernel, rfl, by decide +kernel, by decide +kernel⟩
def pre_cs (ds : List DV) (_ : Nat) : Prop := ∃ d ns, seqOf (.py d) = some (sts ns) ∧ ns.Nodup ∧ ns.length ≤ 64 ∧ NamesOk ns ∧ ds = [.py d]
@[simp] def f_cs : List DV → DV
  | [d] => match seqOf d with
    | some es => .py (.list (sts (sortS (unS es))))
    | none => .py .none
  | _ => .py .none
theorem nodup_at {ns : List Str} (h : ns.Nodup) {k : Nat} (hk : k < ns.length) : inD (.str ns[k]) ((sts ns).take k) = false := by
  have e : ns[k]? = some ns[k] := List.getElem?_eq_getElem hk
  have : (sts ns).take k = sts (ns.take k) := by simp [sts]
  rw [this, inD_sts, decide_eq_false_iff_not]
  intro hm
  rw [← List.take_append_drop k ns, drop_get e, List.nodup_append] at h
  exact h.2.2 _ hm _ (List.mem_cons_self) rfl
theorem ok_checked_statements (D : DefAt K mg "checked_statements" (topS 15)) (B : Bn mg) (O_is_list : OkD P w K mg base c "is_list" ["thing"] 1 pre_any (pv1 f_is_list)) (O_is_name : OkD P w K mg base c "is_name" ["thing"] 1 pre_nm (pv1 f_true)) :
    OkD P w K mg base c "checked_statements" ["statements"] 2 pre_cs (pv1 f_cs) := by
  refine ok_def D (fun _ _ _ _ _ _ us hl => match us, hl with | [_], _ => rfl) sc_checked_statements (fun ds n h => ?_) (fun f cdv A outer s H E hr => ?_)
  · obtain ⟨_, _, _, _, _, _, rfl⟩ := h; rfl
  · refine ⟨_, (dss_cons (ds_if (dt_not (dt_val (de_ok O_is_list hr (by decide) rfl (da_cons (de_v 0 (pv 0)) da_nil)))) (dss_one ds_never) dss_nil) (dss_cons (ds_for (.two 1 2) PassesOwn.never rfl (di_enum rfl B.enumerate (de_v 0 (pv 0))) (pg_tup rfl (pgs_cons (pg_name (i := 1) sc_checked_statements.nd rfl (Or.inl rfl)) (pgs_cons (pg_name (i := 2) sc_checked_statements.nd rfl (Or.inl rfl)) pgs_nil))) (dss_one (ds_if (DW.dt (dw_or (dt_not (dt_val (de_ok O_is_name hr (by decide) rfl (da_cons (de_v 2 (pv 2)) da_nil)))) (dw_or1 (dt_inQ (hu65 hr) (de_v 2 (pv 2)) (de_cut (de_v 0 (pv 0)) do_none (do_some (de_v 1 (pv 1)))))))) (dss_one ds_never) dss_nil))) (dss_one (ds_ret (de_sortedQ (hu64 hr) rfl B.sorted (de_v 0 (pv 0))))))), fun ds n h => ?_⟩
    obtain ⟨d, ns, hd, hn, hl, ho, rfl⟩ := h
    simp [startD, pv1, -Bool.exists_bool, -seqOf, hd, -kSortQ]
    refine ⟨⟨d, rfl⟩, ?_⟩
    refine for_t2 (List.range ns.length) (fun i => .int (i : Nat)) (fun i => (sts ns).getD i .none) (fun k r n' => (∃ a b, r = [some (.dat (.py d)), a, b]) ∧ n' = n) (fun K h => by simp [-seqOf, hd, enumD_eq]; simpa using h) ⟨⟨_, _, rfl⟩, rfl⟩ (fun k x r n' hx ⟨⟨a, b, e⟩, en⟩ => ?_) (fun r n' ⟨⟨a, b, e⟩, en⟩ => ?_)
    · subst e en
      have hk : k < ns.length := by simpa using (List.getElem?_eq_some_iff.mp hx).1
      have ex : x = k := by rw [List.getElem?_range hk] at hx; exact (Option.some.inj hx).symm
      subst ex
      have eg : (sts ns).getD x .none = .str ns[x] := by simp [List.getD, sts, hk]
      rw [eg]
      simp [-Bool.exists_bool, -seqOf, pv1]
      refine ⟨⟨ns[x], ho.ok _ (List.getElem_mem hk), rfl⟩, ?_⟩
      have hk' : x < (sts ns).length := by simpa using hk
      refine cut_pre hd hk' ⟨by rw [show (sts ns).take x = sts (ns.take x) by simp [sts]]; exact shape_sts _, ?_⟩
      rw [nodup_at hn hk]
      try simp
    · subst e en
      simp only [sRet, dCB, dCons, dNil]
      exact ⟨_, rfl, kSortQ_sts hd (by rw [szL]; omega) ⟨rfl, by simp only [hd, unS_sts], rfl⟩⟩
theorem sc_checked_objections : FnScope ["objections", "statements", "known", "index", "thing"] ["objections", "statements"] (defScope (topS 17)) := ⟨rfl, rfl, rfl, by decide +kernel, rfl, by decide +kernel, by decide +kernel⟩
def pairE (d : PD) (p : Str × Str) : Prop := seqOf (.py d) = some [.str p.1, .str p.2]
def pre_co (ds : List DV) (_ : Nat) : Prop := ∃ d es ps ns, seqOf (.py d) = some es ∧ Paired pairE es ps ∧ ps.Nodup ∧ ps.length ≤ 4096 ∧ (∀ p ∈ ps, p.1 ∈ ns ∧ p.2 ∈ ns) ∧ ds = [.py d, .py (.list (sts ns))]
def post_co (ds : List DV) (n : Nat) (d : DV) (n' : Nat) : Prop := n' = n ∧ ∃ t es ps ns, ds = [.py t, .py (.list (sts ns))] ∧ seqOf (.py t) = some es ∧ Paired pairE es ps ∧ d = .py (.list ((sortP ps).map pairD))
theorem paired_get {α β : Type} {R : α → β → Prop} : ∀ {as : List α} {bs : List β}, Paired R as bs → ∀ {k : Nat} {a : α} {b : β}, as[k]? = some a → bs[k]? = some b → R a b
  | _, _, .nil, _, _, _, h, _ => by simp at h
  | _, _, .cons h t, 0, _, _, h1, h2 => by simp at h1 h2; subst h1 h2; exact h
  | _, _, .cons h t, k + 1, _, _, h1, h2 => paired_get t (k := k) (by simpa using h1) (by simpa using h2)
def knownT (ps : List (Str × Str)) : List (List Key × PD) := ps.map fun p => (keyP p, .bool true)
theorem keyP_inj {p q : Str × Str} (h : keyP p = keyP q) : p = q := by
  obtain ⟨a, b⟩ := p
  obtain ⟨x, y⟩ := q
  simp only [keyP, List.cons.injEq, Sum.inr.injEq, and_true] at h
  rw [h.1, h.2]
theorem lookT_known {ps : List (Str × Str)} {p : Str × Str} (h : p ∉ ps) : lookT (knownT ps) (keyP p) = none := by
  simp only [lookT, knownT, Option.map_eq_none_iff, List.find?_eq_none, decide_eq_true_eq, List.mem_map]
  rintro _ ⟨q, hq, rfl⟩ e
  exact h (keyP_inj e ▸ hq)
theorem putT_known {ps : List (Str × Str)} {p : Str × Str} (h : p ∉ ps) : putT (knownT ps) (keyP p) (.bool true) = knownT (ps ++ [p]) := by
  unfold putT
  rw [lookT_known h]
  simp [knownT]
theorem ok_checked_objections (D : DefAt K mg "checked_objections" (topS 17)) (B : Bn mg) (O_is_list : OkD P w K mg base c "is_list" ["thing"] 1 pre_any (pv1 f_is_list)) (O_is_pair_of : OkD P w K mg base c "is_pair_of" ["thing", "statements"] 2 pre_po (pv1 f_true))
    (O_as_tuples : OkD P w K mg base c "as_tuples" ["thing"] 4 (pre_at 2) (pv1 f_at)) : OkD P w K mg base c "checked_objections" ["objections", "statements"] 5 pre_co post_co := by
  refine ok_def D (fun _ _ _ _ _ _ us hl => match us, hl with | [_, _], _ => rfl) sc_checked_objections (fun ds n h => ?_) (fun f cdv A outer s H E hr => ?_)
  · obtain ⟨_, _, _, _, _, _, _, _, _, rfl⟩ := h; rfl
  · refine ⟨_, (dss_cons (ds_if (dt_not (dt_val (de_ok O_is_list hr (by decide) rfl (da_cons (de_v 0 (pv 0)) da_nil)))) (dss_one ds_never) dss_nil) (dss_cons (ds_newT (i := 2) sc_checked_objections.nd rfl (Or.inl rfl)) (dss_cons (ds_for (.two 3 4) PassesOwn.never rfl (di_enum rfl B.enumerate (de_v 0 (pv 0))) (pg_tup rfl (pgs_cons (pg_name (i := 3) sc_checked_objections.nd rfl (Or.inl rfl)) (pgs_cons (pg_name (i := 4) sc_checked_objections.nd rfl (Or.inl rfl)) pgs_nil))) (dss_cons (ds_if (DW.dt (dw_or (dt_not (dt_val (de_ok O_is_pair_of hr (by decide) rfl (da_cons (de_v 4 (pv 4)) (da_cons (de_v 1 (pv 1)) da_nil))))) (dw_or1 (dt_inT 2 (hu1 hr) (de_ok O_as_tuples hr (by decide) rfl (da_cons (de_v 4 (pv 4)) da_nil)) (pv 2))))) (dss_one ds_never) dss_nil) (dss_one (ds_putT 2 (hu1 hr) (pv 2) de_bl (de_ok O_as_tuples hr (by decide) rfl (da_cons (de_v 4 (pv 4)) da_nil)))))) (dss_one (ds_ret (de_sortedT 2 rfl (hu64 hr) rfl B.sorted (pv 2))))))), fun ds n h => ?_⟩
    obtain ⟨d, es, ps, ns, hd, hp, hn, hl, hi, rfl⟩ := h
    simp [startD, pv1, -Bool.exists_bool, -seqOf, hd]
    refine ⟨⟨d, rfl⟩, ?_⟩
    have hel : es.length = ps.length := Paired.length hp
    refine for_t2 (List.range es.length) (fun i => .int (i : Nat)) (fun i => es.getD i .none) (fun k r n' => (∃ a b, r = [some (.dat (.py d)), some (.dat (.py (.list (sts ns)))), some (.mu (.dT (knownT (ps.take k)))), a, b]) ∧ n' = n) (fun K h => by simp [-seqOf, hd, enumD_eq]; exact h) ⟨⟨_, _, rfl⟩, rfl⟩ (fun k x r n' hx ⟨⟨a, b, e⟩, en⟩ => ?_) (fun r n' ⟨⟨a, b, e⟩, en⟩ => ?_)
    · subst e en
      have hk : k < es.length := by simpa using (List.getElem?_eq_some_iff.mp hx).1
      have ex : x = k := by rw [List.getElem?_range hk] at hx; exact (Option.some.inj hx).symm
      subst ex
      have eg : es.getD x .none = es[x] := by simp [List.getD, hk]
      have ee : es[x]? = some es[x] := List.getElem?_eq_getElem hk
      have hkp : x < ps.length := by omega
      have ep : ps[x]? = some ps[x] := List.getElem?_eq_getElem hkp
      have hR : pairE es[x] ps[x] := paired_get hp ee ep
      have hmem : ps[x] ∈ ps := List.getElem_mem hkp
      have hnew : ps[x] ∉ ps.take x := fun hm => by
        have h := hn
        rw [← List.take_append_drop x ps, drop_get ep, List.nodup_append] at h
        exact h.2.2 _ hm _ (List.mem_cons_self) rfl
      rw [eg]
      generalize es[x] = q at hR
      generalize hpx : ps[x] = p at ep hR hmem hnew
      unfold pairE at hR
      have h2 : pre_at 2 [.py q] n' := ⟨q, .inr ⟨by decide, _, hR, by simp, by simp⟩, rfl⟩
      have look := lookT_known hnew
      have put := putT_known hnew
      rw [← take_succ_get ep] at put
      unfold keyP at look put
      simp [-Bool.exists_bool, -seqOf, pv1, hR, look]
      refine ⟨⟨q, p.1, p.2, ns, hR, (hi p hmem).1, (hi p hmem).2, rfl⟩, h2, ?_⟩
      exact ⟨by rw [knownT, List.length_map, List.length_take, szL]; omega, put⟩
    · subst e en
      have el : ps.take (List.range es.length).length = ps := by rw [List.length_range, hel, List.take_length]
      rw [el]
      simp
      refine ⟨ps, ?_, 1, ns, rfl, fun a b h => hi (a, b) h, by rw [szL]; omega, rfl, ?_⟩
      · simp [knownT]
      · exact ⟨d, es, ps, ns, rfl, hd, hp, rfl⟩
end
end K21

set_option Elab.async false
set_option linter.all false
set_option maxRecDepth 100000
set_option maxHeartbeats 4000000
/-! K21G4: dicts of new empty lists, filled; heaps that grow. -/
namespace K21
open PySem PySem.Spec PyProof.Rows L2
section
variable {g : G} {F F' H H' : Hp} {n n' : Nat}
/-- the heap only grows -/
theorem Bas.ext (b : Bas g F n H) (k : ∀ a o, H a = some o → H' a = some o) : Bas g F n H' :=
  ⟨fun a o e => (b.und a o e).imp (k _ _) fun ⟨od, kvs, e1, h⟩ => ⟨od, kvs, e1, k _ _ h⟩, b.gro, b.new, fun a o e h1 h2 => k _ _ (b.fr a o e h1 h2), fun a ps e => (by obtain ⟨ps', q⟩ := b.frt a ps e; exact ⟨ps', k _ _ q⟩), b.ntb, fun p hp => (b.tab p hp).ext k, b.str.keep fun a o _ e => k a o e, b.strF, b.anc⟩
theorem Bas.rel (b : Bas g F n H) : Rel g F [] n [] H := ⟨b, rfl, fun i z e => (by simp at e), fun i j m m' p _ e => by simp at e⟩
/-- a call keeps what is not data -/
theorem Bas.keep (b' : Bas (g.call F H) F' n' H') {a : Addr} {u : HO} (e : H a = some u) (h1 : ∀ ps, u ≠ .tbl ps) (h2 : ∀ xs, u ≠ .tup xs) (h3 : ¬ InS g.S a) (hf : F a = none) : H' a = some u ∧ F' a = none := by
  have e' : H' a = some u := b'.fr a u e h1 h3
  refine ⟨e', ?_⟩
  cases q : F' a with
  | none => rfl
  | some o =>
    have z : H a = none := b'.new a o hf q (b'.und.ntup q e' h2)
    rw [e] at z; cases z
open Classical in
/-- what stands at S is data from now on -/
noncomputable def addH (F H : Hp) (S : Addr → Prop) : Hp := fun a => match F a with
  | some o => some o
  | none => if S a then H a else none
theorem addH_left {S : Addr → Prop} : SubH F (addH F H S) := fun a o e => by simp only [addH, e]
theorem addH_at {S : Addr → Prop} {a : Addr} (hf : F a = none) (h : S a) : addH F H S a = H a := by
  unfold addH
  rw [hf]
  simp only [h, if_true]
theorem addH_case {S : Addr → Prop} {a : Addr} {o : HO} (e : addH F H S a = some o) : F a = some o ∨ (F a = none ∧ S a ∧ H a = some o) := by
  unfold addH at e
  cases q : F a with
  | some u => rw [q] at e; exact .inl e
  | none =>
    rw [q] at e
    by_cases h : S a
    · simp only [h, if_true] at e; exact .inr ⟨rfl, h, e⟩
    · simp only [h, if_false] at e; cases e
theorem Bas.add (b : Bas g F n H) {S : Addr → Prop} (h : ∀ a, S a → g.H0 a = none ∧ ¬ InS g.S a ∧ ∀ ps, H a ≠ some (.tbl ps)) : Bas g (addH F H S) n H := by
  refine ⟨fun a o e => ?_, b.gro.trans addH_left, fun a o h1 h2 h3 => ?_, b.fr, b.frt, fun a ps e => ?_, b.tab, b.str, fun a ha => ?_, b.anc⟩
  · rcases addH_case e with q | ⟨_, _, q⟩
    · exact b.und a o q
    · exact .inl q
  · rcases addH_case h2 with q | ⟨_, hs, q⟩
    · exact b.new a o h1 q h3
    · exact (h a hs).1
  · rcases addH_case e with q | ⟨_, hs, q⟩
    · exact b.ntb a ps q
    · exact (h a hs).2.2 ps q
  · cases q : addH F H S a with
    | none => rfl
    | some o =>
      rcases addH_case q with z | ⟨_, hs, z⟩
      · rw [b.strF a ha] at z; cases z
      · exact absurd ha (h a hs).2.1
end
/-! ### rows: a dict from names to lists -/
def zipK (ns : List Str) (as : List Addr) : List (Key × V) := List.zipWith (fun n a => (Sum.inr n, V.ref a)) ns as
theorem zipK_snoc {ns : List Str} {as : List Addr} {x : Str} {a : Addr} (h : ns.length = as.length) : zipK (ns ++ [x]) (as ++ [a]) = zipK ns as ++ [(Sum.inr x, V.ref a)] := by
  unfold zipK
  rw [List.zipWith_append h]
  rfl
theorem zipK_len {ns : List Str} {as : List Addr} (h : ns.length = as.length) : (zipK ns as).length = ns.length := by simp [zipK, h]
theorem zip_key : ∀ {ns : List Str} {as : List Addr} {p : Key × V}, p ∈ zipK ns as → ∃ q ∈ ns.zip as, p = (Sum.inr q.1, V.ref q.2)
  | [], _, p, h => by simp [zipK] at h
  | _ :: _, [], p, h => by simp [zipK] at h
  | n :: ns, a :: as, p, h => by
    have h' : p = (Sum.inr n, V.ref a) ∨ p ∈ zipK ns as := by simpa [zipK] using h
    rcases h' with rfl | h'
    · exact ⟨(n, a), by simp, rfl⟩
    · obtain ⟨q, h1, h2⟩ := zip_key h'
      exact ⟨q, by simp [h1], h2⟩
theorem zipK_val : ∀ {ns : List Str} {as : List Addr} {x : Str}, ns.length = as.length → x ∈ ns → ∃ a, (x, a) ∈ ns.zip as ∧ valV (zipK ns as) (Sum.inr x) = some (.ref a)
  | [], _, x, _, h => by simp at h
  | _ :: _, [], x, h, _ => by simp at h
  | n :: ns, a :: as, x, hl, h => by
    have e0 : zipK (n :: ns) (a :: as) = (Sum.inr n, V.ref a) :: zipK ns as := rfl
    by_cases e : n = x
    · subst e
      exact ⟨a, by simp, by rw [e0, valV_pos rfl]⟩
    · obtain ⟨b, h1, h2⟩ := zipK_val (ns := ns) (as := as) (x := x) (by simpa using hl) (by
        rcases List.mem_cons.mp h with z | z
        · exact absurd z.symm e
        · exact z)
      exact ⟨b, by simp [h1], by rw [e0, valV_neg (fun z => e (Sum.inr.inj z)), h2]⟩
theorem zip_inj {ns : List Str} {as : List Addr} (h : as.Nodup) {x y : Str} {a : Addr} (h1 : (x, a) ∈ ns.zip as) (h2 : (y, a) ∈ ns.zip as) : x = y := by
  induction ns generalizing as with
  | nil => simp at h1
  | cons n ns ih =>
    cases as with
    | nil => simp at h1
    | cons b as =>
      simp only [List.zip_cons_cons, List.mem_cons, Prod.mk.injEq] at h1 h2
      rw [List.nodup_cons] at h
      rcases h1 with ⟨rfl, rfl⟩ | h1 <;> rcases h2 with ⟨rfl, e⟩ | h2
      · rfl
      · exact absurd (List.of_mem_zip h2).2 h.1
      · subst e; exact absurd (List.of_mem_zip h1).2 h.1
      · exact ih h.2 h1 h2
theorem zip_inj' {ns : List Str} {as : List Addr} (h : ns.Nodup) {x : Str} {a b : Addr} (h1 : (x, a) ∈ ns.zip as) (h2 : (x, b) ∈ ns.zip as) : a = b := by
  induction ns generalizing as with
  | nil => simp at h1
  | cons n ns ih =>
    cases as with
    | nil => simp at h1
    | cons z as =>
      simp only [List.zip_cons_cons, List.mem_cons, Prod.mk.injEq] at h1 h2
      rw [List.nodup_cons] at h
      rcases h1 with ⟨rfl, rfl⟩ | h1 <;> rcases h2 with ⟨e, rfl⟩ | h2
      · rfl
      · exact absurd (List.of_mem_zip h2).1 h.1
      · subst e; exact absurd (List.of_mem_zip h1).1 h.1
      · exact ih h.2 h1 h2
/-- a new dict D from ns to new lists at as, all else of H as it was -/
structure Rows (H : Hp) (D : Addr) (ns : List Str) (as : List Addr) (H' : Hp) : Prop where
  len : ns.length = as.length
  nd : as.Nodup
  new : ∀ a ∈ as, H a = none ∧ a ≠ D
  emp : ∀ a ∈ as, H' a = some (.lst [])
  dct : H' D = some (.dK (zipK ns as))
  kp : ∀ b o, H b = some o → H' b = some o
/-- {n: [] for n in ns} -/
theorem rows_made {K : PySem.W.Frag} {H : Hp} {la : Addr} {ns : List Str} {j : Nat} {σ : L2.St} {Q : VK} (hj : j < σ.length) (hn : ns.Nodup) (hl : ns.length ≤ 64) (hq : ∀ H', (∀ b o, H b = some o → H' b = some o) → SqL K H' la (ns.map V.str))
    (hQ : ∀ D as H', H D = none → Rows H D ns as H' → Q (.ref D) H') :
    ∀ D, H D = none → ∃ W : Nat → Nat → Hp → Prop, (∃ m, W 0 m (upd H D (.dK []))) ∧ ∀ i m H', W i m H' →
      ((Itl K la).stop i H' ∧ Q (.ref D) H') ∨ ((Itl K la).go i H' ∧ ∃ Nx : Hp → Prop, (∀ H'', Nx H'' → ∃ m', m' < m ∧ W (i + 1) m' H'') ∧ ∀ x H'', (Itl K la).yld i H' x H'' → gName j x (L2.wipe σ [j]) H'' fun σ2 H2 => L2.wipe σ2 [j] = L2.wipe σ [j] ∧ tYes σ2 H2 fun b H3 =>
        if b = true then tVar j σ2 H3 fun y H4 => tLst tNil σ2 H4 fun z H5 => ∃ kvs k, y = kV k ∧ H5 D = some (.dK kvs) ∧ kvs.length < sizeLine ∧ Nx (upd H5 D (.dK (putK kvs k z))) else Nx H3) := by
  intro D hD
  refine ⟨fun i m H' => m = ns.length - i ∧ i ≤ ns.length ∧ ∃ as, Rows H D (ns.take i) as H', ⟨ns.length, by simp, Nat.zero_le _, [], by simp, by simp, by simp, by simp, upd_same, fun b o e => by rw [upd_ne (ne_of_none e hD)]; exact e⟩, ?_⟩
  rintro i m H' ⟨rfl, hi, as, R⟩
  have hs := hq H' R.kp
  by_cases hlt : i < ns.length
  · have hx : ns[i]? = some ns[i] := List.getElem?_eq_getElem hlt
    have hx' : (ns.map V.str)[i]? = some (.str ns[i]) := by rw [List.getElem?_map, hx]; rfl
    refine .inr ⟨⟨_, _, hs, hx'⟩, fun H'' => ∃ as, Rows H D (ns.take (i + 1)) as H'', fun H'' h => ⟨ns.length - (i + 1), by omega, rfl, hlt, h⟩, fun x H'' y => ?_⟩
    obtain ⟨rfl, y⟩ := y
    have ex := y _ hs
    rw [hx'] at ex
    cases ex
    have hw : j < (L2.wipe σ [j]).length := by rw [L2.wipe_length]; exact hj
    refine ⟨by rw [wipe_set (by simp), wipe_idem], ?_⟩
    unfold tYes
    refine iteT ⟨_, List.getElem?_set_self hw, Nat.zero_le _, fun p hp => ?_⟩
    have pD : D ≠ p := ne_of_none R.dct hp
    have hpa : p ∉ as := fun z => by have := R.emp p z; rw [hp] at this; cases this
    have hp0 : H p = none := by
      cases q : H p with
      | none => rfl
      | some o => have := R.kp p o q; rw [hp] at this; cases this
    have hlen := R.len
    have hnew : ((zipK (ns.take i) as).any fun kv => decide (kv.1 = Sum.inr ns[i])) = false := by
      rw [List.any_eq_false]
      intro kv hkv
      obtain ⟨q, hq, rfl⟩ := zip_key hkv
      rw [decide_eq_true_eq]
      intro e
      have e' := Sum.inr.inj e
      have hm := (List.of_mem_zip hq).1
      rw [e'] at hm
      rw [← List.take_append_drop i ns, drop_get hx, List.nodup_append] at hn
      exact hn.2.2 _ hm _ (List.mem_cons_self) rfl
    refine ⟨_, Sum.inr ns[i], rfl, by rw [upd_ne pD]; exact R.dct, by rw [zipK_len hlen, List.length_take, szL]; omega, as ++ [p], ?_⟩
    have eput : putK (zipK (ns.take i) as) (Sum.inr ns[i]) (.ref p) = zipK (ns.take (i + 1)) (as ++ [p]) := by
      unfold putK
      rw [hnew, if_neg (by simp), take_succ_get hx, zipK_snoc hlen]
    rw [eput]
    refine ⟨by rw [take_succ_get hx, List.length_append, List.length_append, hlen]; rfl, ?_, fun a ha => ?_, fun a ha => ?_, upd_same, fun b o e => ?_⟩
    · rw [List.nodup_append]
      refine ⟨R.nd, by simp, fun a ha b hb => ?_⟩
      rw [List.mem_singleton] at hb
      subst hb
      intro z
      subst z
      exact hpa ha
    · rcases List.mem_append.mp ha with z | z
      · exact R.new a z
      · rw [List.mem_singleton.mp z]; exact ⟨hp0, Ne.symm pD⟩
    · rcases List.mem_append.mp ha with z | z
      · have na : a ≠ p := fun e => hpa (e ▸ z)
        rw [upd_ne (R.new a z).2, upd_ne na]
        exact R.emp a z
      · rw [List.mem_singleton.mp z, upd_ne (Ne.symm pD), upd_same]
    · have h1 := R.kp b o e
      rw [upd_ne (ne_of_none e hD), upd_ne (ne_of_none h1 hp)]
      exact h1
  · have e : i = ns.length := by omega
    subst e
    rw [List.take_length] at R
    exact .inl ⟨⟨_, hs, by rw [List.length_map]; omega⟩, hQ D as H' hD R⟩
theorem rows_tDc {K : PySem.W.Frag} {H : Hp} {la : Addr} {ns : List Str} {j : Nat} {σ : L2.St} {Q : VK} {tl : TE} (hj : j < σ.length) (hn : ns.Nodup) (hl : ns.length ≤ 64) (hq : ∀ H', (∀ b o, H b = some o → H' b = some o) → SqL K H' la (ns.map V.str)) (hs : ∀ R : V → Hp → Prop, R (.ref la) H → tl σ H R)
    (hQ : ∀ D as H', H D = none → Rows H D ns as H' → Q (.ref D) H') : tDc (iList K tl) (gName j) tYes (tVar j) (tLst tNil) [j] σ H Q :=
  hs _ ⟨la, rfl, ⟨_, hq H fun _ _ e => e⟩, rows_made hj hn hl hq hQ⟩
/-- the rows as they stand: the list of n is f n -/
structure RowsC (H : Hp) (D : Addr) (ns : List Str) (as : List Addr) (f : Str → List V) : Prop where
  dct : H D = some (.dK (zipK ns as))
  row : ∀ n a, (n, a) ∈ ns.zip as → H a = some (.lst (f n))
theorem RowsC.put {H : Hp} {D : Addr} {ns : List Str} {as : List Addr} {f f' : Str → List V} (R : RowsC H D ns as f) (hn : ns.Nodup) (ha : as.Nodup) (hD : D ∉ as) {x : Str} {a : Addr} (hx : (x, a) ∈ ns.zip as) (h1 : ∀ n, n ≠ x → f' n = f n) :
    RowsC (upd H a (.lst (f' x))) D ns as f' := by
  have am := (List.of_mem_zip hx).2
  have nD : D ≠ a := fun z => hD (by rw [z]; exact am)
  refine ⟨by rw [upd_ne nD]; exact R.dct, fun n b hb => ?_⟩
  by_cases e : b = a
  · subst e
    rw [zip_inj ha hb hx, upd_same]
  · have : n ≠ x := fun z => e (by subst z; exact zip_inj' hn hb hx)
    rw [upd_ne e, h1 n this]
    exact R.row n b hb
theorem RowsC.far {H : Hp} {D a : Addr} {o : HO} {ns : List Str} {as : List Addr} {f : Str → List V} (R : RowsC H D ns as f) (h1 : D ≠ a) (h2 : a ∉ as) : RowsC (upd H a o) D ns as f :=
  ⟨by rw [upd_ne h1]; exact R.dct, fun n b hb => by
    have nb : b ≠ a := fun z => h2 (by rw [← z]; exact (List.of_mem_zip hb).2)
    rw [upd_ne nb]; exact R.row n b hb⟩
theorem Rows.c {H H' : Hp} {D : Addr} {ns : List Str} {as : List Addr} (R : Rows H D ns as H') : RowsC H' D ns as fun _ => [] := ⟨R.dct, fun n a h => R.emp a (List.of_mem_zip h).2⟩
theorem RowsC.kept {H H' : Hp} {D : Addr} {ns : List Str} {as : List Addr} {f : Str → List V} (R : RowsC H D ns as f) (k : ∀ b o, b = D ∨ b ∈ as → H b = some o → H' b = some o) : RowsC H' D ns as f :=
  ⟨k _ _ (.inl rfl) R.dct, fun n a h => k _ _ (.inr (List.of_mem_zip h).2) (R.row n a h)⟩
/-- the rows as data -/
theorem rows_data {F : Hp} {h : Str → List Str} : ∀ {ns : List Str} {as : List Addr}, ns.length = as.length → (∀ x ∈ ns, PyData.strOk x = true ∧ ∀ y ∈ h x, PyData.strOk y = true) → (∀ n a, (n, a) ∈ ns.zip as → F a = some (.lst ((h n).map V.str))) →
    PairK F (zipK ns as) (ns.map fun n => (n, .list (sts (h n))))
  | [], [], _, _, _ => .nil
  | [], _ :: _, hl, _, _ => by simp at hl
  | _ :: _, [], hl, _, _ => by simp at hl
  | n :: ns, a :: as, hl, ho, hr => .cons ⟨⟨rfl, (ho n (by simp)).1⟩, .lst (hr n a (by simp)) (dz_sts (ho n (by simp)).2)⟩
      (rows_data (by simpa using hl) (fun x hx => ho x (by simp [hx])) fun x b hb => hr x b (by simp [hb]))
end K21

set_option Elab.async false
set_option linter.all false
set_option maxRecDepth 100000
set_option maxHeartbeats 4000000
/-! K21G5: Debate(..). -/
namespace K21
open PySem PySem.Spec PyProof.Rows L2
abbrev sInit : Stmt := inClass (topS 18) 0
abbrev nInit : List Str := ["self", "statements", "objections", "statement", "one", "other"]
theorem sc_init : FnScope nInit ["self", "statements", "objections"] (defScope sInit) := ⟨rfl, rfl, rfl, by decide +kernel, rfl, by decide +kernel, by decide +kernel⟩
structure DebIn (d1 d2 : PD) (ns : List Str) (ps : List (Str × Str)) (es : List PD) : Prop where
  h1 : seqOf (.py d1) = some (sts ns)
  np : NP ns ps
  nm : NamesOk ns
  h2 : seqOf (.py d2) = some es
  h3 : Paired pairE es ps
def rowO (ps : List (Str × Str)) (k : Nat) (n : Str) : List V := ((ps.take k).filter fun p => decide (p.2 = n)).map fun p => V.str p.1
def rowT (ps : List (Str × Str)) (k : Nat) (n : Str) : List V := ((ps.take k).filter fun p => decide (p.1 = n)).map fun p => V.str p.2
section
variable {ps : List (Str × Str)} {k : Nat} {p : Str × Str}
theorem rowO_eq (h : ps[k]? = some p) : rowO ps k p.2 ++ [V.str p.1] = rowO ps (k + 1) p.2 := by simp [rowO, take_succ_get h, List.filter_append]
theorem rowT_eq (h : ps[k]? = some p) : rowT ps k p.1 ++ [V.str p.2] = rowT ps (k + 1) p.1 := by simp [rowT, take_succ_get h, List.filter_append]
theorem rowO_ne (h : ps[k]? = some p) {n : Str} (hn : p.2 ≠ n) : rowO ps (k + 1) n = rowO ps k n := by simp [rowO, take_succ_get h, List.filter_append, hn]
theorem rowT_ne (h : ps[k]? = some p) {n : Str} (hn : p.1 ≠ n) : rowT ps (k + 1) n = rowT ps k n := by simp [rowT, take_succ_get h, List.filter_append, hn]
theorem rowO_len (ps : List (Str × Str)) (k : Nat) (n : Str) : (rowO ps k n).length ≤ ps.length := by
  have := List.length_filter_le (fun p : Str × Str => decide (p.2 = n)) (ps.take k)
  rw [List.length_take] at this
  rw [rowO, List.length_map]; omega
theorem rowT_len (ps : List (Str × Str)) (k : Nat) (n : Str) : (rowT ps k n).length ≤ ps.length := by
  have := List.length_filter_le (fun p : Str × Str => decide (p.1 = n)) (ps.take k)
  rw [List.length_take] at this
  rw [rowT, List.length_map]; omega
end
theorem rowO_all (ps : List (Str × Str)) (n : Str) : rowO ps ps.length n = ((ps.filter fun p => decide (p.2 = n)).map (·.1)).map V.str := by rw [rowO, List.take_length, List.map_map]; rfl
theorem rowT_all (ps : List (Str × Str)) (n : Str) : rowT ps ps.length n = ((ps.filter fun p => decide (p.1 = n)).map (·.2)).map V.str := by rw [rowT, List.take_length, List.map_map]; rfl
theorem zip_mem {ns : List Str} {as : List Addr} {a : Addr} (hl : ns.length = as.length) (h : a ∈ as) : ∃ n, (n, a) ∈ ns.zip as := by
  obtain ⟨m, hm, rfl⟩ := List.getElem_of_mem h
  exact ⟨ns[m]'(by omega), List.mem_iff_getElem.mpr ⟨m, by simp [hl, hm], by simp⟩⟩
theorem len_putF (f : Str) (v : V) : ∀ fs : List (Str × V), (putF f v fs).length ≤ fs.length + 1
  | [] => by simp [putF]
  | (y, z) :: r => by
    have := len_putF f v r
    unfold putF
    split <;> simp only [List.length_cons] <;> omega
theorem paired_one {es : List PD} {ps qs : List (Str × Str)} (h : Paired pairE es ps) (k : Paired pairE es qs) : ps = qs := by
  induction h generalizing qs with
  | nil => cases k; rfl
  | cons a t ih =>
    cases k with
    | cons b u =>
      rw [ih u]
      unfold pairE at a b
      have := a.symm.trans b
      simp only [Option.some.injEq, List.cons.injEq, PyData.str.injEq, and_true] at this
      congr 1
      exact Prod.ext this.1 this.2
def spInit (c : Cst) : Sp := fun vs H Q _ => ∃ (g : G) (n : Nat) (H1 : Hp) (x dx : Addr) (w1 w2 : V) (d1 d2 : PD) (ns : List Str) (ps : List (Str × Str)) (es : List PD), vs = [.ref x, w1, w2] ∧ H = upd (upd H1 dx (.own x)) x (.ins c.C dx []) ∧ H1 x = none ∧ H1 dx = none ∧ dx ≠ x ∧
  g.c = c ∧ g.H0 = H1 ∧ g.A = g.F0 ∧ Bas g g.F0 n H1 ∧ Dz g.F0 w1 d1 ∧ Dz g.F0 w2 d2 ∧ DebIn d1 d2 ns ps es ∧ ∀ F' H', Bas g F' n H' → DebR c.C F' (.ref x) (mkDeb ns ps) → Q .non H'
section
variable {P : Program} {w : World} {K : PySem.W.Frag} {mg : Str → Option Value} {base : Heap} {c : Cst}
theorem ok_init {f : Addr} {fd : FuncData} (F : Fun K "__init__" "Debate.__init__" sInit f fd) (B : Bn mg) (DT : DebT K c.C) (O_cs : OkD P w K mg base c "checked_statements" ["statements"] 2 pre_cs (pv1 f_cs)) (O_co : OkD P w K mg base c "checked_objections" ["objections", "statements"] 5 pre_co post_co) :
    FnOk P w K mg base CX0 6 f fd ["self", "statements", "objections"] (spInit c) := by
  obtain ⟨f1, fd1, m1, k1, b1, F1⟩ := O_cs.ex
  obtain ⟨f2, fd2, m2, k2, b2, F2⟩ := O_co.ex
  refine F.ok (k := 5) sc_init (fun vs H Q E h => ?_) (fun cdv A outer s H vs Q E hr h => ?_)
  · obtain ⟨g, n, H1, x, dx, w1, w2, d1, d2, ns, ps, es, rfl, _⟩ := h
    rfl
  · refine ⟨_, pss_cons (ps_fld (pv 0) (pe_call F1 (hr.mono (by decide)) rfl m1 k1 b1 .nil pass0 (pa_cons (pv 1) pa_nil)) rfl)
      (pss_cons (ps_fld (pv 0) (pe_call F2 hr rfl m2 k2 b2 .nil pass0 (pa_cons (pv 2) (pa_cons (pe_fld (pv 0) rfl) pa_nil rfl) rfl)) rfl)
      (pss_cons (ps_fld (pv 0) (pe_dc (own := [("statement", 3)]) (g := gName 3) (tt := tYes) rfl sc_init.nd (pi_list (pe_fld (pv 0) rfl)) (blkOk_by (N := nInit) (sc := defScope sInit) (own := [("statement", 3)]) (by decide +kernel)) (fun _ _ _ _ _ => pg_name (i := 3) sc_init.nd rfl (Or.inl rfl)) (fun _ _ _ _ _ => pts_nil) (fun _ _ _ _ _ => pv 3) (fun _ _ _ _ _ => pe_lst pa_nil)) rfl)
      (pss_cons (ps_fld (pv 0) (pe_dc (own := [("statement", 3)]) (g := gName 3) (tt := tYes) rfl sc_init.nd (pi_list (pe_fld (pv 0) rfl)) (blkOk_by (N := nInit) (sc := defScope sInit) (own := [("statement", 3)]) (by decide +kernel)) (fun _ _ _ _ _ => pg_name (i := 3) sc_init.nd rfl (Or.inl rfl)) (fun _ _ _ _ _ => pts_nil) (fun _ _ _ _ _ => pv 3) (fun _ _ _ _ _ => pe_lst pa_nil)) rfl)
      (pss_one (ps_for PassesOwn.never rfl (pi_list (pe_fld (pv 0) rfl)) (pg_tup rfl (pgs_cons (pg_name (i := 4) sc_init.nd rfl (Or.inl rfl)) (pgs_cons (pg_name (i := 5) sc_init.nd rfl (Or.inl rfl)) pgs_nil)))
        (pss_cons (ps_expr (pe_bm PySem.F.plainAttrs_list PySem.F.slot_list_append PySem.F.type_list_append mt_append (pe_dget (hu1 hr) (pe_fld (pv 0) rfl) (pv 5) (by intro _ _; rfl)) (pa_cons (pv 4) pa_nil)))
        (pss_one (ps_expr (pe_bm PySem.F.plainAttrs_list PySem.F.slot_list_append PySem.F.type_list_append mt_append (pe_dget (hu1 hr) (pe_fld (pv 0) rfl) (pv 4) (by intro _ _; rfl)) (pa_cons (pv 5) pa_nil)))))))))), ?_⟩
    obtain ⟨g, n, H1, x, dx, w1, w2, d1, d2, ns, ps, es, rfl, rfl, hx, hdx, hne, hg, hH, hA, b0, z1, z2, I, q⟩ := h
    have st0 : L2.start nInit [V.ref x, w1, w2] = [some (.ref x), some w1, some w2, none, none, none] := rfl
    rw [st0]
    simp only [tSeq, sFld]
    have hS : ¬ InS g.S x := b0.notS hx
    have f0 : g.F0 x = none := b0.und.some hx
    have hxd : upd H1 dx (.own x) x = none := by rw [upd_ne (Ne.symm hne)]; exact hx
    have b1 : Bas g g.F0 n (upd (upd H1 dx (.own x)) x (.ins c.C dx [])) := (b0.laidM hdx).laidM hxd
    have e1 : upd (upd H1 dx (.own x)) x (.ins c.C dx []) x = some (.ins c.C dx []) := upd_same
    generalize upd (upd H1 dx (.own x)) x (.ins c.C dx []) = Ha at b1 e1 hr
    have insT : ∀ {fs : List (Str × V)} (ps : Array Value), HO.ins c.C dx fs ≠ .tbl ps := fun _ z => by cases z
    have insP : ∀ {fs : List (Str × V)} (xs : List V), HO.ins c.C dx fs ≠ .tup xs := fun _ z => by cases z
    have insC : ∀ {fs : List (Str × V)} (z : Addr) (y : Str), HO.ins c.C dx fs ≠ LamX.CodeO z y := fun _ _ z => by unfold LamX.CodeO at z; cases z
    have h0x : g.H0 x = none := by rw [hH]; exact hx
    have NSnd : (sortS ns).Nodup := (sort_pm PyData.str ns).nodup_iff.mpr I.np.nd
    have NSl : (sortS ns).length ≤ 64 := by rw [len_sortS]; exact I.np.l1
    refine ⟨w1, rfl, g.call g.F0 Ha, [.py d1], n, hg, rfl, rfl, b1.call, .cons z1 .nil, ⟨d1, ns, I.h1, I.np.nd, I.np.l1, I.nm, rfl⟩, fun Fb d n1 y Hb bb ry pl hp => ?_⟩
    obtain ⟨rfl, en⟩ := hp
    have en := en.symm
    subst en
    have ry : Dz Fb y (.list (sts (sortS ns))) := by
      simp only [f_cs, I.h1, unS_sts] at ry
      exact ry
    obtain ⟨eb, fb⟩ := bb.keep e1 insT insP hS f0
    have b2 := (b1.rel.called bb).bas
    have sb : SubH g.F0 Fb := bb.gro
    have b3 : Bas g Fb n (upd Hb x (.ins c.C dx (putF ("own_statements" : Str) y []))) := b2.write eb insT insC fb h0x hS
    refine ⟨.ref x, rfl, x, c.C, dx, [], rfl, eb, DT.cls, DT.nS, by simp, w2, rfl, .ref x, rfl, x, c.C, dx, _, y, rfl, upd_same, DT.cls, DT.nS, rfl, ?_⟩
    have e3 : upd Hb x (.ins c.C dx (putF ("own_statements" : Str) y [])) x = some (.ins c.C dx (putF ("own_statements" : Str) y [])) := upd_same
    generalize upd Hb x (.ins c.C dx (putF ("own_statements" : Str) y [])) = Hc at b3 e3
    refine ⟨g.call Fb Hc, [.py d2, .py (.list (sts (sortS ns)))], n, hg, rfl, rfl, b3.call, .cons (z2.mono sb) (.cons ry .nil), ⟨d2, es, ps, sortS ns, I.h2, I.h3, I.np.pd, I.np.l2, fun p hp => ⟨mem_sortS.mpr (I.np.inn p hp).1, mem_sortS.mpr (I.np.inn p hp).2⟩, rfl⟩, fun Fd d n1 y2 Hd bd ry2 pl hp => ?_⟩
    obtain ⟨en, t', es', ps', ns', e0, hs', hp', rfl⟩ := hp
    have en := en.symm
    subst en
    have eps : ps' = ps := by
      simp only [List.cons.injEq, DV.py.injEq] at e0
      obtain ⟨rfl, _⟩ := e0
      have := I.h2.symm.trans hs'
      cases this
      exact paired_one hp' I.h3
    subst eps
    have ry2 : Dz Fd y2 (.list ((sortP ps').map pairD)) := ry2
    obtain ⟨ed, fd⟩ := bd.keep e3 insT insP hS fb
    have b4 := (b3.rel.called bd).bas
    have sd : SubH Fb Fd := bd.gro
    have ry1 : Dz Fd y (.list (sts (sortS ns))) := ry.mono sd
    refine ⟨.ref x, rfl, x, c.C, dx, _, rfl, ed, DT.cls, DT.nO, Nat.lt_of_le_of_lt (len_putF _ _ _) (by decide), ?_⟩
    have b5 : Bas g Fd n (upd Hd x (.ins c.C dx (putF ("own_objections" : Str) y2 (putF ("own_statements" : Str) y [])))) := b4.write ed insT insC fd h0x hS
    have e5 : upd Hd x (.ins c.C dx (putF ("own_objections" : Str) y2 (putF ("own_statements" : Str) y []))) x = some (.ins c.C dx (putF ("own_objections" : Str) y2 (putF ("own_statements" : Str) y []))) := upd_same
    generalize upd Hd x (.ins c.C dx (putF ("own_objections" : Str) y2 (putF ("own_statements" : Str) y []))) = He at b5 e5
    clear b4 b3 b2 bb bd e3 e1 eb ed ry b1
    cases ry1 with
    | @lst l1 xs1 _ q1 q2 =>
    have := q2.of_strs
    subst this
    have okNS := q2.strs
    have l1e : He l1 = some (.lst ((sortS ns).map V.str)) := b5.und.lst q1
    refine rows_tDc (by simp) NSnd NSl (fun H' k => .of (k _ _ l1e)) (fun R h => ⟨.ref x, rfl, x, c.C, dx, _, .ref l1, rfl, e5, DT.cls, DT.nS, rfl, h⟩) fun D1 as1 Hf hD1 R1 => ?_
    have xf : Hf x = _ := R1.kp x _ e5
    refine ⟨.ref x, rfl, x, c.C, dx, _, rfl, xf, DT.cls, DT.nR, Nat.lt_of_le_of_lt (Nat.le_trans (len_putF _ _ _) (Nat.add_le_add_right (len_putF _ _ _) 1)) (by decide), ?_⟩
    have k1 : ∀ b o, b ≠ x → Hf b = some o → upd Hf x (.ins c.C dx (putF ("own_objectors" : Str) (.ref D1) (putF ("own_objections" : Str) y2 (putF ("own_statements" : Str) (.ref l1) [])))) b = some o := fun b o h e => by rw [upd_ne h]; exact e
    have e6 : upd Hf x (.ins c.C dx (putF ("own_objectors" : Str) (.ref D1) (putF ("own_objections" : Str) y2 (putF ("own_statements" : Str) (.ref l1) [])))) x = some (.ins c.C dx (putF ("own_objectors" : Str) (.ref D1) (putF ("own_objections" : Str) y2 (putF ("own_statements" : Str) (.ref l1) [])))) := upd_same
    have nx : ∀ {a : Addr}, He a = none → a ≠ x := fun h z => by rw [z, e5] at h; cases h
    have r1 : RowsC (upd Hf x (.ins c.C dx (putF ("own_objectors" : Str) (.ref D1) (putF ("own_objections" : Str) y2 (putF ("own_statements" : Str) (.ref l1) []))))) D1 (sortS ns) as1 fun _ => [] :=
      R1.c.far (nx hD1) fun z => nx (R1.new x z).1 rfl
    generalize upd Hf x (.ins c.C dx (putF ("own_objectors" : Str) (.ref D1) (putF ("own_objections" : Str) y2 (putF ("own_statements" : Str) (.ref l1) [])))) = Hg at k1 e6 r1
    have kg : ∀ b o, b ≠ x → He b = some o → Hg b = some o := fun b o h e => k1 b o h (R1.kp b o e)
    have l1x : l1 ≠ x := fun z => by rw [z, e5] at l1e; cases l1e
    have l1g : Hg l1 = some (.lst ((sortS ns).map V.str)) := kg _ _ l1x l1e
    refine rows_tDc (by simp) NSnd NSl (fun H' k => .of (k _ _ l1g)) (fun R h => ⟨.ref x, rfl, x, c.C, dx, _, .ref l1, rfl, e6, DT.cls, DT.nS, rfl, h⟩) fun D2 as2 Hh hD2 R2 => ?_
    have xh : Hh x = _ := R2.kp x _ e6
    refine ⟨.ref x, rfl, x, c.C, dx, _, rfl, xh, DT.cls, DT.nD, Nat.lt_of_le_of_lt (Nat.le_trans (len_putF _ _ _) (Nat.add_le_add_right (Nat.le_trans (len_putF _ _ _) (Nat.add_le_add_right (len_putF _ _ _) 1)) 1)) (by decide), ?_⟩
    have k2 : ∀ b o, b ≠ x → Hh b = some o → upd Hh x (.ins c.C dx (putF ("own_objected" : Str) (.ref D2) (putF ("own_objectors" : Str) (.ref D1) (putF ("own_objections" : Str) y2 (putF ("own_statements" : Str) (.ref l1) []))))) b = some o := fun b o h e => by rw [upd_ne h]; exact e
    have e7 : upd Hh x (.ins c.C dx (putF ("own_objected" : Str) (.ref D2) (putF ("own_objectors" : Str) (.ref D1) (putF ("own_objections" : Str) y2 (putF ("own_statements" : Str) (.ref l1) []))))) x = some (.ins c.C dx (putF ("own_objected" : Str) (.ref D2) (putF ("own_objectors" : Str) (.ref D1) (putF ("own_objections" : Str) y2 (putF ("own_statements" : Str) (.ref l1) []))))) := upd_same
    have nxg : ∀ {a : Addr}, Hg a = none → a ≠ x := fun h z => by rw [z, e6] at h; cases h
    have r2 : RowsC (upd Hh x (.ins c.C dx (putF ("own_objected" : Str) (.ref D2) (putF ("own_objectors" : Str) (.ref D1) (putF ("own_objections" : Str) y2 (putF ("own_statements" : Str) (.ref l1) [])))))) D2 (sortS ns) as2 fun _ => [] :=
      R2.c.far (nxg hD2) fun z => nxg (R2.new x z).1 rfl
    have r1' : RowsC (upd Hh x (.ins c.C dx (putF ("own_objected" : Str) (.ref D2) (putF ("own_objectors" : Str) (.ref D1) (putF ("own_objections" : Str) y2 (putF ("own_statements" : Str) (.ref l1) [])))))) D1 (sortS ns) as1 fun _ => [] :=
      (r1.kept fun b o _ e => R2.kp b o e).far (nx hD1) fun z => nx (R1.new x z).1 rfl
    generalize upd Hh x (.ins c.C dx (putF ("own_objected" : Str) (.ref D2) (putF ("own_objectors" : Str) (.ref D1) (putF ("own_objections" : Str) y2 (putF ("own_statements" : Str) (.ref l1) []))))) = Hi at k2 e7 r1' r2
    have ki : ∀ b o, b ≠ x → He b = some o → Hi b = some o := fun b o h e => k2 b o h (R2.kp b o (kg b o h e))
    -- what is apart
    have as1g : ∀ a ∈ as1, ∃ o, Hg a = some o := fun a ha => by
      obtain ⟨m, hm, rfl⟩ := List.getElem_of_mem ha
      have hz : ((sortS ns)[m]'(by rw [R1.len]; exact hm), as1[m]) ∈ (sortS ns).zip as1 := List.mem_iff_getElem.mpr ⟨m, by simp [R1.len, hm], by simp⟩
      exact ⟨_, r1.row _ _ hz⟩
    have apart : ∀ {a : Addr}, Hg a = none → a ≠ D1 ∧ a ∉ as1 := fun {a} h => by
      refine ⟨fun z => ?_, fun z => ?_⟩
      · rw [z, r1.dct] at h; cases h
      · obtain ⟨o, e⟩ := as1g _ z
        rw [h] at e; cases e
    have none_e : ∀ {a : Addr}, Hg a = none → He a = none := fun {a} h => by
      cases e : He a with
      | none => rfl
      | some o => have := kg a o (nxg h) e; rw [h] at this; cases this
    cases ry2 with
    | @lst l2 vs2 _ q3 q4 =>
    have l2e : He l2 = some (.lst vs2) := b5.und.lst q3
    have l2x : l2 ≠ x := fun z => by rw [z, e5] at l2e; cases l2e
    have vlen := q4.length
    have memP : ∀ {k : Nat} {p : Str × Str}, (sortP ps')[k]? = some p → p.1 ∈ sortS ns ∧ p.2 ∈ sortS ns := fun h => by
      have := I.np.inn _ (mem_sortP.mp (List.mem_of_getElem? h))
      exact ⟨mem_sortS.mpr this.1, mem_sortS.mpr this.2⟩
    have lenP : (sortP ps').length ≤ 4096 := Nat.le_trans (Nat.le_of_eq (sort_pm pairD ps').length_eq) I.np.l2
    have x1 : ∀ a ∈ as1, a ≠ x := fun a h => nx (R1.new a h).1
    have x2 : ∀ a ∈ as2, a ≠ x := fun a h => nxg (R2.new a h).1
    have D1a : D1 ∉ as1 := fun z => (R1.new _ z).2 rfl
    have D2a : D2 ∉ as2 := fun z => (R2.new _ z).2 rfl
    refine ⟨.ref x, rfl, x, c.C, dx, _, .ref l2, rfl, e7, DT.cls, DT.nO, rfl, l2, rfl, ⟨_, .of (ki _ _ l2x l2e)⟩, for_list (xs := vs2) (fun k σ H => ∃ o3 o4 o5, σ = [some (.ref x), some w1, some w2, o3, o4, o5] ∧ H x = some (.ins c.C dx _) ∧ RowsC H D1 (sortS ns) as1 (rowO (sortP ps') k) ∧ RowsC H D2 (sortS ns) as2 (rowT (sortP ps') k) ∧ ∀ b o, b ≠ x → He b = some o → H b = some o)
      ⟨none, none, none, rfl, e7, r1', r2, ki⟩ (fun k σ H hk ⟨_, _, _, _, _, _, _, kk⟩ => .of (kk _ _ l2x l2e)) (fun k v σ H hv ⟨o3, o4, o5, eσ, hxH, R1c, R2c, kk⟩ => ?_) (fun σ H ⟨o3, o4, o5, eσ, hxH, R1c, R2c, kk⟩ => ?_)⟩
    · subst eσ
      obtain ⟨d, hd, hz⟩ := q4.get' hv
      rw [List.getElem?_map] at hd
      cases hp : (sortP ps')[k]? with
      | none => rw [hp] at hd; cases hd
      | some p =>
      rw [hp] at hd
      cases hd
      cases hz with
      | @tup t us _ t1 t2 =>
      cases t2 with
      | cons za zt =>
      cases zt with
      | cons zb zn =>
      cases zn
      cases za
      cases zb
      have te : He t = some (.tup [.str p.1, .str p.2]) := b5.und.tup t1
      have tx : t ≠ x := fun z => by rw [z, e5] at te; cases te
      have tH := kk t _ tx te
      obtain ⟨m1, m2⟩ := memP hp
      obtain ⟨a1, ha1, va1⟩ := zipK_val R1.len m2
      obtain ⟨a2, ha2, va2⟩ := zipK_val R2.len m1
      have h1 := R1c.row _ _ ha1
      have i1 := (List.of_mem_zip ha1).2
      have i2 := (List.of_mem_zip ha2).2
      obtain ⟨ap1, ap2⟩ := apart hD2
      obtain ⟨aq1, aq2⟩ := apart (R2.new a2 i2).1
      have c1 : RowsC (upd H a1 (.lst (rowO (sortP ps') (k + 1) p.2))) D1 (sortS ns) as1 (rowO (sortP ps') (k + 1)) := R1c.put NSnd R1.nd D1a ha1 fun n hn => rowO_ne hp (Ne.symm hn)
      have c2 : RowsC (upd H a1 (.lst (rowO (sortP ps') (k + 1) p.2))) D2 (sortS ns) as2 (rowT (sortP ps') k) := R2c.far (fun z => ap2 (by rw [z]; exact i1)) fun z => (apart (R2.new a1 z).1).2 i1
      have h2 := c2.row _ _ ha2
      refine ⟨t, _, rfl, .of tH, rfl, _, _, rfl, _, _, rfl, rfl, ?_⟩
      refine ⟨_, rfl, x, c.C, dx, _, .ref D1, rfl, hxH, DT.cls, DT.nR, rfl, _, rfl, D1, .ref a1, rfl, .inl ⟨_, Sum.inr p.2, .inl R1c.dct, rfl, va1.symm⟩, .inl ⟨rfl, _, .of h1⟩, _, rfl, a1, _, _, rfl, rfl, h1, Nat.lt_of_le_of_lt (rowO_len _ _ _) (by rw [szL]; omega), ?_⟩
      rw [rowO_eq hp]
      have hxH' : upd H a1 (.lst (rowO (sortP ps') (k + 1) p.2)) x = _ := (upd_ne (Ne.symm (x1 a1 i1))).trans hxH
      refine ⟨_, rfl, x, c.C, dx, _, .ref D2, rfl, hxH', DT.cls, DT.nD, rfl, _, rfl, D2, .ref a2, rfl, .inl ⟨_, Sum.inr p.1, .inl c2.dct, rfl, va2.symm⟩, .inl ⟨rfl, _, .of h2⟩, _, rfl, a2, _, _, rfl, rfl, h2, Nat.lt_of_le_of_lt (rowT_len _ _ _) (by rw [szL]; omega), ?_⟩
      rw [rowT_eq hp]
      refine ⟨_, _, _, rfl, (upd_ne (Ne.symm (x2 a2 i2))).trans hxH', c1.far (Ne.symm aq1) aq2, c2.put NSnd R2.nd D2a ha2 fun n hn => rowT_ne hp (Ne.symm hn), fun b o hb e => ?_⟩
      have n1 : b ≠ a1 := fun z => by rw [z, (R1.new a1 i1).1] at e; cases e
      have n2 : b ≠ a2 := fun z => by rw [z, none_e (R2.new a2 i2).1] at e; cases e
      rw [upd_ne n2, upd_ne n1]
      exact kk b o hb e
    · have el : vs2.length = (sortP ps').length := by rw [vlen, List.length_map]
      rw [el] at R1c R2c
      have bw := b5.write (o := .ins c.C dx (putF ("own_objected" : Str) (.ref D2) (putF ("own_objectors" : Str) (.ref D1) (putF ("own_objections" : Str) (.ref l2) (putF ("own_statements" : Str) (.ref l1) []))))) e5 insT insC fd h0x hS
      have bH : Bas g Fd n H := bw.ext fun a o e => by
        by_cases ha : a = x
        · subst ha; rw [upd_same] at e; cases e; exact hxH
        · rw [upd_ne ha] at e; exact kk a o ha e
      have nE : ∀ a, a = x ∨ a = D1 ∨ a = D2 ∨ a ∈ as1 ∨ a ∈ as2 → a = x ∨ He a = none := fun a h => by
        rcases h with h | h | h | h | h
        · exact .inl h
        · exact .inr (by rw [h]; exact hD1)
        · exact .inr (by rw [h]; exact none_e hD2)
        · exact .inr (R1.new a h).1
        · exact .inr (none_e (R2.new a h).1)
      have nF : ∀ a, a = x ∨ a = D1 ∨ a = D2 ∨ a ∈ as1 ∨ a ∈ as2 → Fd a = none := fun a h => by
        rcases nE a h with h | h
        · rw [h]; exact fd
        · exact b5.und.some h
      have bA : Bas g (addH Fd H fun a => a = x ∨ a = D1 ∨ a = D2 ∨ a ∈ as1 ∨ a ∈ as2) n H := bH.add fun a h => by
        refine ⟨?_, ?_, fun ps z => ?_⟩
        · rcases nE a h with h | h
          · rw [h]; exact h0x
          · exact b5.free0 h
        · rcases nE a h with h | h
          · rw [h]; exact hS
          · exact b5.notS h
        · rcases h with h | h | h | h | h
          · rw [h, hxH] at z; cases z
          · rw [h, R1c.dct] at z; cases z
          · rw [h, R2c.dct] at z; cases z
          · obtain ⟨m, hm⟩ := zip_mem R1.len h
            rw [R1c.row _ _ hm] at z; cases z
          · obtain ⟨m, hm⟩ := zip_mem R2.len h
            rw [R2c.row _ _ hm] at z; cases z
      have okP : ∀ p ∈ sortP ps', PyData.strOk p.1 = true ∧ PyData.strOk p.2 = true := fun p hp => by
        have := I.np.inn p (mem_sortP.mp hp)
        exact ⟨okNS _ (mem_sortS.mpr this.1), okNS _ (mem_sortS.mpr this.2)⟩
      refine q _ H bA ⟨x, dx, _, .ref l1, .ref l2, .ref D1, .ref D2, rfl, (addH_at fd (.inl rfl)).trans hxH, rfl, .lst (addH_left _ _ q1) (q2.mono addH_left), rfl, .lst (addH_left _ _ q3) (q4.mono addH_left), rfl, ⟨D1, _, rfl, (addH_at (nF D1 (.inr (.inl rfl))) (.inr (.inl rfl))).trans R1c.dct, ?_⟩, rfl, ⟨D2, _, rfl, (addH_at (nF D2 (.inr (.inr (.inl rfl)))) (.inr (.inr (.inl rfl)))).trans R2c.dct, ?_⟩⟩
      · refine rows_data (h := fun n => ((sortP ps').filter fun p => decide (p.2 = n)).map (·.1)) R1.len (fun y hy => ⟨okNS y hy, fun z hz => ?_⟩) fun m a h => ?_
        · obtain ⟨p, hp, rfl⟩ := List.mem_map.mp hz
          exact (okP p (List.mem_filter.mp hp).1).1
        · have ha : a = x ∨ a = D1 ∨ a = D2 ∨ a ∈ as1 ∨ a ∈ as2 := .inr (.inr (.inr (.inl (List.of_mem_zip h).2)))
          rw [addH_at (nF a ha) ha, R1c.row m a h, rowO_all]
      · refine rows_data (h := fun n => ((sortP ps').filter fun p => decide (p.1 = n)).map (·.2)) R2.len (fun y hy => ⟨okNS y hy, fun z hz => ?_⟩) fun m a h => ?_
        · obtain ⟨p, hp, rfl⟩ := List.mem_map.mp hz
          exact (okP p (List.mem_filter.mp hp).1).2
        · have ha : a = x ∨ a = D1 ∨ a = D2 ∨ a ∈ as1 ∨ a ∈ as2 := .inr (.inr (.inr (.inr (List.of_mem_zip h).2)))
          rw [addH_at (nF a ha) ha, R2c.row m a h, rowT_all]
end
end K21

set_option Elab.async false
set_option linter.all false
set_option maxRecDepth 100000
set_option maxHeartbeats 4000000
/-! K21G6: Debate(a, b) over data; debates cut; why a greatest lot is not settled. -/
namespace K21
open PySem PySem.Spec PyProof.Rows L2
structure DebM (P : Program) (w : World) (K : PySem.W.Frag) (mg : Str → Option Value) (base : Heap) (c : Cst) : Prop where
  ex : ∃ f fd, mg "Debate" = some (.ref c.C) ∧ Mk K c.C f ∧ Binds K fd ["self", "statements", "objections"] [] ∧ FnOk P w K mg base CX0 6 f fd ["self", "statements", "objections"] (spInit c)
@[simp] def dDeb (ta tb : TED) : TED := fun r n P => ta r n fun x r1 n1 => tb r1 n1 fun y r2 n2 => ∃ d1 d2 ns ps es, x = .py d1 ∧ y = .py d2 ∧ DebIn d1 d2 ns ps es ∧ P (.deb (mkDeb ns ps)) r2 n2
section
variable {X : Cx} {c : Cst} {a b : Expr} {ta tb : TED} {p pos : Pos} {j : Nat}
theorem de_debate (M : DebM X.prog X.w X.K X.mg X.base c) (hr : Room j X.A) (hj : 7 ≤ j) (hg : Gl X "Debate") (h1 : DE c X a ta) (h2 : DE c X b tb) (he : starEach (a :: [b]) X.env = (false, eval a X.env) :: starEach [b] X.env := by rfl) (he2 : starEach (b :: []) X.env = (false, eval b X.env) :: starEach [] X.env := by rfl)
    (hpl : (backTo pos (starEach [b] X.env)).any (·.1) = false := by rfl) : DE c X (.Call (.Name "Debate" p) [a, b] [] pos) (dDeb ta tb) := by
  obtain ⟨f, fd, m, M1, bb, F⟩ := M.ex
  refine ⟨fun g hgc => PE.imp (pe_make M1 F (hr.mono hj) hg m bb .nil pass0 (pa_cons (h1.run g hgc) (pa_cons (h2.run g hgc) pa_nil he2) he) (by decide) he hpl) fun s H Q ⟨F, r, n, P, R, q, k⟩ => ?_⟩
  refine ⟨F, r, n, _, R, q, fun F1 x r1 n1 v H1 s1 R1 rv q1 => ⟨F1, r1, n1, _, R1, q1, fun F2 y r2 n2 u H2 s2 R2 ru ⟨d1, d2, ns, ps, es, e1, e2, I, q2⟩ z dz hz hdz hne => ?_⟩⟩
  subst e1 e2
  refine ⟨g.call F2 H2, n2, H2, z, dz, v, u, d1, d2, ns, ps, es, rfl, rfl, hz, hdz, hne, hgc, rfl, rfl, R2.bas.call, Dz.mono s2 rv, ru, I, fun F' H' b dr => ⟨rfl, ?_⟩⟩
  refine k F' (.deb (mkDeb ns ps)) r2 n2 (.ref z) H' (s1.trans (s2.trans b.gro)) (R2.called b) ?_ q2
  show DebR g.c.C F' (.ref z) _
  rw [hgc]
  exact dr
end
theorem sub_sort {ns ws : List Str} (h1 : ns.Nodup) (h2 : ws.Nodup) (h3 : ∀ x ∈ ws, x ∈ ns) : (sortS ws).Sublist (sortS ns) := by
  have e : (sortS ns).filter (fun x => decide (x ∈ ws)) = sortS ws := by
    have hn : (sortS ns).Nodup := (sort_pm PyData.str ns).nodup_iff.mpr h1
    have hw : (sortS ws).Nodup := (sort_pm PyData.str ws).nodup_iff.mpr h2
    refine pw_unique PyData.str inj_str ((List.perm_ext_iff_of_nodup (hn.filter _) hw).mpr fun x => ?_) ((sort_pw PyData.str ns).filter _) (sort_pw PyData.str ws)
    rw [List.mem_filter, mem_sortS, mem_sortS, decide_eq_true_eq]
    exact ⟨fun h => h.2, fun h => ⟨h3 x h, h⟩⟩
  rw [← e]
  exact List.filter_sublist
theorem plain_nwO (o : Option (List Str)) : plainD (nwO o) = true := by cases o <;> rfl
theorem pairE_pairD (ps : List (Str × Str)) : Paired pairE (ps.map pairD) ps := by
  induction ps with
  | nil => exact .nil
  | cons p ps ih => exact .cons rfl ih
section
variable {P : Program} {w : World} {K : PySem.W.Frag} {mg : Str → Option Value} {base : Heap} {c : Cst}
theorem sc_cut_by : FnScope ["debate", "members", "kept", "pair"] ["debate", "members"] (defScope (topS 41)) := ⟨rfl, rfl, rfl, by decide +kernel, rfl, by decide +kernel, by decide +kernel⟩
def pre_cut (ds : List DV) (_ : Nat) : Prop := ∃ D U, DOk D ∧ NamesOk D.ns ∧ D.ps.Nodup ∧ U.Sublist D.ns ∧ ds = [.deb D, .py (.list (sts U))]
@[simp] def f_cut : List DV → DV
  | [.deb D, .py (.list U)] => .deb (mkDeb (unS U) (cutP D (unS U)))
  | _ => .py .none
theorem ok_cut_by (D : DefAt K mg "cut_by" (topS 41)) (B : Bn mg) (DT : DebT K c.C) (DM : DebM P w K mg base c) : OkD P w K mg base c "cut_by" ["debate", "members"] 8 pre_cut (pv1 f_cut) := by
  refine ok_def D (fun _ _ _ _ _ _ us hl => match us, hl with | [_, _], _ => rfl) sc_cut_by (fun ds n h => ?_) (fun f cdv A outer s H E hr => ?_)
  · obtain ⟨_, _, _, _, _, _, rfl⟩ := h; rfl
  · refine ⟨_, (dss_cons (ds_setLc (i := 2) (y := "kept") rfl rfl (own := [("pair", 3)]) (.one 3) rfl sc_cut_by.nd (di_lst (de_fld DT.cls DT.nO (de_v 0 (pv 0)))) (blkOk_by (N := ["debate", "members", "kept", "pair"]) (sc := defScope (topS 41)) (own := [("pair", 3)]) (by decide +kernel)) (fun _ _ _ _ _ => (pg_name (i := 3) sc_cut_by.nd rfl (Or.inl rfl))) (fun _ _ _ _ _ => (dts_one (DW.dt (dw_and (dt_in (hu65 hr) (de_ix (de_v 3 (pv 3)) de_int) (de_v 1 (pv 1))) (dw_and1 (dt_in (hu65 hr) (de_ix (de_v 3 (pv 3)) de_int) (de_v 1 (pv 1)))))))) (fun _ _ _ _ _ => (de_v 3 (pv 3))) (sw_true rfl rfl rfl (by decide +kernel))) (dss_one (ds_ret (de_debate DM hr (by decide) rfl (de_v 1 (pv 1)) (de_v 2 (pv 2)))))), fun ds n h => ?_⟩
    obtain ⟨D, U, hD, hN, hp, hU, rfl⟩ := h
    simp [startD, pv1, -Bool.exists_bool, -seqOf]
    have hl := hD.l2
    refine lct D.ps pairD (fun p => decide (p.1 ∈ U) && decide (p.2 ∈ U)) pairD (fun K h => by simp; exact h) (by simp) (by rw [szL]; omega) rfl (fun p hp K hK => ?_) (fun p hp _ K hK => by simp; exact hK) ?_
    · simp [pairD, -Bool.exists_bool]
      by_cases h1 : p.1 ∈ U <;> simp [h1] at hK ⊢ <;> exact hK
    · simp
      exact ⟨U, cutP D U, ⟨(cutP D U).map pairD, ⟨rfl, cut_NP hD hp hU, ⟨fun x hx => hN.ok x (hU.subset hx)⟩, rfl, pairE_pairD _⟩⟩, rfl⟩
theorem sc_why_unsettled : FnScope ["debate", "lot", "members", "fault", "labels", "one"] ["debate", "lot"] (defScope (topS 46)) := ⟨rfl, rfl, rfl, by decide +kernel, rfl, by decide +kernel, by decide +kernel⟩
def pre_wu (ds : List DV) (_ : Nat) : Prop := ∃ ns ps d, NP ns ps ∧ NamesOk ns ∧ ns.length ≤ 7 ∧ (∀ es, seqOf (.py d) = some es → es.length ≤ 1000) ∧ ds = [.deb (mkDeb ns ps), .py d]
def post_wu (ds : List DV) (n : Nat) (d : DV) (n' : Nat) : Prop := n' = n ∧ ∃ D t ws, ds = [.deb D, .py t] ∧ seqOf (.py t) = some (sts ws) ∧ ws.Nodup ∧ (∀ x ∈ ws, x ∈ D.ns) ∧ faultG D (sortS ws) = .none ∧ d = nwO (ringF (undDeb D (sortS ws)))
def px_wu (CB CN : Addr) (ds : List DV) (n : Nat) : XWD := fun C f x n' => n' = n ∧ ∃ D t, ds = [.deb D, .py t] ∧ ((C = CB ∧ f = "index" ∧ ∃ k, badAt D t k ∧ x = .py (.int (k : Nat))) ∨
  (C = CN ∧ f = "fault" ∧ ∃ ws, seqOf (.py t) = some (sts ws) ∧ ws.Nodup ∧ (∀ x ∈ ws, x ∈ D.ns) ∧ faultG D (sortS ws) ≠ .none ∧ x = .py (faultG D (sortS ws))))
theorem ok_why_unsettled {CB CN : Addr} (D : DefAt K mg "why_unsettled" (topS 46)) (B : Bn mg) (DT : DebT K c.C) (XT_NotGreatest : ExcT P w K mg base "NotGreatest" CN "fault") (O_checked_lot : OkX P w K mg base c "checked_lot" ["debate", "lot"] 3 pre_cl post_cl (px_cl CB))
    (O_fault_in : OkD P w K mg base c "fault_in" ["debate", "way", "members"] 6 pre_FI (pv1 f_fault_in)) (O_labels_by : OkD P w K mg base c "labels_by" ["debate", "members"] 2 pre_DM post_lab) (O_cut_by : OkD P w K mg base c "cut_by" ["debate", "members"] 8 pre_cut (pv1 f_cut))
    (O_odd_ring : OkA P w K mg base c "odd_ring" ["debate"] 2 pre_or post_or) : OkX P w K mg base c "why_unsettled" ["debate", "lot"] 9 pre_wu post_wu (px_wu CB CN) := by
  refine ok_defX D (fun _ _ _ _ _ _ us hl => match us, hl with | [_, _], _ => rfl) sc_why_unsettled (fun ds n h => ?_) (fun f cdv A outer s H E hr => ?_)
  · obtain ⟨_, _, _, _, _, _, _, rfl⟩ := h; rfl
  · refine ⟨fun W => _, fun W => (dssx_cons (dsx_set (i := 2) sc_why_unsettled.nd rfl (Or.inl rfl) (dex_call O_checked_lot hr (by decide) rfl (takes_of rfl rfl rfl rfl) (da_cons (de_v 0 (pv 0)) (da_cons (de_v 1 (pv 1)) da_nil)))) (dssx_cons (dsx_of (ds_set (i := 3) sc_why_unsettled.nd rfl (Or.inl rfl) (de_ok O_fault_in hr (by decide) rfl (da_cons (de_v 0 (pv 0)) (da_cons de_str (da_cons (de_v 2 (pv 2)) da_nil)))))) (dssx_cons (dsx_if (dt_notN (de_v 3 (pv 3)) de_non) (dssx_one (dsx_raise rfl (takes_of rfl rfl rfl rfl) XT_NotGreatest (hr.mono (by decide)) rfl (de_v 3 (pv 3)))) (dssx_of dss_nil)) (dssx_cons (dsx_of (ds_set (i := 4) sc_why_unsettled.nd rfl (Or.inr rfl) (de_ok O_labels_by hr (by decide) rfl (da_cons (de_v 0 (pv 0)) (da_cons (de_v 2 (pv 2)) da_nil))))) (dssx_one (dsx_of (ds_ret (de_callN O_odd_ring hr (by decide) rfl (da_cons (de_ok O_cut_by hr (by decide) rfl (da_cons (de_v 0 (pv 0)) (da_cons (de_lcK 4 (own := [("one", 5)]) (.one 5) rfl sc_why_unsettled.nd (pv 4) (blkOk_by (N := ["debate", "lot", "members", "fault", "labels", "one"]) (sc := defScope (topS 46)) (own := [("one", 5)]) (by decide +kernel)) (fun _ _ _ _ _ => (pg_name (i := 5) sc_why_unsettled.nd rfl (Or.inl rfl))) (fun _ _ _ _ _ => (dts_one (dt_eq (hu64 hr) (de_get (hu1 hr) (de_v 4 (pv 4)) (de_v 5 (pv 5))) de_str))) (fun _ _ _ _ _ => (de_v 5 (pv 5)))) da_nil))) da_nil))))))))), fun ds n h => ?_⟩
    obtain ⟨ns, ps, t, I, hN, hl, ht, rfl⟩ := h
    have hD := I.ok
    simp [startD, pv1, -Bool.exists_bool, -seqOf]
    refine ⟨⟨_, t, hD, ht, rfl⟩, fun d n2 h => ?_, fun C f d n2 h => ?_⟩
    · obtain ⟨en, D', t', ws, e0, hs, hn, hi, rfl⟩ := h
      have en := en.symm
      subst en
      simp only [List.cons.injEq, DV.deb.injEq, DV.py.injEq, and_true] at e0
      obtain ⟨rfl, rfl⟩ := e0
      have sub : (sortS ws).Sublist (mkDeb ns ps).ns := sub_sort I.nd hn fun x hx => mem_sortS.mp (hi x hx)
      have hsl : (sortS ws).length ≤ 64 := Nat.le_trans sub.length_le hD.l1
      have hl7 : (mkDeb ns ps).ns.length ≤ 7 := by show (sortS ns).length ≤ 7; rw [len_sortS]; exact hl
      simp [-Bool.exists_bool, -seqOf]
      refine ⟨⟨_, sortS ws, hD, hl7, hsl, fun x hx => sub.subset hx, fun h1 h2 => fault_pre hD sub h1 h2, rfl⟩, ?_⟩
      by_cases hf : faultG (mkDeb ns ps) (sortS ws) = .none
      · rw [hf]
        simp [-Bool.exists_bool, -seqOf]
        refine ⟨⟨_, sortS ws, hD, hsl, fun x hx => sub.subset hx, rfl⟩, fun d1 n1 hlab => ?_⟩
        obtain ⟨en1, D2, m2, e2, rfl⟩ := hlab
        have en1 := en1.symm
        subst en1
        simp only [List.cons.injEq, DV.deb.injEq, DV.py.injEq, PyData.list.injEq, and_true] at e2
        obtain ⟨rfl, e2⟩ := e2
        have := sts_inj e2
        subst this
        have hlk : ∀ x ∈ (mkDeb ns ps).ns, lookD ((mkDeb ns ps).ns.map fun s => (s, PyData.str (labS (mkDeb ns ps) (sortS ws) s))) x = some (.str (labS (mkDeb ns ps) (sortS ws) x)) := fun x hx => by
          have := look_map (f := fun s => PyData.str (labS (mkDeb ns ps) (sortS ws) s)) (x := x) (ns := (mkDeb ns ps).ns)
          rw [this, if_pos hx]
        refine lctK (mkDeb ns ps).ns (fun s => decide (labS (mkDeb ns ps) (sortS ws) s = "undecided")) PyData.str rfl (by simp [keysD]) (by simp) (by rw [szL]; omega) rfl (fun x hx K hK => ?_) (fun x hx _ K hK => by simp; exact hK) ?_
        · simp [-Bool.exists_bool, hlk x hx, eqv_str]
          exact hK
        · have hsU : (undL (mkDeb ns ps) (sortS ws)).Sublist (mkDeb ns ps).ns := List.filter_sublist
          have hpd : (mkDeb ns ps).ps.Nodup := (sort_pm pairD ps).nodup_iff.mpr I.pd
          have hNm : NamesOk (mkDeb ns ps).ns := ⟨fun x hx => hN.ok x (mem_sortS.mp hx)⟩
          have hU : ((mkDeb ns ps).ns.filter fun s => decide (labS (mkDeb ns ps) (sortS ws) s = "undecided")) = undL (mkDeb ns ps) (sortS ws) := rfl
          rw [hU]
          have hO : DOk (undDeb (mkDeb ns ps) (sortS ws)) := (cut_NP hD hpd hsU).ok
          simp [-Bool.exists_bool, -seqOf]
          refine ⟨⟨_, _, hD, hNm, hpd, hsU, rfl⟩, ⟨_, hO, rfl⟩, fun d2 n2 h => ?_⟩
          obtain ⟨en2, D3, o, e3, rfl, rfl⟩ := h
          have en2 := en2.symm
          subst en2
          simp only [List.cons.injEq, DV.oldB.injEq, and_true] at e3
          subst e3
          exact ⟨_, rfl, plain_nwO _, rfl, _, t, ws, rfl, hs, hn, hi, hf, rfl⟩
      · have hnn : K21.isNone (.py (faultG (mkDeb ns ps) (sortS ws))) = false := by
          cases e : faultG (mkDeb ns ps) (sortS ws) <;> first | rfl | exact absurd e hf
        simp only [K21.isNone] at hnn
        rw [hnn]
        simp
        exact ⟨rfl, _, t, rfl, .inr ⟨rfl, rfl, ws, hs, hn, hi, hf, rfl⟩⟩
    · obtain ⟨en, rfl, rfl, D', t', k, e0, hb, rfl⟩ := h
      exact ⟨en, D', t', e0, .inl ⟨rfl, rfl, k, hb, rfl⟩⟩
end
end K21

set_option Elab.async false
set_option linter.all false
set_option maxRecDepth 100000
set_option maxHeartbeats 4000000
/-! K21G7: a lambda made; sorted(xs, key=lambda x: 0 - len(x)). -/
namespace K21
open PySem PySem.Spec PyProof.Rows L2
/-- what the making of a lambda leaves: nothing of it, or a table longer by one, and a new code object -/
def LamH (H H1 : Hp) : Prop := H1 = H ∨ ∃ (T0 : Addr) (ps more : Array Value) (c1 : Addr) (q : Str), H T0 = some (.tbl ps) ∧ H c1 = none ∧ H1 = upd (upd H T0 (.tbl (ps ++ more))) c1 (LamX.CodeO c1 q)
theorem LamH.ext {H H1 : Hp} (h : LamH H H1) {a : Addr} {o : HO} (e : H a = some o) (ht : ∀ ps, o ≠ .tbl ps) : H1 a = some o := by
  rcases h with rfl | ⟨T0, ps, more, c1, q, h1, h2, rfl⟩
  · exact e
  · have n1 : a ≠ c1 := ne_of_none e h2
    have n2 : a ≠ T0 := fun z => by rw [z, h1] at e; cases e; exact ht _ rfl
    rw [upd_ne n1, upd_ne n2]; exact e
theorem LamH.tbl {H H1 : Hp} (h : LamH H H1) {a : Addr} {ps : Array Value} (e : H a = some (.tbl ps)) : ∃ ps', H1 a = some (.tbl ps') := by
  rcases h with rfl | ⟨T0, ps0, more, c1, q, h1, h2, rfl⟩
  · exact ⟨_, e⟩
  · have n1 : a ≠ c1 := ne_of_none e h2
    by_cases n2 : a = T0
    · subst n2; exact ⟨_, by rw [upd_ne n1, upd_same]⟩
    · exact ⟨_, by rw [upd_ne n1, upd_ne n2]; exact e⟩
theorem LamH.extN {H H1 : Hp} (h : LamH H H1) : LamX.ExtN H H1 := fun _ _ e ht => h.ext e ht
section
variable {X : Cx} {pins : List (Addr × Obj)} {σ : L2.St} {H : Hp} {s : Shared}
theorem lam_made {T : List (Addr × Str)} {c P : Addr} {params : Arguments} {body : Expr} {scope : Scope} {pos : Pos} {E : Value → Shared → Prop} {Q : Value → Shared → Prop} (I : Inv X pins σ H s) (TB : LamX.TabB X.base X.mg c P) (hcode : X.env.code = .ref c)
    (hm : (P, X.env.qual ++ "<lambda>") ∈ T) (hu : ∀ p ∈ T, p.1 = P → p.2 = X.env.qual ++ "<lambda>") (hT : LamX.Tabs T H) (hdef : defaultsOf params X.env = ([], [])) (hfree : ∀ y ∈ scope.names, y.2 = .free → ∃ c, X.env.cells.lookup y.1 = some c)
    (h : ∀ (f c' : Addr) (pm ctv : Value) (H1 : Hp) (s' : Shared), Inv X pins σ H1 s' → LamH H H1 → LamX.Tabs T H1 →
      s'.heap.get? f = some (PySem.W.kla_obj "<lambda>" (X.env.qual ++ "<lambda>") params body scope (cloFrom X.env.cells scope.names []) pm c' ctv) → H1 f = none → f ∉ frs X.stack → H1 c' = some (LamX.CodeO c' (X.env.qual ++ "<lambda>")) → Q (.ref f) s') :
    wpAny (model X.prog X.w) X.A (eval (.Lambda params body scope pos) X.env) Q E s := by
  obtain ⟨ps, hP, htr, ham⟩ := hT _ hm
  have fresh : ∀ f, s.heap.objs.size ≤ f → f ∉ frs X.stack := fun f hf z => by
    rcases List.mem_cons.mp (I.stkSub _ z) with e | e
    · have := I.lt
      rw [← e] at this
      exact absurd (Nat.lt_of_lt_of_le this hf) (Nat.lt_irrefl _)
    · exact I.nofs hf e
  have objP : s.heap.get? P = some { cls := .none, data := .fields ps } := I.hok P _ hP
  have bltP : s.heap.BuiltinsAt X.mg P := TB.bm.keeps I.bk
  refine PySem.W.kla_eval hdef ?_
  cases hc : codeAmong pos ps.toList with
  | some cv =>
    obtain ⟨c', rfl, hco⟩ := ham pos cv hc
    refine PySem.W.kla_makeFunctionHit (mg := X.mg) (c := c) (P := P) (ps := ps) (closure_ok hfree) I.ok.glob (I.mod.glob.keeps I.bk) hcode (TB.code.keeps I.bk) objP htr hc bltP fun ctv h' tk hx hsz => ?_
    exact h _ c' _ ctv H _ (I.kept (t' := tk) fun b o e => Heap.get?_push_of_some _ (hx b o e)) (.inl rfl) hT (Heap.get?_push_size _ rfl) (I.hok.fresh hsz) (fresh _ hsz) hco
  | none =>
    refine PySem.W.kla_makeFunction (mg := X.mg) (c := c) (P := P) (ps := ps) (closure_ok hfree) I.ok.glob (I.mod.glob.keeps I.bk) hcode (TB.code.keeps I.bk) objP htr hc TB.gP bltP fun c' ctv h' tk hx hge hlt hrec htb => ?_
    obtain ⟨c2, oc, vs, t, e2, hoc, hd, hv⟩ := hrec
    cases e2
    have nC : H c' = none := I.hok.fresh hge
    have nPC : P ≠ c' := ne_of_none hP nC
    have J := LamX.inv_table (t' := tk) (more := #[rawInt pos.line, rawInt pos.col, .ref c']) (h' := h'.push (PySem.W.kla_obj "<lambda>" (X.env.qual ++ "<lambda>") params body scope (cloFrom X.env.cells scope.names []) ((X.mg "__name__").getD .none) c' ctv)) I hP
      (fun b o hb e => Heap.get?_push_of_some _ (hx b o hb e)) (Heap.get?_push_of_some _ htb) hge ⟨oc, vs, t, Heap.get?_push_of_some _ hoc, hd, hv⟩
    have hL : LamH H (upd (upd H P (.tbl (ps ++ #[rawInt pos.line, rawInt pos.col, .ref c']))) c' (LamX.CodeO c' (X.env.qual ++ "<lambda>"))) := .inr ⟨P, ps, _, c', _, hP, nC, rfl⟩
    have hsz : s.heap.objs.size ≤ h'.objs.size := Nat.le_trans hge (Nat.le_of_lt hlt)
    refine h h'.objs.size c' _ ctv _ _ J hL (fun p hp => ?_) (Heap.get?_push_size _ rfl) ?_ (fresh _ hsz) upd_same
    · by_cases hb : p.1 = P
      · have el : (ps ++ #[rawInt pos.line, rawInt pos.col, .ref c']).toList = ps.toList ++ [rawInt pos.line, rawInt pos.col, .ref c'] := by simp
        rw [hu p hp hb, hb]
        refine ⟨_, by rw [upd_ne nPC, upd_same], by rw [el]; exact PySem.TriplesOk_snoc _ _ _ _ htr, fun p' cv hcv => ?_⟩
        rw [el] at hcv
        rcases LamX.among_app _ htr hcv with z | z
        · obtain ⟨c0, e1, e2⟩ := ham p' cv z
          exact ⟨c0, e1, hL.ext e2 LamX.codeO_ne⟩
        · exact ⟨c', z, upd_same⟩
      · obtain ⟨ps', a1, a2, a3⟩ := hT p hp
        refine ⟨ps', by rw [upd_ne (ne_of_none a1 nC), upd_ne hb]; exact a1, a2, fun p' cv hcv => ?_⟩
        obtain ⟨c0, e1, e2⟩ := a3 p' cv hcv
        exact ⟨c0, e1, hL.ext e2 LamX.codeO_ne⟩
    · have n1 : h'.objs.size ≠ c' := Nat.ne_of_gt hlt
      have n2 : h'.objs.size ≠ P := Nat.ne_of_gt (Nat.lt_of_lt_of_le (Heap.lt_size objP) hsz)
      rw [upd_ne n1, upd_ne n2]
      exact I.hok.fresh hsz
end
/-! ### over data -/
section
variable {g : G} {F H H1 : Hp} {n : Nat} {r : DEnv} {s : L2.St}
theorem Bas.lam (b : Bas g F n H) (h : LamH H H1) (t : LamX.Tabs g.c.T H1) : Bas g F n H1 := by
  have nt : ∀ {a : Addr} {o : HO}, F a = some o → ∀ ps, o ≠ .tbl ps := fun {a o} e ps z => b.ntb a ps (by rw [← z]; exact e)
  refine ⟨fun a o e => ?_, b.gro, b.new, fun a o e h1 h2 => h.ext (b.fr a o e h1 h2) h1, fun a ps e => ?_, b.ntb, t, fun sa e => ?_, b.strF, b.anc⟩
  · rcases b.und a o e with q | ⟨od, kvs, e1, q⟩
    · exact .inl (h.ext q (nt e))
    · exact .inr ⟨od, kvs, e1, h.ext q fun _ z => by cases z⟩
  · obtain ⟨ps', q⟩ := b.frt a ps e
    exact h.tbl q
  · obtain ⟨ne, cells, x, i, m, h1, h2, k⟩ := b.str sa e
    exact ⟨ne, cells, x, i, m, h.ext h1 (fun _ z => by cases z), h.ext h2 (fun _ z => by cases z), k⟩
theorem Rel.lam (R : Rel g F r n s H) (h : LamH H H1) (t : LamX.Tabs g.c.T H1) : Rel g F r n s H1 := by
  refine ⟨R.bas.lam h t, R.len, fun i z e => ?_, R.dis⟩
  obtain ⟨v, e1, k⟩ := R.slot i z e
  refine ⟨v, e1, ?_⟩
  cases z with
  | dat d => exact k
  | mu m =>
    obtain ⟨p, rfl, k1, k2, k3, k4⟩ := k
    exact ⟨p, rfl, k1, k2, k3, k4.at fun o e ht => h.ext e ht⟩
end
end K21

set_option Elab.async false
set_option linter.all false
set_option maxRecDepth 100000
set_option maxHeartbeats 4000000
/-! K21G8: sorted(xs, key=lambda x: 0 - len(x)). -/
namespace K21
open PySem PySem.Spec PyProof.Rows L2
def keyA (p : Pos) : Arguments := { posonlyargs := [], args := [{ arg := "some", annotation := none, pos := p }], vararg := none, kwonlyargs := [], kw_defaults := [], kwarg := none, defaults := [] }
def keyB (p1 p2 p3 p4 p5 : Pos) : Expr := .BinOp (.Constant (.int 0) 0 p1) .Sub (.Call (.Name "len" p2) [.Name "some" p3] [] p4) p5
structure KeyS (scope : Scope) : Prop where
  kind : scope.kind = .function
  co : scope.isCoroutine = false
  gen : scope.isGenerator = false
  some : scope.names.lookup ("some" : Str) = Option.some NameKind.local
  len : scope.names.lookup ("len" : Str) = Option.some NameKind.globalImplicit
  own : ∀ y ∈ scope.names, y.2 ≠ .cell ∧ y.2 ≠ .free
section
variable {X : Cx} {pins : List (Addr × Obj)} {σ : L2.St} {H : Hp} {s : Shared}
theorem key_run (I : Inv X pins σ H s) {k : Nat} (hr : Room (k + 2) X.A) (hm : X.mg "len" = none) {f c' : Addr} {pm ctv : Value} {scope : Scope} {q : Str} {p p1 p2 p3 p4 p5 : Pos} (S : KeyS scope)
    (hf : s.heap.get? f = some (PySem.W.kla_obj "<lambda>" q (keyA p) (keyB p1 p2 p3 p4 p5) scope (cloFrom X.env.cells scope.names []) pm c' ctv)) (hc : H c' = some (LamX.CodeO c' q)) {b : Addr} {its : List Value} (hl : s.heap.IsList b its.toArray) (hz : its.length ≤ sizeLine) :
    ∀ (h : Heap) (tk : Nat), (∀ b o, s.heap.get? b = some o → h.get? b = some o) →
      wpAny (model X.prog X.w) X.A.in1.in1 (call (.ref f) [.ref b]) (PySem.W.KeyPure (.int (0 - (its.length : Nat))) { s with heap := h, toks := tk }) (fun _ _ => False) { s with heap := h, toks := tk } := by
  intro h tk kp
  obtain ⟨⟨oc, vs, t, hoc, hdc, hvc⟩, _, _⟩ := I.hok c' _ hc
  have hdp := hr.dp
  refine wpAny_call (PySem.W.kla_callFunE (s := { s with heap := h, toks := tk }) (by show X.A.depth < _; omega) (kp _ _ hf) rfl S.co S.gen rfl ⟨c', oc, vs, t, rfl, kp _ _ hoc, hdc, hvc⟩ ?_)
  have hb : bindArgs (PySem.W.kla_fn "<lambda>" q (keyA p) (keyB p1 p2 p3 p4 p5) scope (cloFrom X.env.cells scope.names []) pm (.ref c') ctv) ⟨[.ref b], []⟩ = pure [(("some" : Str), .ref b)] := rfl
  rw [hb]
  refine wpAny_pure (wpAny_newFunctionEnv (fun y hy => (S.own y hy).1) (fun y hy => ?_) (fun h₁ hns hsb => ⟨(I.nolimit.keeps kp).fresh _ hsb, ?_⟩) S.kind)
  · rw [List.mem_singleton.mp hy]; exact S.some
  have k1 : ∀ b o, h.get? b = some o → h₁.get? b = some o := fun b o e => hsb.extBut b o (Nat.ne_of_lt (Heap.lt_size e)) (Heap.get?_push_of_some _ e)
  have k2 : ∀ b o, s.heap.get? b = some o → h₁.get? b = some o := fun b o e => k1 b o (kp b o e)
  obtain ⟨mb, hm1, hm2⟩ := I.mod.blt
  show codeAny _ _ (.expr (keyB p1 p2 p3 p4 p5) (PySem.W.envX q scope h.objs.size f (.ref c') (cloFrom X.env.cells scope.names []))) _ _
  refine PySem.W.kla_codeExpr (wpAny_BinOp (wpAny_Constant_int (wpAny_Call_Name_kw ?_)))
  refine Calls.Name_function_global S.kind S.len (Calls.loadGlobal_builtin (I.mod.glob.keeps fun b o e => k2 b o (I.bk b o e)) hm (hm1.keeps fun b o e => k2 b o (I.bk b o e)) ((hm2 "len" (by decide)).trans PySem.boot_len) ?_) (by decide)
  refine PyProof.Rows.callWith_builtin1 (PyProof.Rows.args_cons (wpAny_Name (wpAny_loadName_local S.kind S.some hns (by rfl) (PyProof.Rows.args_nil ?_)) (by decide)))
  have hl' : h₁.IsList b its.toArray := by
    obtain ⟨o, ho, z⟩ := hl
    exact ⟨o, k2 _ _ ho, z⟩
  refine Calls.call_len_list hl' (by simp only [List.size_toArray]; rw [szL] at hz; omega) (PyProof.Rows.sub_int ?_)
  refine ⟨h₁, _, rfl, k1, ?_⟩
  rw [List.size_toArray]
  exact .int _ _
end
def keyD : PD → PD
  | .list es => .int (0 - (es.length : Nat))
  | _ => .int 0
theorem keyD_int (d : PD) : ∃ i, keyD d = .int i := by cases d <;> exact ⟨_, rfl⟩
def contS (K : PySem.W.Frag) (T : List (Addr × Str)) (Q : VK) (x : V) (H1 : Hp) : Prop := ∃ a xs ls, x = .ref a ∧ xs.length = ls.length ∧ (∀ d ∈ ls, ∃ es, d = .list es) ∧ ls.length ≤ sizeLine ∧ LamX.Tabs T H1 ∧
  ∀ H2, LamH H1 H2 → LamX.Tabs T H2 → SqL K H2 a xs ∧ DpAll K H2 xs ls ∧ ∀ p ys, H2 p = none → PySem.W.EachIs (fun y d => ∃ i : Nat, xs[i]? = some y ∧ ls[i]? = some d) ys (ls.mergeSort (PySem.W.dataLe false keyD)) → Q (.ref p) (upd H2 p (.lst ys))
def tSortKey (K : PySem.W.Frag) (T : List (Addr × Str)) (te : TE) : TE := fun σ H Q => te σ H (contS K T Q)
def contS1 (K : PySem.W.Frag) (T : List (Addr × Str)) (Q : VK) : List V → Hp → Prop
  | [x], H => contS K T Q x H
  | _, _ => False
section
variable {X : Cx} {e : Expr} {te : TE} {T : List (Addr × Str)} {c P : Addr} {scope : Scope} {k : Nat} {p0 p p1 p2 p3 p4 p5 lpos kpos pos : Pos}
theorem pe_sortKey (hg : Gl X "sorted") (hm : X.mg "sorted" = none) (hml : X.mg "len" = none) (hr : Room (k + 2) X.A) (he : PE X e te) (TB : LamX.TabB X.base X.mg c P) (hcode : X.env.code = .ref c) (hmT : (P, X.env.qual ++ "<lambda>") ∈ T) (hu : ∀ p ∈ T, p.1 = P → p.2 = X.env.qual ++ "<lambda>")
    (S : KeyS scope) (hdef : defaultsOf (keyA p) X.env = ([], []) := by rfl) (hs : starEach (e :: []) X.env = (false, eval e X.env) :: starEach [] X.env := by rfl) (hs2 : backTo pos (starEach (e :: []) X.env) = (false, eval e X.env) :: backTo pos (starEach [] X.env) := by rfl) (hpl : (backTo pos (starEach (e :: []) X.env)).any (·.1) = false := by rfl)
    (hall : (backToKw pos (keywordEach [⟨some "key", .Lambda (keyA p) (keyB p1 p2 p3 p4 p5) scope lpos, kpos⟩] X.env)).all (·.1.isSome) = true := by rfl) (hnone : (backToKw pos (keywordEach [⟨some "key", .Lambda (keyA p) (keyB p1 p2 p3 p4 p5) scope lpos, kpos⟩] X.env)).any (·.1.isNone) = false := by rfl)
    (hks : (backToKw pos (keywordEach [⟨some "key", .Lambda (keyA p) (keyB p1 p2 p3 p4 p5) scope lpos, kpos⟩] X.env)).filterMap (·.1) = [("key" : Str)] := by rfl) :
    PE X (.Call (.Name "sorted" p0) [e] [⟨some "key", .Lambda (keyA p) (keyB p1 p2 p3 p4 p5) scope lpos, kpos⟩] pos) (tSortKey X.K T te) := by
  refine ⟨fun pins s σ H Q I h => ?_⟩
  refine wpAny_Call_Name_kw (ld_blt (u := .builtin "sorted") I hg hm (by decide +kernel) ?_)
  refine PyProof.Rows.callWith_kw (thn ((pa_cons he pa_nil hs).run pos pins s σ H (contS1 X.K T Q) I h) fun us s1 ⟨vs, H1, I1, r1, q1⟩ => ?_) hs2 hpl hall hnone
  rw [hks]
  obtain ⟨a, xs, ls, rfl, hxl, hls, hll, hT, q⟩ : ∃ a xs ls, vs = [V.ref a] ∧ xs.length = ls.length ∧ (∀ d ∈ ls, ∃ es, d = .list es) ∧ ls.length ≤ sizeLine ∧ LamX.Tabs T H1 ∧
      ∀ H2, LamH H1 H2 → LamX.Tabs T H2 → SqL X.K H2 a xs ∧ DpAll X.K H2 xs ls ∧ ∀ p ys, H2 p = none → PySem.W.EachIs (fun y d => ∃ i : Nat, xs[i]? = some y ∧ ls[i]? = some d) ys (ls.mergeSort (PySem.W.dataLe false keyD)) → Q (.ref p) (upd H2 p (.lst ys)) := by
    match vs, q1 with
    | [x], h =>
      obtain ⟨a, xs, ls, rfl, k⟩ := h
      exact ⟨a, xs, ls, rfl, k⟩
  obtain rfl := Vals.ref1 r1
  show wpAny _ _ (evalAll ((eval (.Lambda (keyA p) (keyB p1 p2 p3 p4 p5) scope lpos) X.env >>= fun v => standAt pos >>= fun _ => pure v) :: [])) _ _ s1
  refine wpAny_evalAll_cons (wpAny_bind (lam_made I1 TB hcode hmT hu hT hdef (fun y hy z => absurd z (S.own y hy).2) fun f c' pm ctv H2 s2 I2 hL T2 hf hfn hfr hco => wpAny_bind (wpAny_standAt (wpAny_pure (wpAny_evalAll_nil ?_)))))
  obtain ⟨hsq, hz, q⟩ := q H2 hL T2
  obtain ⟨its, rv, pl, hsz⟩ := I2.list hsq
  have hun := hr.units
  refine PySem.W.sorted_key_data (b := false) keyD pl.isList (each_ix 0 xs ls hxl rv (fun _ => rfl) fun _ => rfl) (PySem.W.AllAlike.of (enc := keyD) fun a b => ?_) (PySem.W.Sortable.others (enc := keyD) fun b => ?_) hll (fun d hd => ?_) (PyProof.Rows.ksk_s1 _ _) (fun _ => PyProof.Rows.ksk_l1 _ _) (fun _ => PyProof.Rows.ksk_t1 _ _)
    (fun v d hR hd h tk kp => ?_) fun out cc h' tk kp hfr hD ho eo => ?_
  · obtain ⟨i, e1⟩ := keyD_int a
    obtain ⟨j, e2⟩ := keyD_int b
    rw [e1, e2]; rfl
  · obtain ⟨i, e1⟩ := keyD_int b
    rw [e1]; simp
  · obtain ⟨i, e1⟩ := keyD_int d
    rw [e1]
    show X.A.units + 2 + 0 < _
    omega
  · obtain ⟨i, y, ry, e1, e2⟩ := hR
    obtain ⟨es, rfl⟩ := hls d hd
    have hdp : Dp X.K H2 y (.list es) := by
      have : ∀ {xs : List V} {ds : List PD} {i : Nat} {y : V} {d : PD}, DpAll X.K H2 xs ds → xs[i]? = some y → ds[i]? = some d → Dp X.K H2 y d := by
        intro xs ds i y d h
        induction xs generalizing ds i with
        | nil => intro h1; simp at h1
        | cons x xs ih =>
          cases h with
          | cons a t =>
            cases i with
            | zero => intro h1 h2; simp at h1 h2; subst h1 h2; exact a
            | succ i => intro h1 h2; exact ih t (by simpa using h1) (by simpa using h2)
      exact this hz e1 e2
    cases hdp with
    | lst hs hz2 =>
      obtain ⟨its2, rv2, pl2, hsz2⟩ := I2.list hs
      cases ry
      have hlen := rv2.length
      have hl2 := DpAll.length hz2
      have := key_run I2 hr hml S hf hco pl2.isList (by omega) h tk kp
      rw [show its2.length = es.length by omega] at this
      exact this
  · obtain ⟨ys, k1, k2, k3⟩ := each_vals eo
    have hyl : ys.length = xs.length := by rw [k2, List.length_mergeSort, hxl]
    exact ⟨.ref _, upd H2 (s2.heap.objs.size + 1) (.lst ys), I2.laid (t' := tk) kp (Nat.le_succ _) ⟨by rw [hyl]; exact hsz, _, cc, k1, by simpa using hD⟩, rfl, q _ _ (I2.hok.fresh (Nat.le_succ _)) k3⟩
end
end K21

set_option Elab.async false
set_option linter.all false
set_option maxRecDepth 100000
set_option maxHeartbeats 4000000
/-! K21G9: the lots that are within no other. -/
namespace K21
open PySem PySem.Spec PyProof.Rows L2
/-- the def, its code object known -/
structure DefAtC (K : PySem.W.Frag) (mg : Str → Option Value) (x : Str) (st : Stmt) (cc : Addr) : Prop where
  ex : ∃ (f : Addr) (oc : Value) (od : Option Addr) (kV doc pm : Value) (an : Option Addr) (ct : Value) (osl : Array (Option Value)), mg x = some (.ref f) ∧ PySem.W.keepIn K (.ref f) = true ∧
    K.lookup f = some ⟨oc, od, .func (PySem.W.fnOf x x (defArgs st) (defBody st) (defScope st) .none kV doc pm an (.ref cc) ct), osl⟩ ∧ PySem.W.codeIn K (.ref cc) x = true
/-- where its lambdas' code objects are kept -/
structure TabG (c : Cst) (base : Heap) (mg : Str → Option Value) (cc : Addr) (x : Str) : Prop where
  ex : ∃ P, LamX.TabB base mg cc P ∧ (P, (x ++ ".<locals>.") ++ "<lambda>") ∈ c.T ∧ ∀ p ∈ c.T, p.1 = P → p.2 = (x ++ ".<locals>.") ++ "<lambda>"
theorem ok_defC {P : Program} {w : World} {K : PySem.W.Frag} {mg : Str → Option Value} {base : Heap} {c : Cst} {pre : List DV → Nat → Prop} {post : List DV → Nat → DV → Nat → Prop} {x : Str} {st : Stmt} {N ps : List Str} {k : Nat} {cc : Addr} (D : DefAtC K mg x st cc)
    (hb : ∀ (kV doc pm : Value) (an : Option Addr) (cdv ct : Value) (us : List Value), us.length = ps.length → bindArgs (PySem.W.fnOf x x (defArgs st) (defBody st) (defScope st) .none kV doc pm an cdv ct) ⟨us, []⟩ = pure (ps.zip us))
    (S : FnScope N ps (defScope st)) (hlen : ∀ ds n, pre ds n → ds.length = ps.length)
    (hbody : ∀ (f : Addr) (A : Around) (outer : List Env) (s : Shared) (H : Hp) (E : XK), Room k (A.deeper (envOfC x (defScope st) s.heap.objs.size f (.ref cc))) →
      ∃ t, DSs c (cxOf CX0 P w K mg base N x (defScope st) f (.ref cc) A outer s H E).nox (defBody st) t ∧ ∀ ds n, pre ds n → t { nx := fun _ n' => post ds n (.py .none) n', rt := fun d n' => post ds n d n' } (startD N ds) n) :
    OkD P w K mg base c x ps (k + 1) pre post := by
  obtain ⟨f, oc, od, kV, doc, pm, an, ct, osl, m, kp, lk, hcd⟩ := D.ex
  refine ⟨f, _, m, kp, .all (hb kV doc pm an _ ct), fn_of lk hcd S (fun vs H Q E h => ?_) fun A outer s H vs Q E hr h => ?_⟩
  · obtain ⟨g, ds, n, _, _, _, _, rs, hp, _⟩ := h
    rw [Paired.length rs]; exact hlen ds n hp
  · obtain ⟨g, ds, n, hg, hH, _, b, rs, hp, q⟩ := h
    obtain ⟨t, ht, hb⟩ := hbody f A outer s H E hr
    exact ⟨_, (ht.run g hg).nox, g.F0, startD N ds, n, _, rel_start b rs, hb ds n hp, ⟨fun F' r' n' s' H' R hx => q F' (.py .none) n' .non H' R.bas Dz.non rfl hx, fun F' d n' v H' b' rv pl hx => q F' d n' v H' b' rv pl hx, fun _ _ _ _ _ _ z => z.elim, fun _ _ _ _ _ _ z => z.elim⟩⟩
def byLen (ls : List (List Str)) : List (List Str) := ls.mergeSort fun a b => decide (b.length ≤ a.length)
theorem byLen_data (ls : List (List Str)) : (lotsD ls).mergeSort (PySem.W.dataLe false keyD) = lotsD (byLen ls) := by
  unfold lotsD byLen
  refine (List.map_mergeSort (f := fun l : List Str => PyData.list (sts l)) fun a _ b _ => ?_).symm
  have e : PySem.W.dataLe false keyD (.list (sts a)) (.list (sts b)) = PySem.W.dataLe false (fun l : List Str => PyData.int (0 - (l.length : Nat))) a b := by
    simp only [PySem.W.dataLe, PySem.W.sortLe, keyD, List.length_map]
  rw [e, PySem.W.dataLe_int]
  congr 1
  apply propext
  omega
@[simp] def dSortKey (te : TED) : TED := fun r n P => te r n fun d r1 n1 => ∃ ls : List (List Str), d = .py (.list (lotsD ls)) ∧ ls.length ≤ sizeLine ∧ P (.py (.list (lotsD (byLen ls)))) r1 n1
section
variable {X : Cx} {c : Cst} {e : Expr} {te : TED} {scope : Scope} {k : Nat} {p0 p p1 p2 p3 p4 p5 lpos kpos pos : Pos} {cc : Addr} {x : Str}
theorem de_sortKey (hg : Gl X "sorted") (hm : X.mg "sorted" = none) (hml : X.mg "len" = none) (hr : Room (k + 2) X.A) (TG : TabG c X.base X.mg cc x) (hcode : X.env.code = .ref cc) (S : KeyS scope) (he : DE c X e te) (hq : X.env.qual = x ++ ".<locals>." := by rfl)
    (hdef : defaultsOf (keyA p) X.env = ([], []) := by rfl) (hs : starEach (e :: []) X.env = (false, eval e X.env) :: starEach [] X.env := by rfl) (hs2 : backTo pos (starEach (e :: []) X.env) = (false, eval e X.env) :: backTo pos (starEach [] X.env) := by rfl) (hpl : (backTo pos (starEach (e :: []) X.env)).any (·.1) = false := by rfl)
    (hall : (backToKw pos (keywordEach [⟨some "key", .Lambda (keyA p) (keyB p1 p2 p3 p4 p5) scope lpos, kpos⟩] X.env)).all (·.1.isSome) = true := by rfl) (hnone : (backToKw pos (keywordEach [⟨some "key", .Lambda (keyA p) (keyB p1 p2 p3 p4 p5) scope lpos, kpos⟩] X.env)).any (·.1.isNone) = false := by rfl)
    (hks : (backToKw pos (keywordEach [⟨some "key", .Lambda (keyA p) (keyB p1 p2 p3 p4 p5) scope lpos, kpos⟩] X.env)).filterMap (·.1) = [("key" : Str)] := by rfl) :
    DE c X (.Call (.Name "sorted" p0) [e] [⟨some "key", .Lambda (keyA p) (keyB p1 p2 p3 p4 p5) scope lpos, kpos⟩] pos) (dSortKey te) := by
  obtain ⟨PT, TB, hmT, huT⟩ := TG.ex
  rw [← hq] at hmT huT
  refine ⟨fun g hgc => PE.imp (pe_sortKey hg hm hml hr (he.run g hgc) TB hcode hmT huT S hdef hs hs2 hpl hall hnone hks) fun s H Q ⟨F, r, n, P, R, q, kk⟩ => ⟨F, r, n, _, R, q, fun F1 d r1 n1 v H1 s1 R1 rv ⟨ls, ed, hl, q1⟩ => ?_⟩⟩
  subst ed
  cases rv with
  | @lst a xs _ e1 e2 =>
    have hT : g.c.T = c.T := by rw [hgc]
    refine ⟨a, xs, lotsD ls, rfl, e2.length, fun d hd => ?_, by simpa [lotsD] using hl, by rw [← hT]; exact R1.bas.tab, fun H2 hL T2 => ?_⟩
    · obtain ⟨l, _, rfl⟩ := List.mem_map.mp hd
      exact ⟨_, rfl⟩
    · have R2 := R1.lam hL (by rw [hT]; exact T2)
      refine ⟨.of (R2.bas.und.lst e1), DzAll.dp R2.bas.und e2 (DzAll.lay e2 (lay_lots ls).1), fun p ys hp he => ?_⟩
      rw [byLen_data] at he
      have sb : SubH F1 (upd F1 p (.lst ys)) := .new (R2.bas.und.some hp)
      exact kk.py (s1.trans sb) (R2.laid hp fun _ z => by cases z) (.lst upd_same ((each_dz e2 he).mono sb)) q1
end
section
variable {P : Program} {w : World} {K : PySem.W.Frag} {mg : Str → Option Value} {base : Heap} {c : Cst}
theorem sc_greatest_of : FnScope ["lots", "kept", "lot", "other"] ["lots"] (defScope (topS 31)) := ⟨rfl, rfl, rfl, by decide +kernel, rfl, by decide +kernel, by decide +kernel⟩
theorem keepL_small (ls : List (List Str)) : (keepL ls).length ≤ ls.length ∧ ∀ l ∈ keepL ls, l ∈ ls := by
  have key : ∀ (ls acc : List (List Str)), (ls.foldl (fun kept lot => if kept.any (withinS lot) then kept else kept ++ [lot]) acc).length ≤ acc.length + ls.length ∧ ∀ l ∈ ls.foldl (fun kept lot => if kept.any (withinS lot) then kept else kept ++ [lot]) acc, l ∈ acc ∨ l ∈ ls := by
    intro ls
    induction ls with
    | nil => intro acc; exact ⟨by simp, fun l h => .inl h⟩
    | cons x xs ih =>
      intro acc
      rw [List.foldl_cons]
      split
      · obtain ⟨i1, i2⟩ := ih acc
        exact ⟨by rw [List.length_cons]; omega, fun l h => (i2 l h).imp id fun q => by simp [q]⟩
      · obtain ⟨i1, i2⟩ := ih (acc ++ [x])
        refine ⟨by rw [List.length_append, List.length_singleton] at i1; rw [List.length_cons]; omega, fun l h => ?_⟩
        rcases i2 l h with q | q
        · rcases List.mem_append.mp q with z | z
          · exact .inl z
          · exact .inr (by rw [List.mem_singleton.mp z]; simp)
        · exact .inr (by simp [q])
  obtain ⟨h1, h2⟩ := key ls []
  exact ⟨Nat.le_trans h1 (by simp), fun l h => (h2 l h).elim (fun z => by cases z) id⟩
theorem ok_greatest_of {cc : Addr} (D : DefAtC K mg "greatest_of" (topS 31) cc) (B : Bn mg) (TG : TabG c base mg cc "greatest_of") (O_is_within : OkD P w K mg base c "is_within" ["lot", "other"] 1 pre_within (pv1 f_is_within)) :
    OkD P w K mg base c "greatest_of" ["lots"] 3 pre_great (pv1 f_greatest_of) := by
  refine ok_defC D (fun _ _ _ _ _ _ us hl => match us, hl with | [_], _ => rfl) sc_greatest_of (fun ds n h => ?_) (fun f A outer s H E hr => ?_)
  · obtain ⟨_, _, _, rfl⟩ := h; rfl
  · refine ⟨_, (dss_cons (ds_newL (i := 1) sc_greatest_of.nd rfl (Or.inl rfl) da_nil) (dss_cons (ds_for (.one 2) PassesOwn.never rfl (di_lst (de_sortKey rfl B.sorted B.len hr TG rfl (by exact ⟨rfl, rfl, rfl, rfl, rfl, by decide +kernel⟩) (de_v 0 (pv 0)))) (pg_name (i := 2) sc_greatest_of.nd rfl (Or.inr rfl)) (dss_one (ds_if (dt_not (dt_val (de_any rfl rfl B.any (de_lcM 1 (own := [("other", 3)]) (.one 3) rfl sc_greatest_of.nd (pv 1) (blkOk_by (N := ["lots", "kept", "lot", "other"]) (sc := defScope (topS 31)) (own := [("other", 3)]) (by decide +kernel)) (fun _ _ _ _ _ => (pg_name (i := 3) sc_greatest_of.nd rfl (Or.inl rfl))) (fun _ _ _ _ _ => dts_nil) (fun _ _ _ _ _ => (de_ok O_is_within hr (by decide) rfl (da_cons (de_v 2 (pv 2)) (da_cons (de_v 3 (pv 3)) da_nil)))))))) (dss_one (ds_expr (de_append 1 (pv 1) (de_v 2 (pv 2))))) dss_nil))) (dss_one (ds_ret (de_sorted (hu64 hr) rfl B.sorted (de_frz 1 (pv 1))))))), fun ds n h => ?_⟩
    obtain ⟨ls, hl, hs, rfl⟩ := h
    simp [startD, pv1, -Bool.exists_bool, -seqOf]
    have hpm : (byLen ls).Perm ls := List.mergeSort_perm ls _
    have hbl : (byLen ls).length ≤ 128 := by rw [hpm.length_eq]; exact hl
    have small : ∀ k, (keepL ((byLen ls).take k)).length ≤ 128 ∧ ∀ l ∈ keepL ((byLen ls).take k), l.length ≤ 64 := fun k => by
      obtain ⟨h1, h2⟩ := keepL_small ((byLen ls).take k)
      refine ⟨Nat.le_trans h1 (by rw [List.length_take]; omega), fun l h => hs l (hpm.mem_iff.mp (List.mem_of_mem_take (h2 l h)))⟩
    refine for_t (byLen ls) lotD (fun k r n' => (∃ a, r = [some (.dat (.py (.list (lotsD ls)))), some (.mu (.lst (lotsD (keepL ((byLen ls).take k))))), a, none]) ∧ n' = n) (fun K h => by simp; exact ⟨ls, rfl, by rw [szL]; omega, h⟩) ⟨⟨_, rfl⟩, rfl⟩ (fun k x r n' hx ⟨⟨a, e⟩, en⟩ => ?_) (fun r n' ⟨⟨a, e⟩, en⟩ => ?_)
    · subst e en
      have hxm : x ∈ ls := hpm.mem_iff.mp (List.mem_of_getElem? hx)
      obtain ⟨s1, s2⟩ := small k
      have snoc : keepL ((byLen ls).take (k + 1)) = if (keepL ((byLen ls).take k)).any (withinS x) then keepL ((byLen ls).take k) else keepL ((byLen ls).take k) ++ [x] := by
        rw [take_succ_get hx, keepL_snoc]
      simp [-Bool.exists_bool]
      refine lctM (keepL ((byLen ls).take k)) lotD (fun _ => true) (fun l => .bool (withinS x l)) rfl (by simp) (by rw [szL]; omega) rfl (fun l hm K h => h) (fun l hm _ K hK => ?_) ?_
      · simp [lotD, pv1, -Bool.exists_bool]
        exact ⟨⟨x, l, by have := hs x hxm; rw [szL]; omega, rfl⟩, by simpa [lotD] using hK⟩
      · have ef : ((keepL ((byLen ls).take k)).filter fun _ => true) = keepL ((byLen ls).take k) := List.filter_eq_self.mpr fun _ _ => rfl
        rw [ef]
        refine ⟨(keepL ((byLen ls).take k)).map (withinS x), by rw [List.map_map]; rfl, ?_⟩
        have e' : (true ∈ (keepL ((byLen ls).take k)).map (withinS x)) ↔ (keepL ((byLen ls).take k)).any (withinS x) = true := by simp
        simp only [e']
        cases hany : (keepL ((byLen ls).take k)).any (withinS x) with
        | true =>
          rw [hany] at snoc
          simp
          rw [snoc]; rfl
        | false =>
          rw [hany] at snoc
          simp [lotD]
          refine ⟨by simp only [lotsD, List.length_map]; rw [szL]; omega, ?_⟩
          rw [snoc]
          simp [lotsD]
    · subst e en
      obtain ⟨s1, s2⟩ := small (byLen ls).length
      rw [List.take_length] at s1 s2
      simp only [List.take_length, sRet, dCB, dCons, dNil, dFrz]
      refine ⟨_, _, rfl, rfl, kSort_lots (by rw [szL]; omega) ⟨rfl, rfl, rfl⟩⟩
end
end K21

set_option Elab.async false
set_option linter.all false
set_option maxRecDepth 100000
set_option maxHeartbeats 4000000
/-! K21H1: drawn names and objections. -/
namespace K21
open PySem PySem.Spec PyProof.Rows L2
theorem perm_un {α : Type} {f : α → PD} {g : PD → α} (hg : ∀ x, g (f x) = x) {es : List PD} {ws : List α} (h : es.Perm (ws.map f)) : ∃ ns : List α, es = ns.map f ∧ ns.Perm ws := by
  refine ⟨es.map g, ?_, ?_⟩
  · rw [List.map_map]
    conv => lhs; rw [← List.map_id es]
    refine List.map_congr_left fun e he => ?_
    obtain ⟨w, _, rfl⟩ := List.mem_map.mp (h.mem_iff.mp he)
    simp [hg]
  · have := h.map g
    rw [List.map_map] at this
    have e : ws.map (g ∘ f) = ws := by
      conv => rhs; rw [← List.map_id ws]
      exact List.map_congr_left fun w _ => by simp [hg]
    rw [e] at this
    exact this
def unStr : PD → Str
  | .str x => x
  | _ => ""
def unPair : PD → Str × Str
  | .tuple [.str x, .str y] => (x, y)
  | _ => ("", "")
theorem perm_sts {es : List PD} {ws : List Str} (h : es.Perm (sts ws)) : ∃ ns : List Str, es = sts ns ∧ ns.Perm ws := perm_un (g := unStr) (fun _ => rfl) h
theorem perm_pairs {es : List PD} {ws : List (Str × Str)} (h : es.Perm (ws.map pairD)) : ∃ ns : List (Str × Str), es = ns.map pairD ∧ ns.Perm ws := perm_un (g := unPair) (fun ⟨_, _⟩ => rfl) h
/-- the turns of a loop, its source once read -/
theorem for_e {α : Type} {i : Nat} {t : TSD} {E : EndsD} {r : DEnv} {n : Nat} {ds : List PD} (xs : List α) (enc : α → PD) (hds : ds = xs.map enc) (I : Nat → DEnv → Nat → Prop) (h0 : I 0 r n)
    (hk : ∀ k x r n, xs[k]? = some x → I k r n → t { E with nx := I (k + 1), ct := I (k + 1), bk := E.nx } (r.set i (some (.dat (.py (enc x))))) n) (he : ∀ r n, I xs.length r n → E.nx r n) :
    ∃ I : Nat → DEnv → Nat → Prop, I 0 r n ∧ (∀ k d r n, ds[k]? = some d → I k r n → (Bnd.one i).bind d r fun r => t { E with nx := I (k + 1), ct := I (k + 1), bk := E.nx } r n) ∧ ∀ r n, I ds.length r n → E.nx r n := by
  subst hds
  refine ⟨I, h0, fun k d r n hd hI => ?_, by rw [List.length_map]; exact he⟩
  rw [List.getElem?_map] at hd
  cases hp : xs[k]? with
  | none => rw [hp] at hd; cases hd
  | some x =>
    rw [hp] at hd
    cases hd
    exact hk k x r n hp hI
def lawNames : List Str := ["b", "aa", "c1", "docs", "z9", "a", "m3", "abcdefghijk1", "no", "yes"]
theorem lawNames_ok : NamesOk lawNames := ⟨by decide +kernel⟩
theorem names_law {ns : List Str} (h : ∀ x ∈ ns, x ∈ lawNames) : NamesOk ns := ⟨fun x hx => lawNames_ok.ok x (h x hx)⟩
theorem lawNames_nd : lawNames.Nodup := by decide +kernel
section
variable {P : Program} {w : World} {K : PySem.W.Frag} {mg : Str → Option Value} {base : Heap} {c : Cst}
theorem sc__law_d_names : FnScope ["_law_stream", "_law_many", "_law_some"] ["_law_stream", "_law_many"] (defScope (topS 57)) := ⟨rfl, rfl, rfl, by decide +kernel, rfl, by decide +kernel, by decide +kernel⟩
def pre_dn (ds : List DV) (n : Nat) : Prop := ∃ k : Nat, k ≤ 7 ∧ n < 500000 ∧ ds = [.strm, .py (.int (k : Nat))]
def post_dn (ds : List DV) (n : Nat) (d : DV) (n' : Nat) : Prop := n' ≤ n + 10 ∧ ∃ ns : List Str, ns.Nodup ∧ (∀ x ∈ ns, x ∈ lawNames) ∧ ns.length ≤ 7 ∧ d = .py (.list (sts ns))
theorem ok_d_names (D : DefAt K mg "_law_d_names" (topS 57)) (B : Bn mg) (O_law_mixed : OkD P w K mg base c "_law_mixed" ["_law_stream", "_law_some"] 2 pre_mixed post_mixed) : OkD P w K mg base c "_law_d_names" ["_law_stream", "_law_many"] 3 pre_dn post_dn := by
  refine ok_def D (fun _ _ _ _ _ _ us hl => match us, hl with | [_, _], _ => rfl) sc__law_d_names (fun ds n h => ?_) (fun f cdv A outer s H E hr => ?_)
  · obtain ⟨_, _, _, rfl⟩ := h; rfl
  · refine ⟨_, (dss_cons (ds_set (i := 2) sc__law_d_names.nd rfl (Or.inl rfl) (de_lst (da_cons de_str (da_cons de_str (da_cons de_str (da_cons de_str (da_cons de_str (da_cons de_str (da_cons de_str (da_cons de_str (da_cons de_str (da_cons de_str da_nil)))))))))))) (dss_one (ds_ret (de_cut (de_ok O_law_mixed hr (by decide) rfl (da_cons (de_v 0 (pv 0)) (da_cons (de_v 2 (pv 2)) da_nil))) do_none (do_some (de_v 1 (pv 1))))))), fun ds n h => ?_⟩
    obtain ⟨k, h1, h2, rfl⟩ := h
    simp [startD, -Bool.exists_bool, -seqOf]
    refine ⟨by rw [szL]; omega, ⟨_, _, rfl, by simp, by simp; omega, rfl⟩, fun d n2 h => ?_⟩
    obtain ⟨d0, es, es', e, hs, rfl, hp, rfl⟩ := h
    simp only [List.cons.injEq, DV.py.injEq, and_true, true_and] at e
    subst e
    simp only [seqOf, Option.some.injEq] at hs
    subst hs
    obtain ⟨ns, rfl, hq⟩ := perm_sts (ws := lawNames) hp
    refine .inl ⟨_, rfl, by simp, ns.take k, (hq.nodup_iff.mpr lawNames_nd).sublist (List.take_sublist _ _), fun x hx => hq.mem_iff.mp (List.mem_of_mem_take hx), by rw [List.length_take]; omega, ?_⟩
    rw [cut_to, sts, ← List.map_take]
theorem sc__law_d_pairs : FnScope ["_law_stream", "_law_names", "_law_k", "_law_way", "_law_many", "_law_found", "_law_one", "_law_other"] ["_law_stream", "_law_names"] (defScope (topS 58)) := ⟨rfl, rfl, rfl, by decide +kernel, rfl, by decide +kernel, by decide +kernel⟩
def pre_dp (ds : List DV) (n : Nat) : Prop := ∃ ns : List Str, ns.Nodup ∧ ns.length ≤ 7 ∧ n < 500000 ∧ ds = [.strm, .py (.list (sts ns))]
def post_dp (ds : List DV) (n : Nat) (d : DV) (n' : Nat) : Prop := n' ≤ n + 1000 ∧ ∃ (ns : List Str) (ps : List (Str × Str)), ds = [.strm, .py (.list (sts ns))] ∧ ps.length ≤ 4096 ∧ ps.Nodup ∧ (∀ p ∈ ps, p.1 ∈ ns ∧ p.2 ∈ ns) ∧ d = .py (.list (ps.map pairD))
def dpSrc : TSrc := iRng (dIf (tBD (tOpD kGt (dVar 4) (dC (PyData.int 0)))) (dCall pre_draw post_draw (dCons (dVar 0) (dCons (tOpD kIx (dLst (dCons (dC (PyData.int 2)) (dCons (tOpD kAdd (tOpD kMul (dVar 4) (dVar 4)) (dC (PyData.int 1))) (dCons (tOpD kAdd (dVar 4) (dC (PyData.int 2))) (dCons (tOpD kAdd (tOpD kMul (dC (PyData.int 2)) (dVar 4)) (dC (PyData.int 1))) (dCons (tOpD kAdd (dVar 4) (dC (PyData.int 1))) dNil)))))) (dVar 3)) dNil))) (dC (PyData.int 0)))
def dpBody : TSD := sSeq (sPar 6 7 (dCall pre_pick post_pick (dCons (dVar 0) (dCons (dVar 1) dNil))) (dCall pre_pick post_pick (dCons (dVar 0) (dCons (dVar 1) dNil))))
      (sSeq (sExpr (dAppend 5 (dTup (dCons (dVar 6) (dCons (dVar 7) dNil))))) (sExpr (dExtend 5 (tOpD kRep (dLst (dCons (dTup (dCons (dVar 7) (dCons (dVar 6) dNil))) dNil)) (dCB kInt (dCons (tOpD kEq (dVar 3) (dC (PyData.int 3))) dNil))))))
def dpRet : TSD := sRet (dCall pre_mixed post_mixed (dCons (dVar 0) (dCons (dCall pre_ps (pv1 f_each_once) (dCons (dFrz 5) dNil)) dNil)))
def dpTail : TSD := sSeq (sFor (Bnd.one 2) dpSrc dpBody) dpRet
def dpEnv (ns : List Str) (way : Nat) (ps : List (Str × Str)) (a b c : Option Slot) : DEnv := [some (.dat .strm), some (.dat (.py (.list (sts ns)))), a, some (.dat (.py (.int (way : Nat)))), some (.dat (.py (.int (ns.length : Nat)))), some (.mu (.lst (ps.map pairD))), b, c]
theorem eqvI (z u : Int) : PyData.eqv (.int z) (.int u) = decide (z = u) := by
  simp only [PyData.eqv]
  exact Bool.beq_eq_decide_eq z u
theorem rngD_get {m k : Nat} {d : PD} (h : (rngD m)[k]? = some d) : k < m ∧ d = .int (k : Nat) := by
  have hk : k < m := by simpa [rngD] using (List.getElem?_eq_some_iff.mp h).1
  refine ⟨hk, ?_⟩
  simp [rngD, hk] at h
  exact h.symm
theorem dpTail_ok {E : EndsD} {ns : List Str} {way n0 n1 : Nat} {ps0 : List (Str × Str)} (hl : ns.length ≤ 7) (h2 : n0 < 500000) (hw : way < 5) (h0 : ps0.length ≤ 7) (h1 : ∀ p ∈ ps0, p.1 ∈ ns ∧ p.2 ∈ ns) (hn : n1 ≤ n0 + 2)
    (kk : ∀ d n', post_dp [.strm, .py (.list (sts ns))] n0 d n' → E.rt d n') :
    dpTail E [some (.dat .strm), some (.dat (.py (.list (sts ns)))), none, some (.dat (.py (.int (way : Nat)))), some (.dat (.py (.int (ns.length : Nat)))), some (.mu (.lst (ps0.map pairD))), none, none] n1 := by
  have turns : ∀ (m nn : Nat), m ≤ 60 → nn ≤ n0 + 3 → (0 < m → 0 < ns.length) → ∃ I : Nat → DEnv → Nat → Prop, I 0 (dpEnv ns way ps0 none none none) nn ∧
      (∀ k d r n, (rngD m)[k]? = some d → I k r n → (Bnd.one 2).bind d r fun r => dpBody { nx := I (k + 1), rt := E.rt, bk := fun r n => dpRet E r n, ct := I (k + 1) } r n) ∧ ∀ r n, I (rngD m).length r n → dpRet E r n := fun m nn hm hnn hpos => by
    refine ⟨fun i r n' => ∃ ps : List (Str × Str), (∃ a b c, r = dpEnv ns way ps a b c) ∧ ps.length ≤ 7 + 2 * i ∧ (∀ p ∈ ps, p.1 ∈ ns ∧ p.2 ∈ ns) ∧ n' ≤ n0 + 3 + 2 * i, ⟨ps0, ⟨_, _, _, rfl⟩, by omega, h1, by omega⟩, fun k d r n hd hI => ?_, fun r n hI => ?_⟩
    · obtain ⟨ps, ⟨a, b, c, rfl⟩, hpl, hpm, hnk⟩ := hI
      have hk : k < m := by simpa [rngD] using (List.getElem?_eq_some_iff.mp hd).1
      have hns := hpos (by omega)
      simp [Bnd.bind, dpBody, dpEnv, -Bool.exists_bool, -seqOf]
      refine ⟨⟨sts ns, by simpa using hns, by simp; omega, by omega, rfl⟩, fun d2 n2 hh => ?_⟩
      obtain ⟨rfl, _, e1, hh, rfl, hm1⟩ := hh
      simp only [List.cons.injEq, DV.py.injEq, PyData.list.injEq, and_true, true_and] at hh
      subst hh
      obtain ⟨x, hx, rfl⟩ := mem_sts.mp hm1
      refine ⟨⟨sts ns, by simpa using hns, by simp; omega, by omega, rfl⟩, fun d2 n2 hh => ?_⟩
      obtain ⟨rfl, _, e1, hh, rfl, hm1⟩ := hh
      simp only [List.cons.injEq, DV.py.injEq, PyData.list.injEq, and_true, true_and] at hh
      subst hh
      obtain ⟨y, hy, rfl⟩ := mem_sts.mp hm1
      rw [eqvI]
      refine ⟨[.str x, .str y], rfl, by rw [szL]; simp, by rw [szL]; omega, [.str y, .str x], rfl, by rw [szL]; simp, by rw [szL]; omega, ?_⟩
      by_cases h3 : way = 3
      · have e3 : decide ((way : Int) = 3) = true := by simp; omega
        simp only [e3, if_true]
        refine ⟨by omega, by omega, by rw [szL]; omega, by rw [szL]; omega, ps ++ [(x, y), (y, x)], by simp [pairD], by simp; omega, fun p q hp => ?_, by omega⟩
        rcases List.mem_append.mp hp with z | z
        · exact hpm _ z
        · simp only [List.mem_cons, List.not_mem_nil, or_false, Prod.mk.injEq] at z
          rcases z with ⟨rfl, rfl⟩ | ⟨rfl, rfl⟩
          · exact ⟨hx, hy⟩
          · exact ⟨hy, hx⟩
      · have e3 : decide ((way : Int) = 3) = false := by simp; omega
        simp only [e3, if_false, Bool.false_eq_true]
        refine ⟨by omega, by omega, by rw [szL]; omega, by rw [szL]; omega, ps ++ [(x, y)], by simp [pairD], by simp; omega, fun p q hp => ?_, by omega⟩
        rcases List.mem_append.mp hp with z | z
        · exact hpm _ z
        · simp only [List.mem_cons, List.not_mem_nil, or_false, Prod.mk.injEq] at z
          obtain ⟨rfl, rfl⟩ := z
          exact ⟨hx, hy⟩
    · obtain ⟨ps, ⟨a, b, c, rfl⟩, hpl, hpm, hnk⟩ := hI
      simp [rngD] at hpl hnk
      simp [dpRet, dpEnv, -Bool.exists_bool, -seqOf]
      refine ⟨⟨ps, by omega, rfl⟩, fun d n2 hh => ?_⟩
      obtain ⟨rfl, rfl⟩ := hh
      obtain ⟨o1, o2, o3⟩ := onceP_ok _ ps rfl
      simp [-seqOf]
      refine ⟨⟨_, _, rfl, by simp; omega, by simp; omega, rfl⟩, fun d n2 hh => ?_⟩
      obtain ⟨d0, es, es', e, hs, rfl, hp, rfl⟩ := hh
      simp only [List.cons.injEq, DV.py.injEq, and_true, true_and] at e
      subst e
      simp only [seqOf, Option.some.injEq] at hs
      subst hs
      obtain ⟨qs, rfl, hq⟩ := perm_pairs hp
      refine ⟨rfl, kk _ _ ⟨by simp; omega, ns, qs, rfl, by rw [hq.length_eq]; omega, hq.nodup_iff.mpr o1, fun p hp => hpm p ((o3 p).mp (hq.mem_iff.mp hp)), rfl⟩⟩
  unfold dpTail dpSrc
  simp [sFor, -Bool.exists_bool, -seqOf]
  split
  · rename_i hpos
    have sq : ns.length * ns.length ≤ 49 := Nat.mul_le_mul hl hl
    have sq' : (ns.length : Int) * (ns.length : Int) = ((ns.length * ns.length : Nat) : Int) := by simp
    generalize ns.length * ns.length = m2 at sq sq'
    have hv : ∃ v : Nat, 0 < v ∧ v ≤ 60 ∧ atI [PyData.int 2, PyData.int (ns.length * ns.length + 1), PyData.int (ns.length + 2), PyData.int (2 * ns.length + 1), PyData.int (ns.length + 1)] (way : Int) = some (.int (v : Nat)) := by
      rw [sq']
      obtain rfl | rfl | rfl | rfl | rfl : way = 0 ∨ way = 1 ∨ way = 2 ∨ way = 3 ∨ way = 4 := by omega
      · exact ⟨2, by omega, by omega, atI_nat rfl⟩
      · exact ⟨m2 + 1, by omega, by omega, atI_nat rfl⟩
      · exact ⟨ns.length + 2, by omega, by omega, atI_nat rfl⟩
      · exact ⟨2 * ns.length + 1, by omega, by omega, atI_nat rfl⟩
      · exact ⟨ns.length + 1, by omega, by omega, atI_nat rfl⟩
    obtain ⟨v, v0, v1, hv⟩ := hv
    refine ⟨.inl (by omega), .inl (by omega), by rw [szL]; omega, _, rfl, _, hv, ⟨v, v0, by omega, by omega, rfl⟩, fun d n2 h => ?_⟩
    obtain ⟨rfl, k, i, e, rfl, hi⟩ := h
    simp at e
    refine ⟨(i : Int), rfl, by omega, by omega, ?_⟩
    rw [Int.toNat_natCast]
    exact turns i _ (by omega) (by omega) (fun _ => hpos)
  · exact turns 0 _ (by omega) (by omega) (fun z => absurd z (by omega))
theorem ok_d_pairs (D : DefAt K mg "_law_d_pairs" (topS 58)) (B : Bn mg) (O_law_draw : OkD P w K mg base c "_law_draw" ["_law_stream", "_law_many"] 1 pre_draw post_draw) (O_law_pick : OkD P w K mg base c "_law_pick" ["_law_stream", "_law_some"] 2 pre_pick post_pick)
    (O_law_mixed : OkD P w K mg base c "_law_mixed" ["_law_stream", "_law_some"] 2 pre_mixed post_mixed) (O_law_each_once : OkD P w K mg base c "_law_each_once" ["_law_things_here"] 1 pre_ps (pv1 f_each_once)) : OkD P w K mg base c "_law_d_pairs" ["_law_stream", "_law_names"] 3 pre_dp post_dp := by
  refine ok_def D (fun _ _ _ _ _ _ us hl => match us, hl with | [_, _], _ => rfl) sc__law_d_pairs (fun ds n h => ?_) (fun f cdv A outer s H E hr => ?_)
  · obtain ⟨_, _, _, _, rfl⟩ := h; rfl
  · refine ⟨_, (dss_cons (ds_par3L (par3_G (i := 3) (j := 4) (l := 5) (pg_tup rfl (pgs_cons (pg_name (i := 3) sc__law_d_pairs.nd rfl (Or.inl rfl)) (pgs_cons (pg_name (i := 4) sc__law_d_pairs.nd rfl (Or.inr rfl)) (pgs_cons (pg_name (i := 5) sc__law_d_pairs.nd rfl (Or.inl rfl)) pgs_nil))))) (de_ok O_law_draw hr (by decide) rfl (da_cons (de_v 0 (pv 0)) (da_cons de_int da_nil))) (de_len rfl B.len (de_v 1 (pv 1))) da_nil) (dss_cons (ds_if (DW.dt (dw_and (dt_eq (hu64 hr) (de_v 3 (pv 3)) de_int) (dw_and1 (dt_gt (de_v 4 (pv 4)) de_int)))) (dss_one (ds_newLc (i := 5) (y := "_law_found") rfl rfl (own := [("_law_k", 2)]) (.one 2) rfl sc__law_d_pairs.nd (di_rng rfl B.range (de_sub (de_v 4 (pv 4)) (de_ok O_law_draw hr (by decide) rfl (da_cons (de_v 0 (pv 0)) (da_cons de_int da_nil))))) (blkOk_by (N := ["_law_stream", "_law_names", "_law_k", "_law_way", "_law_many", "_law_found", "_law_one", "_law_other"]) (sc := defScope (topS 58)) (own := [("_law_k", 2)]) (by decide +kernel)) (fun _ _ _ _ _ => (pg_name (i := 2) sc__law_d_pairs.nd rfl (Or.inl rfl))) (fun _ _ _ _ _ => dts_nil) (fun _ _ _ _ _ => (de_tup (da_cons (de_ix (de_v 1 (pv 1)) (de_v 2 (pv 2))) (da_cons (de_ix (de_v 1 (pv 1)) (de_mod (de_intOf rfl B.int (de_add (de_v 2 (pv 2)) de_int)) (de_v 4 (pv 4)))) da_nil)))) (sw_true rfl rfl rfl (by decide +kernel)))) dss_nil) (dss_cons (ds_for (.one 2) PassesOwn.never rfl (di_rng rfl B.range (de_if (dt_gt (de_v 4 (pv 4)) de_int) (de_ok O_law_draw hr (by decide) rfl (da_cons (de_v 0 (pv 0)) (da_cons (de_ix (de_lst (da_cons de_int (da_cons (de_add (de_mul (de_v 4 (pv 4)) (de_v 4 (pv 4))) de_int) (da_cons (de_add (de_v 4 (pv 4)) de_int) (da_cons (de_add (de_mul de_int (de_v 4 (pv 4))) de_int) (da_cons (de_add (de_v 4 (pv 4)) de_int) da_nil)))))) (de_v 3 (pv 3))) da_nil))) de_int)) (pg_name (i := 2) sc__law_d_pairs.nd rfl (Or.inl rfl)) (dss_cons (ds_par (par2_S (i := 6) (j := 7) rfl sc__law_d_pairs.nd rfl rfl (by decide) rfl rfl rfl) (de_ok O_law_pick hr (by decide) rfl (da_cons (de_v 0 (pv 0)) (da_cons (de_v 1 (pv 1)) da_nil))) (de_ok O_law_pick hr (by decide) rfl (da_cons (de_v 0 (pv 0)) (da_cons (de_v 1 (pv 1)) da_nil)))) (dss_cons (ds_expr (de_append 5 (pv 5) (de_tup (da_cons (de_v 6 (pv 6)) (da_cons (de_v 7 (pv 7)) da_nil))))) (dss_one (ds_expr (de_extend 5 (pv 5) (de_rep (de_lst (da_cons (de_tup (da_cons (de_v 7 (pv 7)) (da_cons (de_v 6 (pv 6)) da_nil))) da_nil)) (de_intOf rfl B.int (de_eq (hu64 hr) (de_v 3 (pv 3)) de_int))))))))) (dss_one (ds_ret (de_ok O_law_mixed hr (by decide) rfl (da_cons (de_v 0 (pv 0)) (da_cons (de_ok O_law_each_once hr (by decide) rfl (da_cons (de_frz 5 (pv 5)) da_nil)) da_nil)))))))), fun ds n h => ?_⟩
    obtain ⟨ns, hn, hl, h2, rfl⟩ := h
    simp [startD, -Bool.exists_bool, -seqOf]
    refine ⟨⟨5, by omega, by omega, by omega, rfl⟩, fun d n2 h => ?_⟩
    obtain ⟨rfl, k, way, e, rfl, hw⟩ := h
    simp at e
    have hw' : way < 5 := by omega
    refine ⟨_, rfl, by simp, ?_⟩
    rw [eqvI]
    have fin := fun (ps0 : List (Str × Str)) n1 (h0 : ps0.length ≤ 7) (h1 : ∀ p ∈ ps0, p.1 ∈ ns ∧ p.2 ∈ ns) (hn : n1 ≤ n + 2) => dpTail_ok (E := ⟨fun x n' => post_dp [DV.strm, DV.py (PyData.list (sts ns))] n (DV.py PyData.none) n', fun d n' => post_dp [DV.strm, DV.py (PyData.list (sts ns))] n d n', fun _ _ => False, fun _ _ => False⟩) hl h2 hw' h0 h1 hn (fun d n' h => h)
    split
    · split
      · rename_i hpos
        unfold sLcM
        simp [-Bool.exists_bool, -seqOf]
        refine ⟨⟨2, by omega, by omega, by omega, rfl⟩, fun d n2 h => ?_⟩
        obtain ⟨rfl, k, i, e, rfl, hi⟩ := h
        simp at e
        refine ⟨_, rfl, by omega, by omega, fun k acc r n' => n' = n + 1 + 1 ∧ (r = dpEnv ns way [] none none none) ∧ ∃ ps : List (Str × Str), acc = ps.map pairD ∧ ps.length = k ∧ ∀ p ∈ ps, p.1 ∈ ns ∧ p.2 ∈ ns, ⟨rfl, rfl, [], rfl, rfl, by simp⟩, fun k d acc r n' hd hI => ?_, fun acc r n' hI => ?_⟩
        · obtain ⟨rfl, rfl, ps, rfl, rfl, hm⟩ := hI
          obtain ⟨hk, rfl⟩ := rngD_get hd
          have k1 : ps.length < ns.length := by omega
          have k2 : (ps.length + 1) % ns.length < ns.length := Nat.mod_lt _ hpos
          have e2 : ((ps.length : Int) + 1) % (ns.length : Int) = (((ps.length + 1) % ns.length : Nat) : Int) := by simp
          simp [Bnd.bind, dpEnv, -Bool.exists_bool, tYesD]
          rw [e2]
          have a1 : atI (sts ns) ((ps.length : Nat) : Int) = some (.str ns[ps.length]) := atI_nat (by simp [k1])
          have a2 : atI (sts ns) (((ps.length + 1) % ns.length : Nat) : Int) = some (.str ns[(ps.length + 1) % ns.length]) := atI_nat (by simp [k2])
          refine ⟨_, a1, hpos, _, a2, by rw [szL]; omega, by rw [szL]; omega, rfl, ps ++ [(ns[ps.length], ns[(ps.length + 1) % ns.length])], by simp [pairD], by simp, fun p q hp => ?_⟩
          rcases List.mem_append.mp hp with z | z
          · exact hm _ z
          · simp only [List.mem_cons, List.not_mem_nil, or_false, Prod.mk.injEq] at z
            obtain ⟨rfl, rfl⟩ := z
            exact ⟨List.getElem_mem _, List.getElem_mem _⟩
        · obtain ⟨rfl, rfl, ps, rfl, hl2, hm⟩ := hI
          simp [rngD] at hl2
          exact fin ps _ (by omega) hm (by omega)
      · exact fin [] _ (by simp) (by simp) (by omega)
    · exact fin [] _ (by simp) (by simp) (by omega)
theorem sc__law_d_debate : FnScope ["_law_stream", "_law_most", "_law_names"] ["_law_stream", "_law_most"] (defScope (topS 59)) := ⟨rfl, rfl, rfl, by decide +kernel, rfl, by decide +kernel, by decide +kernel⟩
def pre_dd (ds : List DV) (n : Nat) : Prop := n < 400000 ∧ ds = [.strm, .py (.int 7)]
def post_dd (ds : List DV) (n : Nat) (d : DV) (n' : Nat) : Prop := n' ≤ n + 1100 ∧ ∃ (ns : List Str) (ps : List (Str × Str)), ns.Nodup ∧ (∀ x ∈ ns, x ∈ lawNames) ∧ ns.length ≤ 7 ∧ ps.length ≤ 4096 ∧ ps.Nodup ∧ (∀ p ∈ ps, p.1 ∈ ns ∧ p.2 ∈ ns) ∧ d = .py (.tuple [.list (sts ns), .list (ps.map pairD)])
theorem ok_d_debate (D : DefAt K mg "_law_d_debate" (topS 59)) (B : Bn mg) (O_law_draw : OkD P w K mg base c "_law_draw" ["_law_stream", "_law_many"] 1 pre_draw post_draw) (O_law_d_names : OkD P w K mg base c "_law_d_names" ["_law_stream", "_law_many"] 3 pre_dn post_dn)
    (O_law_d_pairs : OkD P w K mg base c "_law_d_pairs" ["_law_stream", "_law_names"] 3 pre_dp post_dp) : OkD P w K mg base c "_law_d_debate" ["_law_stream", "_law_most"] 4 pre_dd post_dd := by
  refine ok_def D (fun _ _ _ _ _ _ us hl => match us, hl with | [_, _], _ => rfl) sc__law_d_debate (fun ds n h => ?_) (fun f cdv A outer s H E hr => ?_)
  · obtain ⟨_, rfl⟩ := h; rfl
  · refine ⟨_, (dss_cons (ds_set (i := 2) sc__law_d_debate.nd rfl (Or.inl rfl) (de_ok O_law_d_names hr (by decide) rfl (da_cons (de_v 0 (pv 0)) (da_cons (de_ok O_law_draw hr (by decide) rfl (da_cons (de_v 0 (pv 0)) (da_cons (de_add (de_v 1 (pv 1)) de_int) da_nil))) da_nil)))) (dss_one (ds_ret (de_tup (da_cons (de_v 2 (pv 2)) (da_cons (de_ok O_law_d_pairs hr (by decide) rfl (da_cons (de_v 0 (pv 0)) (da_cons (de_v 2 (pv 2)) da_nil))) da_nil)))))), fun ds n h => ?_⟩
    obtain ⟨h2, rfl⟩ := h
    simp [startD, -Bool.exists_bool, -seqOf]
    refine ⟨⟨8, by omega, by omega, by omega, rfl⟩, fun d n2 h => ?_⟩
    obtain ⟨rfl, k, i, e, rfl, hi⟩ := h
    simp at e
    refine ⟨rfl, ⟨i, by omega, by omega, rfl⟩, fun d n2 h => ?_⟩
    obtain ⟨hn2, ns, hn, ho, hl, rfl⟩ := h
    simp [-seqOf]
    refine ⟨⟨ns, hn, hl, by omega, rfl⟩, fun d n3 h => ?_⟩
    obtain ⟨hn3, ns', ps, e, hp2, hp, hm, rfl⟩ := h
    simp only [List.cons.injEq, DV.py.injEq, PyData.list.injEq, and_true, true_and] at e
    have := sts_inj e
    subst this
    refine ⟨_, ⟨_, rfl, rfl⟩, by rw [szL]; simp, by omega, ns, ps, hn, ho, hl, hp2, hp, hm, rfl⟩
end
end K21

set_option Elab.async false
set_option linter.all false
set_option maxRecDepth 100000
set_option maxHeartbeats 4000000
/-! K21H2: the Debate of what is drawn; things near to a ring; two things the same. -/
namespace K21
open PySem PySem.Spec PyProof.Rows L2
section
variable {P : Program} {w : World} {K : PySem.W.Frag} {mg : Str → Option Value} {base : Heap} {c : Cst}
theorem sc__law_z_odd_name : FnScope ["_law_stream"] ["_law_stream"] (defScope (topS 49)) := ⟨rfl, rfl, rfl, by decide +kernel, rfl, by decide +kernel, by decide +kernel⟩
def oddL : List PD := [.none, .int 5, .str "nobody", .str "", .bool true, .list [.str "b"], .tuple [.str "a"], .dict [], .str "Aa", .int 0]
def pre_zo (ds : List DV) (n : Nat) : Prop := n < 900000 ∧ ds = [.strm]
def post_zo (ds : List DV) (n : Nat) (d : DV) (n' : Nat) : Prop := n' = n + 1 ∧ ∃ e ∈ oddL, d = .py e
theorem ok_z_odd_name (D : DefAt K mg "_law_z_odd_name" (topS 49)) (O_law_pick : OkD P w K mg base c "_law_pick" ["_law_stream", "_law_some"] 2 pre_pick post_pick) : OkD P w K mg base c "_law_z_odd_name" ["_law_stream"] 3 pre_zo post_zo := by
  refine ok_def D (fun _ _ _ _ _ _ us hl => match us, hl with | [_], _ => rfl) sc__law_z_odd_name (fun ds n h => ?_) (fun f cdv A outer s H E hr => ?_)
  · obtain ⟨_, rfl⟩ := h; rfl
  · refine ⟨_, (dss_one (ds_ret (de_ok O_law_pick hr (by decide) rfl (da_cons (de_v 0 (pv 0)) (da_cons (de_lst (da_cons de_non (da_cons de_int (da_cons de_str (da_cons de_str (da_cons de_bl (da_cons (de_lst (da_cons de_str da_nil)) (da_cons (de_tup (da_cons de_str da_nil)) (da_cons de_d0 (da_cons de_str (da_cons de_int da_nil))))))))))) da_nil))))), fun ds n h => ?_⟩
    obtain ⟨h1, rfl⟩ := h
    simp [startD, -Bool.exists_bool]
    refine ⟨by rw [szL]; omega, by rw [szL]; omega, ⟨oddL, by decide, by decide, by omega, rfl⟩, fun d n2 h => ?_⟩
    obtain ⟨rfl, es, e, h1, rfl, hm⟩ := h
    simp only [List.cons.injEq, DV.py.injEq, PyData.list.injEq, and_true, true_and] at h1
    subst h1
    exact ⟨rfl, rfl, e, hm, rfl⟩
theorem paired_str {ws : List Str} {j : Nat} : ∀ {es' : List PD}, Paired (looseR j) (sts ws) es' → es' = sts ws := by
  induction ws with
  | nil => intro es' h; cases h; rfl
  | cons x ws ih =>
    intro es' h
    cases h with
    | cons a t =>
      rw [ih t]
      cases j with
      | zero => obtain ⟨_, rfl⟩ := a; rfl
      | succ j =>
        obtain ⟨_, rfl⟩ | ⟨_, _, e, _⟩ := a
        · rfl
        · cases e
theorem loose_sts {ws : List Str} {d : PD} {j : Nat} (h : looseR (j + 1) (.list (sts ws)) d) : seqOf (.py d) = some (sts ws) := by
  obtain ⟨e, _⟩ | ⟨es, es', e1, e2, hp⟩ := h
  · cases e
  · cases e1
    rw [e2, paired_str hp]
theorem loose_pairs {ps : List (Str × Str)} {d : PD} (h : looseR 2 (.list (ps.map pairD)) d) : ∃ es, seqOf (.py d) = some es ∧ Paired pairE es ps := by
  obtain ⟨e, _⟩ | ⟨es, es', e1, e2, hp⟩ := h
  · cases e
  · cases e1
    refine ⟨es', e2, ?_⟩
    clear e2
    induction ps generalizing es' with
    | nil => cases hp; exact .nil
    | cons p ps ih =>
      cases hp with
      | cons a t => exact .cons (loose_sts (ws := [p.1, p.2]) (j := 0) (by
          obtain ⟨e, _⟩ | ⟨_, _, e1, e2, hp⟩ := a
          · cases e
          · cases e1; exact .inr ⟨_, _, rfl, e2, hp⟩)) (ih _ t)
theorem mkDeb_perm {ns ns' : List Str} {ps ps' : List (Str × Str)} (h1 : ns'.Perm ns) (h2 : ps'.Perm ps) : mkDeb ns' ps' = mkDeb ns ps := by
  have e1 : sortS ns' = sortS ns := sort_unique' PyData.str inj_str h1
  have e2 : sortP ps' = sortP ps := sort_unique' pairD inj_pair h2
  unfold mkDeb
  rw [e1, e2]
theorem NP_perm {ns ns' : List Str} {ps ps' : List (Str × Str)} (I : NP ns ps) (h1 : ns'.Perm ns) (h2 : ps'.Perm ps) : NP ns' ps' :=
  ⟨h1.nodup_iff.mpr I.nd, h2.nodup_iff.mpr I.pd, fun p hp => ⟨h1.mem_iff.mpr (I.inn p (h2.mem_iff.mp hp)).1, h1.mem_iff.mpr (I.inn p (h2.mem_iff.mp hp)).2⟩, by rw [h1.length_eq]; exact I.l1, by rw [h2.length_eq]; exact I.l2⟩
theorem low_sts (ws : List Str) (h : ws.length ≤ 5000) : lowD 2 (.list (sts ws)) := .inr ⟨_, rfl, by simpa using h, fun e he => by
  obtain ⟨x, _, rfl⟩ := mem_sts.mp he
  exact .inl rfl⟩
theorem low_pairs (ps : List (Str × Str)) (h : ps.length ≤ 5000) : lowD 2 (.list (ps.map pairD)) := .inr ⟨_, rfl, by simpa using h, fun e he => by
  obtain ⟨p, _, rfl⟩ := List.mem_map.mp he
  refine .inr ⟨_, rfl, by simp, fun e he => ?_⟩
  simp only [List.mem_cons, List.not_mem_nil, or_false] at he
  rcases he with rfl | rfl <;> rfl⟩
theorem sc__law_z_made : FnScope ["_law_stream", "_law_some"] ["_law_stream", "_law_some"] (defScope (topS 48)) := ⟨rfl, rfl, rfl, by decide +kernel, rfl, by decide +kernel, by decide +kernel⟩
def pre_zm (ds : List DV) (n : Nat) : Prop := ∃ ns ps, NP ns ps ∧ NamesOk ns ∧ n < 900000 ∧ ds = [.strm, .py (.tuple [.list (sts ns), .list (ps.map pairD)])]
def post_zm (ds : List DV) (n : Nat) (d : DV) (n' : Nat) : Prop := n' ≤ n + 15000 ∧ ∃ ns ps, ds = [.strm, .py (.tuple [.list (sts ns), .list (ps.map pairD)])] ∧ d = .deb (mkDeb ns ps)
theorem ok_z_made (D : DefAt K mg "_law_z_made" (topS 48)) (DM : DebM P w K mg base c) (O_law_loose : OkD P w K mg base c "_law_loose" ["_law_stream", "_law_thing"] 4 (pre_loose 3) (post_loose 3)) (O_law_mixed : OkD P w K mg base c "_law_mixed" ["_law_stream", "_law_some"] 2 pre_mixed post_mixed) :
    OkD P w K mg base c "_law_z_made" ["_law_stream", "_law_some"] 8 pre_zm post_zm := by
  refine ok_def D (fun _ _ _ _ _ _ us hl => match us, hl with | [_, _], _ => rfl) sc__law_z_made (fun ds n h => ?_) (fun f cdv A outer s H E hr => ?_)
  · obtain ⟨_, _, _, _, _, rfl⟩ := h; rfl
  · refine ⟨_, (dss_one (ds_ret (de_debate DM hr (by decide) rfl (de_ok O_law_loose hr (by decide) rfl (da_cons (de_v 0 (pv 0)) (da_cons (de_ok O_law_mixed hr (by decide) rfl (da_cons (de_v 0 (pv 0)) (da_cons (de_ix (de_v 1 (pv 1)) de_int) da_nil))) da_nil))) (de_ok O_law_loose hr (by decide) rfl (da_cons (de_v 0 (pv 0)) (da_cons (de_ok O_law_mixed hr (by decide) rfl (da_cons (de_v 0 (pv 0)) (da_cons (de_ix (de_v 1 (pv 1)) de_int) da_nil))) da_nil)))))), fun ds n h => ?_⟩
    obtain ⟨ns, ps, I, hN, h1, rfl⟩ := h
    simp [startD, -Bool.exists_bool, -seqOf]
    have l1 := I.l1
    have l2 := I.l2
    have c2 : costL 2 = 5001 := rfl
    refine ⟨_, rfl, _, atI_0 _ _, ⟨_, _, rfl, by simp; omega, by simp; omega, rfl⟩, fun d n2 h => ?_⟩
    obtain ⟨d0, es, es', e, hs, rfl, hp, rfl⟩ := h
    simp only [List.cons.injEq, DV.py.injEq, and_true, true_and] at e
    subst e
    cases hs
    obtain ⟨ns', rfl, hp1⟩ := perm_sts hp
    have z1 := hp1.length_eq
    refine ⟨rfl, ⟨_, low_sts ns' (by omega), by simp; omega, rfl⟩, fun d n2 h => ?_⟩
    obtain ⟨d0, d1, e, rfl, hlo, hn2⟩ := h
    simp only [List.cons.injEq, DV.py.injEq, and_true, true_and] at e
    subst e
    simp at hn2
    refine ⟨_, rfl, _, atI_1 _ _ _, ⟨_, _, rfl, by simp; omega, by simp; omega, rfl⟩, fun d n3 h => ?_⟩
    obtain ⟨d0, es, es', e, hs, rfl, hp, rfl⟩ := h
    simp only [List.cons.injEq, DV.py.injEq, and_true, true_and] at e
    subst e
    cases hs
    obtain ⟨ps', rfl, hp2⟩ := perm_pairs hp
    have z2 := hp2.length_eq
    refine ⟨rfl, ⟨_, low_pairs ps' (by omega), by simp; omega, rfl⟩, fun d n3 h => ?_⟩
    obtain ⟨d0, d2, e, rfl, hlo2, hn3⟩ := h
    simp only [List.cons.injEq, DV.py.injEq, and_true, true_and] at e
    subst e
    simp at hn3
    obtain ⟨es, e2, pe⟩ := loose_pairs hlo2
    refine ⟨_, rfl, _, rfl, ns', ps', ⟨es, loose_sts (j := 1) hlo, NP_perm I hp1 hp2, ⟨fun x hx => hN.ok x (hp1.mem_iff.mp hx)⟩, e2, pe⟩, by omega, ns, ps, rfl, by rw [mkDeb_perm hp1 hp2]⟩
end
end K21

set_option Elab.async false
set_option linter.all false
set_option maxRecDepth 100000
set_option maxHeartbeats 4000000
/-! K21H3: things near to a ring. -/
namespace K21
open PySem PySem.Spec PyProof.Rows L2
theorem cons_ev {te : TED} {ts : TAD} {r : DEnv} {n : Nat} {v : DV} {P : List DV → DEnv → Nat → Prop} (h : Ev te r n v) (k : ts r n fun ds r1 n1 => P (v :: ds) r1 n1) : dCons te ts r n P := h _ k
theorem ev_c {x : PD} {r : DEnv} {n : Nat} : Ev (dC x) r n (.py x) := fun _ h => h
theorem ev_v {i : Nat} {d : DV} {r : DEnv} {n : Nat} (h : r[i]? = some (some (.dat d))) : Ev (dVar i) r n d := fun _ k => ⟨d, h, k⟩
theorem ev_l0 {r : DEnv} {n : Nat} : Ev (dLst dNil) r n (.py (.list [])) := fun _ k => ⟨[], rfl, Nat.zero_le _, k⟩
theorem ev_t0 {r : DEnv} {n : Nat} : Ev (dTup dNil) r n (.py (.tuple [])) := fun _ k => ⟨[], rfl, Nat.zero_le _, k⟩
theorem ev_l1 {te : TED} {x : PD} {r : DEnv} {n : Nat} (h : Ev te r n (.py x)) : Ev (dLst (dCons te dNil)) r n (.py (.list [x])) := fun _ k => h _ ⟨[x], rfl, by rw [szL]; simp, k⟩
def EvO (t : TOD) (r : DEnv) (n : Nat) (v : Option Int) : Prop := ∀ P, P v r n → t r n P
theorem evo_no {r : DEnv} {n : Nat} : EvO oNo r n none := fun _ k => k
theorem evo_some {te : TED} {i : Int} {r : DEnv} {n : Nat} (h : Ev te r n (.py (.int i))) : EvO (oSome te) r n (some i) := fun _ k => h _ ⟨i, rfl, k⟩
theorem cut_sts (ws : List Str) (lo hi : Option Int) : ∃ us : List Str, cutD (sts ws) lo hi = sts us ∧ us.length ≤ ws.length := by
  refine ⟨(ws.drop (HT.sIx ws.length 0 lo)).take (HT.sIx ws.length ws.length hi - HT.sIx ws.length 0 lo), ?_, ?_⟩
  · unfold cutD sts
    rw [List.length_map, List.map_take, List.map_drop]
  · rw [List.length_take, List.length_drop]
    omega
theorem ev_cut {te : TED} {t1 t2 : TOD} {ds : List PD} {l u : Option Int} {r : DEnv} {n : Nat} (h : Ev te r n (.py (.list ds))) (h1 : EvO t1 r n l) (h2 : EvO t2 r n u) : Ev (dCut te t1 t2) r n (.py (.list (cutD ds l u))) := fun _ k => h _ (h1 _ (h2 _ (.inl ⟨ds, rfl, k⟩)))
theorem ev_cat {ta tb : TED} {xs ys : List PD} {r : DEnv} {n : Nat} (h : Ev ta r n (.py (.list xs))) (h2 : Ev tb r n (.py (.list ys))) (hl : xs.length + ys.length ≤ sizeLine) : Ev (tOpD kCat ta tb) r n (.py (.list (xs ++ ys))) := fun _ k => h _ (h2 _ (by simp; exact ⟨hl, k⟩))
theorem ev_tuple {te : TED} {xs : List PD} {r : DEnv} {n : Nat} (h : Ev te r n (.py (.list xs))) : Ev (dCB kTuple (dCons te dNil)) r n (.py (.tuple xs)) := fun _ k => h _ ⟨_, _, rfl, rfl, k⟩
theorem ev_rev {te : TED} {xs : List PD} {r : DEnv} {n : Nat} (h : Ev te r n (.py (.list xs))) : Ev (dRev te) r n (.py (.list xs.reverse)) := fun _ k => h _ (by simp; exact k)
def fineD (d : PD) : Prop := ∀ es, seqOf (.py d) = some es → es.length ≤ 1000 ∧ ∀ e ∈ es, layD e = true ∧ e.depth ≤ 60
theorem fine_none {d : PD} (h : seqOf (.py d) = none) : fineD d := fun es e => by rw [h] at e; cases e
theorem fine_seq {d : PD} {es : List PD} (h : seqOf (.py d) = some es) (hl : es.length ≤ 1000) (he : ∀ e ∈ es, layD e = true ∧ e.depth ≤ 60) : fineD d := fun fs e => by
  rw [h] at e; cases e; exact ⟨hl, he⟩
def SO (xs : List PD) (k : Nat) : Prop := (∀ e ∈ xs, ∃ x, e = PyData.str x) ∧ xs.length ≤ k
theorem so_sts {ws : List Str} {k : Nat} (h : ws.length ≤ k) : SO (sts ws) k := ⟨fun e he => by obtain ⟨x, _, rfl⟩ := mem_sts.mp he; exact ⟨x, rfl⟩, by simpa using h⟩
theorem so_app {xs ys : List PD} {k j : Nat} (h1 : SO xs k) (h2 : SO ys j) : SO (xs ++ ys) (k + j) := ⟨fun e he => by
  rcases List.mem_append.mp he with z | z
  · exact h1.1 e z
  · exact h2.1 e z, by rw [List.length_append]; have := h1.2; have := h2.2; omega⟩
theorem so_cut {xs : List PD} {k : Nat} {l u : Option Int} (h : SO xs k) : SO (cutD xs l u) k := ⟨fun e he => h.1 e (List.mem_of_mem_drop (List.mem_of_mem_take he)), by
  unfold cutD
  rw [List.length_take, List.length_drop]
  have := h.2; omega⟩
theorem so_rev {xs : List PD} {k : Nat} (h : SO xs k) : SO xs.reverse k := ⟨fun e he => h.1 e (List.mem_reverse.mp he), by rw [List.length_reverse]; exact h.2⟩
theorem SO.fine {xs : List PD} {k : Nat} {d : PD} (h : SO xs k) (hk : k ≤ 1000) (hd : seqOf (.py d) = some xs) : fineD d := fine_seq hd (Nat.le_trans h.2 hk) fun e he => by
  obtain ⟨x, rfl⟩ := h.1 e he
  exact ⟨by simp [layD], by simp [PyData.depth]⟩
theorem ev_len {te : TED} {xs : List PD} {r : DEnv} {n : Nat} (h : Ev te r n (.py (.list xs))) : Ev (dCB kLen (dCons te dNil)) r n (.py (.int xs.length)) := fun _ k => h _ ⟨_, _, rfl, rfl, k⟩
theorem ev_neg {te : TED} {i : Int} {r : DEnv} {n : Nat} (h : Ev te r n (.py (.int i))) : Ev (dNeg te) r n (.py (.int (-i))) := fun _ k => h _ ⟨i, rfl, k⟩
theorem ev_add {ta tb : TED} {i j : Int} {r : DEnv} {n : Nat} (h : Ev ta r n (.py (.int i))) (h2 : Ev tb r n (.py (.int j))) : Ev (tOpD kAdd ta tb) r n (.py (.int (i + j))) := fun _ k => h _ (h2 _ (by simp; exact k))
theorem ev_rep {ta tb : TED} {xs : List PD} {j : Nat} {r : DEnv} {n : Nat} (h : Ev ta r n (.py (.list xs))) (h2 : Ev tb r n (.py (.int (j : Nat)))) (hj : j < 100) (hl : xs.length * j ≤ sizeLine) : Ev (tOpD kRep ta tb) r n (.py (.list (List.replicate j xs).flatten)) := fun _ k => h _ (h2 _ ⟨xs, j, rfl, rfl, by omega, by omega, by simpa using hl, by simpa using k⟩)
theorem fine_sts {d : PD} {ws : List Str} (h : seqOf (.py d) = some (sts ws)) (hl : ws.length ≤ 1000) : fineD d := fine_seq h (by simpa using hl) fun e he => by
  obtain ⟨x, _, rfl⟩ := mem_sts.mp he
  exact ⟨by simp [layD], by simp [PyData.depth]⟩
section
variable {P : Program} {w : World} {K : PySem.W.Frag} {mg : Str → Option Value} {base : Heap} {c : Cst}
theorem sc__law_things : FnScope ["_law_stream", "_law_names", "_law_told", "_law_found", "_law_at"] ["_law_stream", "_law_names", "_law_told"] (defScope (topS 74)) := ⟨rfl, rfl, rfl, by decide +kernel, rfl, by decide +kernel, by decide +kernel⟩
def pre_th (ds : List DV) (n : Nat) : Prop := ∃ ns t, ns.length ≤ 64 ∧ (t = PyData.none ∨ ∃ ws, ns ≠ [] ∧ ws ≠ [] ∧ ws.length ≤ 64 ∧ t = .list (sts ws)) ∧ n < 900000 ∧ ds = [.strm, .py (.list (sts ns)), .py t]
def post_th (ds : List DV) (n : Nat) (d : DV) (n' : Nat) : Prop := n' ≤ n + 2 ∧ ∃ es, d = .py (.list es) ∧ es.length ≤ 100 ∧ ∀ e ∈ es, fineD e
def thL (u1 u3 ns : List Str) : List PD := [PyData.none, .int 5, .str "b", .dict [], .bool true, .list [], .tuple [], .list [.none], .list [.bool true], .list [.list [.str "b"]], .list (sts u1), .list (sts u3), .list (sts ns), .str "abc"]
theorem ok_things (D : DefAt K mg "_law_things" (topS 74)) (B : Bn mg) (O_law_draw : OkD P w K mg base c "_law_draw" ["_law_stream", "_law_many"] 1 pre_draw post_draw) (O_law_pick : OkD P w K mg base c "_law_pick" ["_law_stream", "_law_some"] 2 pre_pick post_pick) :
    OkD P w K mg base c "_law_things" ["_law_stream", "_law_names", "_law_told"] 3 pre_th post_th := by
  refine ok_def D (fun _ _ _ _ _ _ us hl => match us, hl with | [_, _, _], _ => rfl) sc__law_things (fun ds n h => ?_) (fun f cdv A outer s H E hr => ?_)
  · obtain ⟨_, _, _, _, _, rfl⟩ := h; rfl
  · refine ⟨_, (dss_cons (ds_newL (i := 3) sc__law_things.nd rfl (Or.inl rfl) (da_cons de_non (da_cons de_int (da_cons de_str (da_cons de_d0 (da_cons de_bl (da_cons (de_lst da_nil) (da_cons (de_tup da_nil) (da_cons (de_lst (da_cons de_non da_nil)) (da_cons (de_lst (da_cons de_bl da_nil)) (da_cons (de_lst (da_cons (de_lst (da_cons de_str da_nil)) da_nil)) (da_cons (de_cut (de_v 1 (pv 1)) do_none (do_some de_int)) (da_cons (de_cut (de_v 1 (pv 1)) do_none (do_some de_int)) (da_cons (de_v 1 (pv 1)) (da_cons de_str da_nil))))))))))))))) (dss_cons (ds_if (dt_notN (de_v 2 (pv 2)) de_non) (dss_cons (ds_set (i := 4) sc__law_things.nd rfl (Or.inl rfl) (de_ok O_law_draw hr (by decide) rfl (da_cons (de_v 0 (pv 0)) (da_cons (de_len rfl B.len (de_v 2 (pv 2))) da_nil)))) (dss_cons (ds_expr (de_extend 3 (pv 3) (de_lst (da_cons (de_v 2 (pv 2)) (da_cons (de_tupleOf rfl B.tuple (de_cat (de_cut (de_v 2 (pv 2)) (do_some (de_v 4 (pv 4))) do_none) (de_cut (de_v 2 (pv 2)) do_none (do_some (de_v 4 (pv 4)))))) (da_cons (de_rev (de_v 2 (pv 2))) (da_cons (de_cat (de_v 2 (pv 2)) (de_v 2 (pv 2))) (da_cons (de_cut (de_v 2 (pv 2)) do_none (do_some (de_neg de_int))) (da_cons (de_cat (de_v 2 (pv 2)) (de_cut (de_v 2 (pv 2)) do_none (do_some de_int))) da_nil))))))))) (dss_one (ds_expr (de_extend 3 (pv 3) (de_lst (da_cons (de_cat (de_cat (de_cut (de_v 2 (pv 2)) do_none (do_some (de_v 4 (pv 4)))) (de_lst (da_cons (de_ok O_law_pick hr (by decide) rfl (da_cons (de_v 0 (pv 0)) (da_cons (de_v 1 (pv 1)) da_nil))) da_nil))) (de_cut (de_v 2 (pv 2)) (do_some (de_add (de_v 4 (pv 4)) de_int)) do_none)) (da_cons (de_rep (de_v 2 (pv 2)) de_int) da_nil)))))))) dss_nil) (dss_one (ds_ret (de_frz 3 (pv 3)))))), fun ds n h => ?_⟩
    obtain ⟨ns, t, h2, ht, h3, rfl⟩ := h
    simp only [startD, sSeq, sNewL]
    obtain ⟨u1, e1, l1⟩ := cut_sts ns none (some 1)
    obtain ⟨u3, e3, l3⟩ := cut_sts ns none (some 3)
    refine cons_ev ev_c (cons_ev ev_c (cons_ev ev_c (cons_ev ev_c (cons_ev ev_c (cons_ev ev_l0 (cons_ev ev_t0 (cons_ev (ev_l1 ev_c) (cons_ev (ev_l1 ev_c) (cons_ev (ev_l1 (ev_l1 ev_c))
      (cons_ev (ev_cut (ev_v rfl) evo_no (evo_some ev_c)) (cons_ev (ev_cut (ev_v rfl) evo_no (evo_some ev_c)) (cons_ev (ev_v rfl) (cons_ev ev_c ?_)))))))))))))
    rw [e1, e3]
    refine ⟨thL u1 u3 ns, rfl, by rw [szL]; show 14 ≤ 16777216; omega, ?_⟩
    have base : ∀ e ∈ thL u1 u3 ns, fineD e := by
      intro e he
      simp only [thL, List.mem_cons, List.not_mem_nil, or_false] at he
      rcases he with rfl | rfl | rfl | rfl | rfl | rfl | rfl | rfl | rfl | rfl | rfl | rfl | rfl | rfl
      · exact fine_none rfl
      · exact fine_none rfl
      · exact fine_none rfl
      · exact fine_none rfl
      · exact fine_none rfl
      · exact fine_sts (ws := []) rfl (by simp)
      · exact fine_sts (ws := []) rfl (by simp)
      · exact fine_seq rfl (by simp) (by simp [layD, PyData.depth])
      · exact fine_seq rfl (by simp) (by simp [layD, PyData.depth])
      · exact fine_seq rfl (by simp) (by simp [layD, layD.layDAll, PyData.depth, PyData.depthAll])
      · exact fine_sts rfl (by omega)
      · exact fine_sts rfl (by omega)
      · exact fine_sts rfl (by omega)
      · exact fine_none rfl
    have bl : (thL u1 u3 ns).length = 14 := rfl
    show sIf _ _ _ _ [some (.dat .strm), some (.dat (.py (.list (sts ns)))), some (.dat (.py t)), some (.mu (.lst (thL u1 u3 ns))), none] n
    generalize thL u1 u3 ns = L at base bl ⊢
    obtain rfl | ⟨ws, h1, hw, hl, rfl⟩ := ht
    · refine ⟨_, rfl, rfl, _, rfl, ?_⟩
      simp only [isNone, Bool.not_true, Bool.false_eq_true, if_false]
      exact ⟨_, _, rfl, rfl, rfl, by omega, L, rfl, by omega, base⟩
    · have hw0 : 0 < ws.length := List.length_pos_iff.mpr hw
      have so := so_sts (k := 64) hl
      refine ⟨_, rfl, rfl, _, rfl, ?_⟩
      simp only [isNone, Bool.not_false, if_true, sSeq, sSet, dCall, sExpr, dExtend, dLst]
      refine cons_ev (ev_v rfl) (cons_ev (ev_len (ev_v rfl)) ⟨rfl, ⟨(sts ws).length, by simpa using hw0, by simp; omega, by omega, rfl⟩, fun d n2 h => ?_⟩)
      obtain ⟨rfl, _, i, _, rfl, _⟩ := h
      have z1 := (so_cut (l := some (i : Int)) (u := none) so).2
      have z2 := (so_cut (l := none) (u := some (i : Int)) so).2
      have z3 := (so_cut (l := none) (u := some (1 : Int)) so).2
      have z4 := (so_cut (l := some ((i : Int) + 1)) (u := none) so).2
      have z5 : (sts ws).length ≤ 64 := so.2
      refine ⟨⟨L, rfl⟩, ?_⟩
      refine cons_ev (ev_v rfl) (cons_ev (ev_tuple (ev_cat (ev_cut (ev_v rfl) (evo_some (ev_v rfl)) evo_no) (ev_cut (ev_v rfl) evo_no (evo_some (ev_v rfl))) (by rw [szL]; omega))) (cons_ev (ev_rev (ev_v rfl)) (cons_ev (ev_cat (ev_v rfl) (ev_v rfl) (by rw [szL]; omega))
        (cons_ev (ev_cut (ev_v rfl) evo_no (evo_some (ev_neg ev_c))) (cons_ev (ev_cat (ev_v rfl) (ev_cut (ev_v rfl) evo_no (evo_some ev_c)) (by rw [szL]; omega)) ?_)))))
      refine ⟨_, rfl, by rw [szL]; show 6 ≤ 16777216; omega, L, _, rfl, rfl, by rw [szL, bl]; show 14 + 6 ≤ 16777216; omega, ?_⟩
      have base2 : ∀ e ∈ L ++ [PyData.list (sts ws), .tuple (cutD (sts ws) (some (i : Int)) none ++ cutD (sts ws) none (some (i : Int))), .list (sts ws).reverse, .list (sts ws ++ sts ws), .list (cutD (sts ws) none (some (-1))), .list (sts ws ++ cutD (sts ws) none (some 1))], fineD e := fun e he => by
        rcases List.mem_append.mp he with z | z
        · exact base e z
        · simp only [List.mem_cons, List.not_mem_nil, or_false] at z
          rcases z with rfl | rfl | rfl | rfl | rfl | rfl
          · exact so.fine (by omega) rfl
          · exact (so_app (so_cut so) (so_cut so)).fine (by omega) rfl
          · exact (so_rev so).fine (by omega) rfl
          · exact (so_app so so).fine (by omega) rfl
          · exact (so_cut so).fine (by omega) rfl
          · exact (so_app so (so_cut so)).fine (by omega) rfl
      have bl2 : (L ++ [PyData.list (sts ws), .tuple (cutD (sts ws) (some (i : Int)) none ++ cutD (sts ws) none (some (i : Int))), .list (sts ws).reverse, .list (sts ws ++ sts ws), .list (cutD (sts ws) none (some (-1))), .list (sts ws ++ cutD (sts ws) none (some 1))]).length = 20 := by
        rw [List.length_append, bl]; rfl
      refine ⟨⟨_, rfl⟩, ?_⟩
      simp only [dCons, tOpD]
      refine (ev_cut (ev_v rfl) evo_no (evo_some (ev_v rfl))) _ ?_
      revert base2 bl2
      generalize L ++ _ = L2
      intro base2 bl2
      simp only [dLst, dCons, dCall]
      refine ⟨_, rfl, _, rfl, rfl, ⟨sts ns, by simpa using List.length_pos_iff.mpr h1, by simp; omega, by omega, rfl⟩, fun d n2 h => ?_⟩
      obtain ⟨rfl, es, e, h7, rfl, hm⟩ := h
      simp only [List.map_cons, List.map_nil, argD, List.cons.injEq, DV.py.injEq, PyData.list.injEq, and_true, true_and] at h7
      subst h7
      obtain ⟨x, hx, rfl⟩ := mem_sts.mp hm
      refine ⟨[.str x], rfl, by rw [szL]; simp, _, _, rfl, rfl, by rw [szL]; simp; omega, ?_⟩
      refine (ev_cut (ev_v rfl) (evo_some (ev_add (ev_v rfl) ev_c)) evo_no) _ ?_
      refine ⟨_, _, rfl, rfl, by rw [szL]; simp; omega, ?_⟩
      refine ⟨_, rfl, sts ws, 3, rfl, rfl, by omega, by omega, by rw [szL]; show (sts ws).length * 3 ≤ _; omega, _, rfl, by rw [szL]; show 2 ≤ 16777216; omega, _, _, rfl, rfl, by rw [bl2, szL]; show 20 + 2 ≤ 16777216; omega, ?_⟩
      refine ⟨_, _, rfl, rfl, rfl, by omega, _, rfl, by rw [List.length_append, bl2]; show 20 + 2 ≤ 100; omega, fun e he => ?_⟩
      rcases List.mem_append.mp he with z | z
      · exact base2 e z
      · have so3 : SO (List.replicate 3 (sts ws)).flatten (64 + (64 + 64)) := by
          have : (List.replicate 3 (sts ws)).flatten = sts ws ++ (sts ws ++ sts ws) := by simp [List.replicate]
          rw [this]
          exact so_app so (so_app so so)
        simp only [List.mem_cons, List.not_mem_nil, or_false] at z
        rcases z with rfl | rfl
        · exact (so_app (so_app (so_cut so) (so_sts (ws := [x]) (k := 1) (by simp))) (so_cut so)).fine (by omega) rfl
        · exact so3.fine (by omega) rfl
end
end K21

set_option Elab.async false
set_option linter.all false
set_option maxRecDepth 100000
set_option maxHeartbeats 4000000
/-! K21H4: two things the same; a wide debate. -/
namespace K21
open PySem PySem.Spec PyProof.Rows L2
def atomD : PD → Prop
  | .none | .bool _ | .int _ | .str _ => True
  | _ => False
def sameD : Nat → PD → Prop
  | 0, d => atomD d
  | j + 1, d => atomD d ∨ ∃ es, seqOf (.py d) = some es ∧ es.length ≤ 1000 ∧ ∀ e ∈ es, sameD j e
def pre_same : Nat → List DV → Nat → Prop
  | 0, _, _ => False
  | j + 1, ds, _ => ∃ d, sameD j d ∧ ds = [.py d, .py d]
theorem zip_self : ∀ xs : List PD, zipD xs xs = xs.map fun x => .tuple [x, x]
  | [] => rfl
  | x :: xs => congrArg (PyData.tuple [x, x] :: ·) (zip_self xs)
theorem eqv_refl {d : PD} (h : d.canLay0 = true) : PyData.eqv d d = true := by
  exact PySem.SeqAt.eqv_refl d h
theorem eqvB (b : Bool) : PyData.eqv (.bool b) (.bool b) = true := eqv_refl (by simp [PyData.canLay0])
theorem eqvNN : PyData.eqv .none .none = true := eqv_refl (by simp [PyData.canLay0])
theorem eqvII (i : Int) : PyData.eqv (.int i) (.int i) = true := eqv_refl (by simp [PyData.canLay0])
section
variable {P : Program} {w : World} {K : PySem.W.Frag} {mg : Str → Option Value} {base : Heap} {c : Cst}
theorem sc__law_same : FnScope ["_law_found", "_law_due", "_law_x", "_law_y"] ["_law_found", "_law_due"] (defScope (topS 54)) := ⟨rfl, rfl, rfl, by decide +kernel, rfl, by decide +kernel, by decide +kernel⟩
theorem ok_same (D : DefAt K mg "_law_same" (topS 54)) (B : Bn mg) : ∀ j, OkD P w K mg base c "_law_same" ["_law_found", "_law_due"] (j + 1) (pre_same j) (pv1 f_true)
  | 0 => ok_void D (fun _ _ _ _ _ _ us hl => match us, hl with | [_, _], _ => rfl) sc__law_same
  | j + 1 => by
    have O_law_same := ok_same D B j
    refine ok_def D (fun _ _ _ _ _ _ us hl => match us, hl with | [_, _], _ => rfl) sc__law_same (fun ds n h => ?_) (fun f cdv A outer s H E hr => ?_)
    · obtain ⟨a, _, rfl⟩ := h; rfl
    · refine ⟨_, (dss_cons (ds_if (dt_val (de_isiT (ts := ["list", "tuple"]) rfl B.isinstance (de_v 1 (pv 1)) (.cons (t := "list") (pe_bltn rfl B.list (by decide +kernel) rfl) rfl (by simp [okTy]) (.cons (t := "tuple") (pe_bltn rfl B.tuple (by decide +kernel) rfl) rfl (by simp [okTy]) .nil)) (by decide))) (dss_cons (ds_if (DW.dt (dw_or (dt_ne (hu64 hr) (de_isi (t := "list") rfl B.isinstance (de_v 0 (pv 0)) rfl B.list (by decide +kernel) (by simp [okTy])) (de_isi (t := "list") rfl B.isinstance (de_v 1 (pv 1)) rfl B.list (by decide +kernel) (by simp [okTy]))) (dw_or1 (dt_ne (hu64 hr) (de_isi (t := "tuple") rfl B.isinstance (de_v 0 (pv 0)) rfl B.tuple (by decide +kernel) (by simp [okTy])) (de_isi (t := "tuple") rfl B.isinstance (de_v 1 (pv 1)) rfl B.tuple (by decide +kernel) (by simp [okTy])))))) (dss_one (ds_ret de_bl)) dss_nil) (dss_one (ds_ret (de_and (de_eq (hu64 hr) (de_len rfl B.len (de_v 0 (pv 0))) (de_len rfl B.len (de_v 1 (pv 1)))) (de_one (de_all rfl rfl B.all (de_lc (own := [("_law_x", 2), ("_law_y", 3)]) (.two 2 3) rfl sc__law_same.nd (di_zip rfl B.zip (de_v 0 (pv 0)) (de_v 1 (pv 1))) (blkOk_by (N := ["_law_found", "_law_due", "_law_x", "_law_y"]) (sc := defScope (topS 54)) (own := [("_law_x", 2), ("_law_y", 3)]) (by decide +kernel)) (fun _ _ _ _ _ => (pg_tup rfl (pgs_cons (pg_name (i := 2) sc__law_same.nd rfl (Or.inl rfl)) (pgs_cons (pg_name (i := 3) sc__law_same.nd rfl (Or.inl rfl)) pgs_nil)))) (fun _ _ _ _ _ => dts_nil) (fun _ _ _ _ _ => (de_ok O_law_same hr (by omega) rfl (da_cons (de_v 2 (pv 2)) (da_cons (de_v 3 (pv 3)) da_nil))))))))))) dss_nil) (dss_cons (ds_if (dt_val (de_isi (t := "dict") rfl B.isinstance (de_v 1 (pv 1)) rfl B.dict (by decide +kernel) (by simp [okTy]))) dss_never dss_nil) (dss_cons (ds_if (dt_val (de_isi (t := "int") rfl B.isinstance (de_v 1 (pv 1)) rfl B.int (by decide +kernel) (by simp [okTy]))) (dss_one (ds_ret (de_and (de_isi (t := "int") rfl B.isinstance (de_v 0 (pv 0)) rfl B.int (by decide +kernel) (by simp [okTy])) (de_and (de_eq (hu64 hr) (de_isi (t := "bool") rfl B.isinstance (de_v 0 (pv 0)) rfl B.bool (by decide +kernel) (by simp [okTy])) (de_isi (t := "bool") rfl B.isinstance (de_v 1 (pv 1)) rfl B.bool (by decide +kernel) (by simp [okTy]))) (de_one (de_eq (hu64 hr) (de_v 0 (pv 0)) (de_v 1 (pv 1)))))))) dss_nil) (dss_one (ds_ret (de_and (de_not (de_isiT (ts := ["int", "list", "tuple", "dict"]) rfl B.isinstance (de_v 0 (pv 0)) (.cons (t := "int") (pe_bltn rfl B.int (by decide +kernel) rfl) rfl (by simp [okTy]) (.cons (t := "list") (pe_bltn rfl B.list (by decide +kernel) rfl) rfl (by simp [okTy]) (.cons (t := "tuple") (pe_bltn rfl B.tuple (by decide +kernel) rfl) rfl (by simp [okTy]) (.cons (t := "dict") (pe_bltn rfl B.dict (by decide +kernel) rfl) rfl (by simp [okTy]) .nil)))) (by decide))) (de_one (de_eq (hu64 hr) (de_v 0 (pv 0)) (de_v 1 (pv 1)))))))))), fun ds n h => ?_⟩
      obtain ⟨d, h1, rfl⟩ := h
      simp [startD, -seqOf, isi_LT, -Bool.exists_bool]
      rw [eqvB, eqvB]
      have sub : ∀ {xs : List PD}, seqOf (.py d) = some xs → xs.length ≤ 1000 ∧ ∀ e ∈ xs, pre_same j [.py e, .py e] n := fun {xs} hs => by
        cases j with
        | zero => unfold sameD at h1; cases d <;> first | (cases h1; done) | cases hs
        | succ j =>
          rcases h1 with h1 | ⟨es, e1, e2, e3⟩
          · cases d <;> first | (cases h1; done) | cases hs
          · rw [hs] at e1; cases e1
            exact ⟨e2, fun e he => ⟨e, e3 e he, rfl⟩⟩
      have go : ∀ {xs : List PD}, seqOf (.py d) = some xs → (∀ K : List PD → DEnv → Nat → Prop, K (zipD xs xs) [some (.dat (.py d)), some (.dat (.py d)), none, none] n → iZipD (dVar 0) (dVar 1) [some (.dat (.py d)), some (.dat (.py d)), none, none] n K) →
          tLcD (Bnd.two 2 3) (iZipD (dVar 0) (dVar 1)) tYesD (dCall (pre_same j) (pv1 f_true) (dCons (dVar 2) (dCons (dVar 3) dNil))) [2, 3] [some (.dat (.py d)), some (.dat (.py d)), none, none] n fun d_1 r1 n1 =>
            ∃ bs, d_1 = .py (.list (List.map PyData.bool bs)) ∧ pv1 f_true [.py d, .py d] n (.py (.bool (bs.all fun b => b))) n1 := fun {xs} hs hz => by
        obtain ⟨h3, h4⟩ := sub hs
        refine lct2a xs id id (fun _ => .bool true) (fun K h => hz K (by rw [zip_self]; exact h)) (by simp) (by simp) (by rw [szL]; omega) rfl (fun x hx K hK => ?_) ?_
        · simp [pv1]
          exact ⟨h4 x hx, hK⟩
        · refine ⟨xs.map fun _ => true, by simp, ?_⟩
          simp [pv1]
      cases d with
      | list xs =>
        simp [eqvII]
        exact go rfl (fun K h => by simp; exact ⟨xs, xs, ⟨rfl, rfl⟩, h⟩)
      | tuple xs =>
        simp [eqvII]
        exact go rfl (fun K h => by simp; exact ⟨xs, xs, ⟨rfl, rfl⟩, h⟩)
      | dict kv => cases j <;> simp [sameD, atomD] at h1
      | none => simp [isiD, subTy, tyName, pv1, eqvNN]
      | bool b => simp [isiD, subTy, tyName, pv1, eqvB]
      | int i => simp [isiD, subTy, tyName, pv1, eqvII, eqvB]
      | str x =>
        have : PyData.eqv (.str x) (.str x) = true := by rw [eqv_str]; simp
        simp [isiD, subTy, tyName, pv1, this]
def numN (k : Nat) : Str := "n" ++ Str.ofString (toString ((k : Nat) : Int))
def numNs (k : Nat) : List Str := (List.range k).map numN
theorem numN_ok : ∀ k, k < 41 → nameB (numN k) = true := by decide +kernel
theorem numNs_nd : (numNs 41).Nodup := by decide +kernel
theorem numNs_len (k : Nat) : (numNs k).length = k := by simp [numNs]
theorem numNs_sub {k : Nat} (h : k ≤ 41) : (numNs k).Sublist (numNs 41) := by
  unfold numNs
  refine List.Sublist.map _ ?_
  have : List.range k = (List.range 41).take k := by rw [List.take_range, Nat.min_eq_left h]
  rw [this]
  exact List.take_sublist _ _
theorem numNs_get {k i : Nat} (h : i < k) : atI (sts (numNs k)) ((i : Nat) : Int) = some (.str (numN i)) := atI_nat (by simp [numNs, h])
theorem numN_mem {k i : Nat} (h : i < k) : numN i ∈ numNs k := by simp [numNs]; exact ⟨i, h, rfl⟩
def unInt : PD → Nat
  | .int i => i.toNat
  | _ => 0
theorem perm_ints {es : List PD} {ws : List Nat} (h : es.Perm (ws.map fun i => PyData.int (i : Nat))) : ∃ js : List Nat, es = js.map (fun i => PyData.int (i : Nat)) ∧ js.Perm ws := perm_un (g := unInt) (fun _ => rfl) h
theorem at_prev {ws : List PD} {k : Nat} (hk : k < ws.length) : ∃ e ∈ ws, atI ws ((k : Int) - 1) = some e := by
  cases k with
  | zero =>
    refine ⟨ws[ws.length - 1], List.getElem_mem _, ?_⟩
    rw [show ((0 : Nat) : Int) - 1 = -1 by omega, atI_last hk]
    exact List.getElem?_eq_getElem _
  | succ k =>
    refine ⟨ws[k], List.getElem_mem _, ?_⟩
    rw [show ((k + 1 : Nat) : Int) - 1 = (k : Nat) by omega]
    exact atI_nat (List.getElem?_eq_getElem _)
theorem sc__law_twice : FnScope ["_law_stream", "_law_many", "_law_k", "_law_names", "_law_pairs", "_law_far", "_law_one", "_law_other"] ["_law_stream"] (defScope (topS 75)) := ⟨rfl, rfl, rfl, by decide +kernel, rfl, by decide +kernel, by decide +kernel⟩
def pre_tw (ds : List DV) (n : Nat) : Prop := n < 500000 ∧ ds = [.strm]
def post_tw (ds : List DV) (n : Nat) (d : DV) (n' : Nat) : Prop := n' ≤ n + 1000 ∧ ∃ (ns : List Str) (ps : List (Str × Str)), NP ns ps ∧ NamesOk ns ∧ ns.length ≤ 40 ∧ ns ≠ [] ∧ d = .py (.tuple [.list (sts ns), .list (ps.map pairD)])
theorem ok_twice (D : DefAt K mg "_law_twice" (topS 75)) (B : Bn mg) (O_law_draw : OkD P w K mg base c "_law_draw" ["_law_stream", "_law_many"] 1 pre_draw post_draw) (O_law_mixed : OkD P w K mg base c "_law_mixed" ["_law_stream", "_law_some"] 2 pre_mixed post_mixed)
    (O_law_each_once : OkD P w K mg base c "_law_each_once" ["_law_things_here"] 1 pre_ps (pv1 f_each_once)) : OkD P w K mg base c "_law_twice" ["_law_stream"] 3 pre_tw post_tw := by
  refine ok_def D (fun _ _ _ _ _ _ us hl => match us, hl with | [_], _ => rfl) sc__law_twice (fun ds n h => ?_) (fun f cdv A outer s H E hr => ?_)
  · obtain ⟨_, rfl⟩ := h; rfl
  · refine ⟨_, (dss_cons (ds_set (i := 1) sc__law_twice.nd rfl (Or.inl rfl) (de_add de_int (de_ok O_law_draw hr (by decide) rfl (da_cons (de_v 0 (pv 0)) (da_cons de_int da_nil))))) (dss_cons (ds_parL (par2_G (i := 3) (j := 4) (pg_tup rfl (pgs_cons (pg_name (i := 3) sc__law_twice.nd rfl (Or.inr rfl)) (pgs_cons (pg_name (i := 4) sc__law_twice.nd rfl (Or.inl rfl)) pgs_nil)))) (de_lc (own := [("_law_k", 2)]) (.one 2) rfl sc__law_twice.nd (di_rng rfl B.range (de_v 1 (pv 1))) (blkOk_by (N := ["_law_stream", "_law_many", "_law_k", "_law_names", "_law_pairs", "_law_far", "_law_one", "_law_other"]) (sc := defScope (topS 75)) (own := [("_law_k", 2)]) (by decide +kernel)) (fun _ _ _ _ _ => (pg_name (i := 2) sc__law_twice.nd rfl (Or.inl rfl))) (fun _ _ _ _ _ => dts_nil) (fun _ _ _ _ _ => (de_catS de_str (de_strOf rfl B.str (de_v 2 (pv 2)))))) da_nil) (dss_cons (ds_for (.one 2) PassesOwn.never rfl (di_rng rfl B.range (de_mul de_int (de_v 1 (pv 1)))) (pg_name (i := 2) sc__law_twice.nd rfl (Or.inl rfl)) (dss_cons (ds_par (par2_S (i := 6) (j := 7) rfl sc__law_twice.nd rfl rfl (by decide) rfl rfl rfl) (de_ok O_law_draw hr (by decide) rfl (da_cons (de_v 0 (pv 0)) (da_cons (de_v 1 (pv 1)) da_nil))) (de_ok O_law_draw hr (by decide) rfl (da_cons (de_v 0 (pv 0)) (da_cons (de_v 1 (pv 1)) da_nil)))) (dss_one (ds_expr (de_extend 4 (pv 4) (de_if (dt_eq (hu64 hr) (de_mod (de_intOf rfl B.int (de_add (de_v 6 (pv 6)) (de_v 7 (pv 7)))) de_int) de_int) (de_lst (da_cons (de_tup (da_cons (de_ix (de_v 3 (pv 3)) (de_v 6 (pv 6))) (da_cons (de_ix (de_v 3 (pv 3)) (de_v 7 (pv 7))) da_nil))) da_nil)) (de_lst da_nil))))))) (dss_cons (ds_if (dt_eq (hu64 hr) (de_ok O_law_draw hr (by decide) rfl (da_cons (de_v 0 (pv 0)) (da_cons de_int da_nil))) de_int) (dss_cons (ds_set (i := 5) sc__law_twice.nd rfl (Or.inr rfl) (de_cut (de_ok O_law_mixed hr (by decide) rfl (da_cons (de_v 0 (pv 0)) (da_cons (de_listRg rfl rfl B.list rfl B.range (de_v 1 (pv 1))) da_nil))) do_none (do_some (de_add de_int (de_mul de_int (de_ok O_law_draw hr (by decide) rfl (da_cons (de_v 0 (pv 0)) (da_cons de_int da_nil)))))))) (dss_one (ds_expr (de_extend 4 (pv 4) (de_lc (own := [("_law_k", 2)]) (.one 2) rfl sc__law_twice.nd (di_rng rfl B.range (de_len rfl B.len (de_v 5 (pv 5)))) (blkOk_by (N := ["_law_stream", "_law_many", "_law_k", "_law_names", "_law_pairs", "_law_far", "_law_one", "_law_other"]) (sc := defScope (topS 75)) (own := [("_law_k", 2)]) (by decide +kernel)) (fun _ _ _ _ _ => (pg_name (i := 2) sc__law_twice.nd rfl (Or.inl rfl))) (fun _ _ _ _ _ => dts_nil) (fun _ _ _ _ _ => (de_tup (da_cons (de_ix (de_v 3 (pv 3)) (de_ix (de_v 5 (pv 5)) (de_sub (de_v 2 (pv 2)) de_int))) (da_cons (de_ix (de_v 3 (pv 3)) (de_ix (de_v 5 (pv 5)) (de_v 2 (pv 2)))) da_nil))))))))) dss_nil) (dss_one (ds_ret (de_tup (da_cons (de_v 3 (pv 3)) (da_cons (de_ok O_law_each_once hr (by decide) rfl (da_cons (de_frz 4 (pv 4)) da_nil)) da_nil))))))))), fun ds n h => ?_⟩
    obtain ⟨h1, rfl⟩ := h
    simp [startD, -seqOf, -Bool.exists_bool]
    refine ⟨⟨33, by omega, by omega, by omega, rfl⟩, fun d n2 h => ?_⟩
    obtain ⟨rfl, _, x, e, rfl, hx⟩ := h
    simp at e
    have hx' : x < 33 := by omega
    refine ⟨_, rfl, ?_⟩
    obtain ⟨m, hm, hm1, hm2⟩ : ∃ m : Nat, (8 + (x : Int)) = (m : Int) ∧ 8 ≤ m ∧ m ≤ 40 := ⟨8 + x, by omega, by omega, by omega⟩
    rw [hm]
    refine lcta (List.range m) (fun i => .int (i : Nat)) (fun i => .str (numN i)) (fun KK h => ?_) (by simp) (by rw [szL]; simp; omega) rfl (fun i hi KK hK => ?_) ?_
    · simp
      exact ⟨by omega, h⟩
    · have hi' : i < m := List.mem_range.mp hi
      have h0 := numN_ok i (by omega)
      simp only [nameB, Bool.and_eq_true, decide_eq_true_eq] at h0
      have h2 : (numN i).length ≤ 12 := h0.1.1.2
      simp
      refine ⟨?_, ?_, hK⟩
      · have : i.log2 ≤ i := Nat.log2_le_self i
        omega
      · have e2 : (Str.ofString "n").length + (Str.ofString ((i : Nat) : Int).repr).length = (numN i).length := by
          unfold numN
          exact (strLen_append _ _).symm
        rw [e2, szL]; omega
    · have hn : PyData.list (List.map (fun i => PyData.str (numN i)) (List.range m)) = .list (sts (numNs m)) := by simp [numNs, sts]
      rw [hn]
      simp only [List.set_cons_succ, List.set_cons_zero]
      refine for_t (List.range (2 * m)) (fun i => .int (i : Nat)) (fun k r n' => ∃ ps : List (Str × Str), (∃ a b d, r = [some (.dat .strm), some (.dat (.py (.int (m : Nat)))), a, some (.dat (.py (.list (sts (numNs m))))), some (.mu (.lst (ps.map pairD))), none, b, d]) ∧ ps.length ≤ k ∧ (∀ p ∈ ps, p.1 ∈ numNs m ∧ p.2 ∈ numNs m) ∧ n' ≤ n + 1 + 2 * k)
        (fun KK h => ?_) ⟨[], ⟨_, _, _, rfl⟩, by simp, by simp, by omega⟩ (fun k i r n' hi hI => ?_) (fun r n' hI => ?_)
      · simp
        refine ⟨.inl (by omega), by omega, by omega, ?_⟩
        rw [show (2 * (m : Int)).toNat = 2 * m by omega]
        exact h
      · obtain ⟨ps, ⟨a, b, z, rfl⟩, l1, l2, l3⟩ := hI
        have hk : k < 2 * m := by simpa using (List.getElem?_eq_some_iff.mp hi).1
        simp [-Bool.exists_bool, -seqOf]
        refine ⟨⟨m, by omega, by omega, by omega, rfl⟩, fun d n3 h => ?_⟩
        obtain ⟨rfl, _, i1, e, rfl, hi1⟩ := h
        simp at e
        have hi1' : i1 < m := by omega
        refine ⟨⟨m, by omega, by omega, by omega, rfl⟩, fun d n3 h => ?_⟩
        obtain ⟨rfl, _, i2, e, rfl, hi2⟩ := h
        simp at e
        have hi2' : i2 < m := by omega
        have a1 := numNs_get hi1'
        have a2 := numNs_get hi2'
        refine ⟨_, rfl, _, rfl, ?_⟩
        split
        · refine ⟨_, rfl, _, rfl, _, a1, _, rfl, _, rfl, _, a2, by rw [szL]; omega, by rw [szL]; omega, by rw [szL]; omega, ps ++ [(numN i1, numN i2)], by simp [pairD], by simp; omega, fun p q hp => ?_, by omega⟩
          rcases List.mem_append.mp hp with y | y
          · exact l2 _ y
          · simp only [List.mem_cons, List.not_mem_nil, or_false, Prod.mk.injEq] at y
            obtain ⟨rfl, rfl⟩ := y
            exact ⟨numN_mem hi1', numN_mem hi2'⟩
        · exact ⟨by rw [szL]; omega, ps, rfl, by omega, fun p q hp => l2 _ hp, by omega⟩
      · obtain ⟨ps, ⟨a, b, z, rfl⟩, l1, l2, l3⟩ := hI
        rw [List.length_range] at l1 l3
        simp [-Bool.exists_bool, -seqOf]
        refine ⟨⟨2, by omega, by omega, by omega, rfl⟩, fun d n3 h => ?_⟩
        obtain ⟨rfl, _, i1, e, rfl, hi1⟩ := h
        refine ⟨_, rfl, by simp, ?_⟩
        have fin : ∀ (qs : List (Str × Str)) (n4 : Nat), qs.length ≤ 200 → (∀ p ∈ qs, p.1 ∈ numNs m ∧ p.2 ∈ numNs m) → n4 ≤ n + 1000 → pre_ps [.py (.list (qs.map pairD))] n4 ∧ ∀ (d : DV) (n5 : Nat), pv1 f_each_once [.py (.list (qs.map pairD))] n4 d n5 →
            ∃ ps, (∃ a, pys [d] = some a ∧ PyData.list (sts (numNs m)) :: a = ps) ∧ ps.length ≤ sizeLine ∧ post_tw [DV.strm] n (.py (.tuple ps)) n5 := fun qs n4 hl hm hn => by
          refine ⟨⟨qs, by omega, rfl⟩, fun d n5 h => ?_⟩
          obtain ⟨rfl, rfl⟩ := h
          obtain ⟨o1, o2, o3⟩ := onceP_ok _ qs rfl
          have sub := numNs_sub (k := m) (by omega)
          refine ⟨[.list (sts (numNs m)), .list ((onceP qs).map pairD)], ⟨[.list ((onceP qs).map pairD)], by simp, rfl⟩, by rw [szL]; simp, hn, numNs m, onceP qs, ⟨numNs_nd.sublist sub, o1, fun p hp => hm p ((o3 p).mp hp), by rw [numNs_len]; omega, by omega⟩, ⟨fun x hx => ?_⟩, by rw [numNs_len]; exact hm2, fun z => ?_, rfl⟩
          · obtain ⟨i, hi, rfl⟩ := List.mem_map.mp hx
            exact numN_ok i (by have := List.mem_range.mp hi; omega)
          · have := numNs_len m
            rw [z] at this
            simp at this; omega
        rw [eqvI]
        split
        · refine ⟨m, rfl, by omega, ⟨_, _, rfl, by rw [lenR]; omega, by rw [lenR]; omega, rfl⟩, fun d n4 h => ?_⟩
          obtain ⟨d0, es, es', e2, hs, rfl, hp, rfl⟩ := h
          simp only [List.cons.injEq, DV.py.injEq, and_true, true_and] at e2
          subst e2
          cases hs
          rw [lenR]
          obtain ⟨js, rfl, hj⟩ := perm_ints hp
          refine ⟨⟨4, by omega, by omega, by omega, rfl⟩, fun d n5 h => ?_⟩
          obtain ⟨rfl, _, x2, e2, rfl, hx2⟩ := h
          simp at e2
          refine ⟨_, rfl, .inl (by omega), .inl ⟨_, rfl, ?_⟩⟩
          rw [show (1 + 2 * (x2 : Int)) = ((1 + 2 * x2 : Nat) : Int) by omega, cut_to, ← List.map_take]
          have hfar : ∀ j ∈ js.take (1 + 2 * x2), j < m := fun j hj2 => List.mem_range.mp (hj.mem_iff.mp (List.mem_of_mem_take hj2))
          have hfl : (js.take (1 + 2 * x2)).length ≤ 7 := by rw [List.length_take]; omega
          generalize js.take (1 + 2 * x2) = far at hfar hfl
          generalize hN5 : n' + 1 + m + 1 = n5
          have hN6 : n5 ≤ n + 999 := by omega
          refine lcN (rngD far.length) (fun k acc r n'' => n'' = n5 ∧ r = [some (.dat .strm), some (.dat (.py (.int (m : Nat)))), none, some (.dat (.py (.list (sts (numNs m))))), some (.mu (.lst (ps.map pairD))), some (.dat (.py (.list (far.map fun i => PyData.int (i : Nat))))), b, z] ∧ ∃ qs : List (Str × Str), acc = qs.map pairD ∧ qs.length = k ∧ ∀ p ∈ qs, p.1 ∈ numNs m ∧ p.2 ∈ numNs m)
            (fun KK h => ?_) ⟨rfl, rfl, [], rfl, rfl, by simp⟩ (fun k d acc r n'' hd hI => ?_) (fun acc r n'' hI => ?_)
          · simp
            exact ⟨by omega, by simpa [rngD] using h⟩
          · obtain ⟨rfl, rfl, qs, rfl, rfl, hm3⟩ := hI
            obtain ⟨hk, rfl⟩ := rngD_get hd
            obtain ⟨e1, he1, ha1⟩ := at_prev (ws := far.map fun i => PyData.int (i : Nat)) (k := qs.length) (by simpa using hk)
            obtain ⟨j1, hj1, rfl⟩ := List.mem_map.mp he1
            have ha2 : atI (far.map fun i => PyData.int (i : Nat)) ((qs.length : Nat) : Int) = some (.int (far[qs.length] : Nat)) := atI_nat (by simp [hk])
            have b1 := numNs_get (hfar j1 hj1)
            have b2 := numNs_get (hfar _ (List.getElem_mem hk))
            simp [-Bool.exists_bool]
            refine ⟨_, ha1, _, rfl, _, b1, _, ha2, _, rfl, _, b2, by rw [szL]; omega, by rw [szL]; omega, rfl, qs ++ [(numN j1, numN far[qs.length])], by simp [pairD], by simp, fun p q hp => ?_⟩
            rcases List.mem_append.mp hp with y | y
            · exact hm3 _ y
            · simp only [List.mem_cons, List.not_mem_nil, or_false, Prod.mk.injEq] at y
              obtain ⟨rfl, rfl⟩ := y
              exact ⟨numN_mem (hfar j1 hj1), numN_mem (hfar _ (List.getElem_mem hk))⟩
          · obtain ⟨rfl, rfl, qs, rfl, hq, hm3⟩ := hI
            simp [rngD] at hq
            have f2 := fin (ps ++ qs) n'' (by simp; omega) (fun p hp => (List.mem_append.mp hp).elim (l2 p) (hm3 p)) (by omega)
            simp [-Bool.exists_bool, -seqOf]
            refine ⟨by rw [szL]; omega, ?_⟩
            simpa using f2
        · exact fin ps _ (by omega) l2 (by omega)
end
end K21

set_option Elab.async false
set_option linter.all false
set_option maxRecDepth 100000
set_option maxHeartbeats 4000000
/-! K21H5: repr of a list of names. -/
namespace K21
open PySem PySem.Spec PyProof.Rows L2
abbrev small (c : Nat) : Prop := c < 0x110000
theorem chr_small (c : Char) : small c.toNat := by
  have h := c.valid
  have : c.toNat = c.val.toNat := rfl
  rcases h with h | h <;> (show c.toNat < 1114112; omega)
theorem hex_small {c : Nat} : ∀ e ∈ (Nat.toDigits 16 c).map Char.toNat, small e := fun e he => by
  obtain ⟨d, _, rfl⟩ := List.mem_map.mp he
  exact chr_small d
theorem rep_small {k e : Nat} (h : e ∈ List.replicate k 48) : small e := by
  rw [List.eq_of_mem_replicate h]; decide
theorem reprChar_small {q c : Nat} (h : small c) : ∀ e ∈ Builtin.Str.reprChar q c, small e := by
  intro e he
  unfold Builtin.Str.reprChar at he
  simp only at he
  have s92 : small 92 := by decide
  repeat' split at he
  all_goals simp only [List.mem_append, List.mem_cons, List.not_mem_nil, or_false] at he
  · rcases he with rfl | rfl <;> assumption
  · rcases he with rfl | rfl <;> decide
  · rcases he with rfl | rfl <;> decide
  · rcases he with rfl | rfl <;> decide
  · rw [he]; exact h
  all_goals
    rcases he with (rfl | rfl) | he | he
    · decide
    · decide
    · exact rep_small he
    · exact hex_small e he
theorem fold_small {q : Nat} : ∀ (l : List Nat) (acc : Array Nat), (∀ c ∈ l, small c) → (∀ e ∈ acc, small e) → ∀ e ∈ l.foldl (fun out c => out ++ (Builtin.Str.reprChar q c).toArray) acc, small e
  | [], acc, _, h => h
  | c :: l, acc, hl, h => by
    rw [List.foldl_cons]
    refine fold_small l _ (fun d hd => hl d (List.mem_cons_of_mem _ hd)) fun e he => ?_
    rcases Array.mem_append.mp he with z | z
    · exact h e z
    · exact reprChar_small (hl c List.mem_cons_self) e (by simpa using z)
theorem strOk_mem' {x : Str} : PyData.strOk x = true ↔ ∀ e ∈ x.cps, small e := by
  unfold PyData.strOk
  rw [Array.all_eq_true']
  simp
theorem strOk_reprText {x : Str} (h : PyData.strOk x = true) : PyData.strOk (reprText x) = true := by
  rw [strOk_mem'] at h ⊢
  have q1 : small (reprQuote x) := by
    unfold reprQuote
    split <;> decide
  intro e he
  unfold reprText at he
  rcases Array.mem_push.mp he with z | rfl
  · rw [← Array.foldl_toList] at z
    exact fold_small _ _ (fun c hc => h c (by simpa using hc)) (by simpa using q1) e z
  · exact q1
theorem textFrom_ok : ∀ (ts : List Str) (k : Nat) (acc : Str), PyData.strOk acc = true → (∀ t ∈ ts, PyData.strOk t = true) → PyData.strOk (textFrom k acc ts) = true
  | [], _, _, h, _ => h
  | t :: ts, k, acc, h, ht => by
    refine textFrom_ok ts (k + 1) _ (strOk_app (strOk_app h ?_) (ht t List.mem_cons_self)) fun t hm => ht t (List.mem_cons_of_mem _ hm)
    split <;> decide +kernel
theorem textFrom_le : ∀ (ts : List Str) (k : Nat) (acc : Str), (textFrom k acc ts).length ≤ acc.length + piled ts
  | [], _, acc => by show acc.length ≤ _; omega
  | t :: ts, k, acc => by
    have h := textFrom_le ts (k + 1) (acc ++ (if k > 0 then ", " else "" : String) ++ t)
    have e : (acc ++ (if k > 0 then ", " else "" : String) ++ t).length = acc.length + (if k > 0 then 2 else 0) + t.length := by
      rw [strLen_append, strLen_append]
      split <;> rfl
    rw [e] at h
    rw [piled_cons]
    show (textFrom (k + 1) _ ts).length ≤ _
    have : (if k > 0 then 2 else 0 : Nat) ≤ 2 := by split <;> omega
    omega
def fitW (ws : List Str) : Prop := ws.length ≤ 64 ∧ ∀ x ∈ ws, x.length ≤ 12
def showW : Option (List Str) → Str
  | none => "None"
  | some ws => (PyData.list (sts ws)).shown
theorem shown_sts (ws : List Str) : (PyData.list (sts ws)).shown = textFrom 0 "[" (ws.map reprText) ++ "]" := by
  simp only [PyData.shown, listText, PyData.shownAll_strs, sts]
theorem shown_len {ws : List Str} (h : fitW ws) (ho : ∀ x ∈ ws, PyData.strOk x = true) : (PyData.list (sts ws)).shown.length ≤ sizeLine := by
  rw [shown_sts, strLen_append]
  have h1 := textFrom_le (ws.map reprText) 0 "["
  have h2 : piled (ws.map reprText) ≤ 124 * ws.length := by
    have key : ∀ us : List Str, (∀ x ∈ us, x.length ≤ 12 ∧ PyData.strOk x = true) → piled (us.map reprText) ≤ 124 * us.length := by
      intro us
      induction us with
      | nil => intro _; exact Nat.le_refl _
      | cons u us ih =>
        intro hu
        have i := ih fun x hx => hu x (List.mem_cons_of_mem _ hx)
        obtain ⟨u1, u2⟩ := hu u List.mem_cons_self
        have r := StrLaws.reprText_len u fun c hc => by
          have := (strOk_mem'.mp u2) c (by simpa using hc)
          have e : (16 : Nat) ^ 8 = 4294967296 := by decide
          rw [e]
          omega
        rw [List.map_cons, piled_cons, List.length_cons]
        omega
    exact key ws fun x hx => ⟨h.2 x hx, ho x hx⟩
  have h3 := h.1
  have e1 : (Str.ofString "[").length = 1 := by decide +kernel
  have e2 : (Str.ofString "]").length = 1 := by decide +kernel
  rw [szL]
  omega
theorem strOk_showW {o : Option (List Str)} (h : ∀ ws, o = some ws → ∀ x ∈ ws, PyData.strOk x = true) : PyData.strOk (showW o) = true := by
  cases o with
  | none => decide +kernel
  | some ws =>
    show PyData.strOk (PyData.list (sts ws)).shown = true
    rw [shown_sts]
    refine strOk_app (textFrom_ok _ _ _ (by decide +kernel) fun t ht => ?_) (by decide +kernel)
    obtain ⟨x, hx, rfl⟩ := List.mem_map.mp ht
    exact strOk_reprText (h ws rfl x hx)
def rRepr (K : PySem.W.Frag) : List V → Hp → VK → Prop := fun xs H Q => (xs = [.non] ∧ Q (.str (showW none)) H) ∨ ∃ a ws, xs = [.ref a] ∧ SqL K H a (ws.map V.str) ∧ fitW ws ∧ (∀ x ∈ ws, PyData.strOk x = true) ∧ Q (.str (showW (some ws))) H
theorem readsAll_strs {h : Heap} : ∀ {ws : List Str} {its : List Value}, Vals (ws.map V.str) its → ReadsAll h its (sts ws) []
  | [], _, r => by cases r; exact .nil
  | w :: ws, _, r => by
    cases r with
    | cons r1 r2 =>
      obtain ⟨t, rfl⟩ := r1
      exact ReadsAll.cons (as := []) (bs := []) (.str w t) (readsAll_strs r2)
theorem noDict_sts : ∀ ws : List Str, PyData.hasDictAll (sts ws) = false
  | [] => by simp only [sts, List.map_nil, PyData.hasDictAll]
  | w :: ws => by
    have := noDict_sts ws
    simp only [sts, List.map_cons, PyData.hasDictAll, PyData.hasDict, Bool.false_or] at this ⊢
    exact this
theorem call_reprW {X : Cx} (hg : X.A.guards = some []) (hu : X.A.units + 64 < cLine) : CallR X (.builtin "repr") (rRepr X.K) := by
  intro pins s σ H xs us Q I r h
  rcases h with ⟨rfl, q⟩ | ⟨a, ws, rfl, hs, hf, ho, q⟩
  · obtain ⟨u, rfl, rfl⟩ := vals1 r
    exact PySem.P.repr_of_none ⟨.str _, H, I.tok _, ⟨_, rfl⟩, q⟩
  · obtain ⟨u, rfl, e⟩ := vals1 r
    obtain rfl : u = Value.ref a := e
    obtain ⟨its, rv, ⟨o, n, e1, e2, e3, e4⟩, hl⟩ := I.list hs
    have hd : (PyData.list (sts ws)).depth = 1 := by simp only [PyData.depth, depth_sts]
    refine repr_of_reads' (h₀ := s.heap) (.list e1 e2 e4 (readsAll_strs rv)) (by simp only [PyData.showable]; exact PyData.showableAll_strs ws) (fun z => ?_) hg (by rw [hd]; omega) (fun b o e => e) (fun h' t tk hk => ?_) (shown_len hf ho)
    · have : (PyData.list (sts ws)).hasDict = false := by
        simp only [PyData.hasDict]
        exact noDict_sts ws
      rw [this] at z; cases z
    · exact ⟨.str _, H, I.kept hk, ⟨_, rfl⟩, q⟩
def okRp : DV → Option (Option (List Str)) → Prop
  | .py .none, some none => True
  | .py (.list ds), some (some ws) => ds = sts ws
  | .nw us, some (some ws) => us = ws
  | _, _ => False
def kRepr : KC := fun ds r n P => ∃ d o, ds = [d] ∧ okRp d (some o) ∧ (∀ ws, o = some ws → fitW ws) ∧ P (.py (.str (showW o))) r n
theorem dz_sts_ok {F : Hp} {xs : List V} {ws : List Str} (h : DzAll F xs (sts ws)) : ∀ x ∈ ws, PyData.strOk x = true := fun x hx => by
  obtain ⟨i, hi, e⟩ := List.getElem_of_mem hx
  obtain ⟨v, _, hv⟩ := h.get (i := i) (d := .str x) (by rw [← e]; simp [sts, hi])
  exact Dz.strOk hv
theorem cd_repr {K : PySem.W.Frag} {c : Cst} : CallD c (rRepr K) kRepr := fun g F r n s H vs ds P Q _ R rs h k => by
  obtain ⟨d, o, rfl, ho, hf, p⟩ := h
  cases rs with
  | cons a t =>
    cases t
    cases d with
    | py d =>
      cases d with
      | none =>
        cases o with
        | none => cases a; exact .inl ⟨rfl, k.py (.refl F) R (.str _ (strOk_showW (by simp))) p⟩
        | some ws => exact ho.elim
      | list ds =>
        cases o with
        | none => exact ho.elim
        | some ws =>
          obtain rfl : ds = sts ws := ho
          cases a with
          | lst e h =>
            have ok := dz_sts_ok h
            have := h.of_strs
            subst this
            exact .inr ⟨_, ws, rfl, .of (R.bas.und.lst e), hf ws rfl, ok, k.py (.refl F) R (.str _ (strOk_showW fun us e => by cases e; exact ok)) p⟩
      | _ => cases o <;> exact ho.elim
    | nw us =>
      cases o with
      | none => exact ho.elim
      | some ws =>
        obtain rfl : us = ws := ho
        obtain ⟨q, rfl, e1, _, e2⟩ := a
        exact .inr ⟨_, us, rfl, .of (R.bas.und.lst e1), hf us rfl, e2, k.py (.refl F) R (.str _ (strOk_showW fun us e => by cases e; exact e2)) p⟩
    | _ => cases o <;> exact ho.elim
theorem de_repr {X : Cx} {c : Cst} {a : Expr} {te : TED} {p pos : Pos} (hgu : X.A.guards = some []) (hu : X.A.units + 64 < cLine) (hg : Gl X "repr") (hm : X.mg "repr" = none) (ha : DE c X a te) (hs : starEach [a] X.env = (false, eval a X.env) :: starEach [] X.env := by rfl) (hpl : (backTo pos (starEach [] X.env)).any (·.1) = false := by rfl) :
    DE c X (.Call (.Name "repr" p) [a] [] pos) (dCB kRepr (dCons te dNil)) := de_callB (call_reprW hgu hu) cd_repr hg hm (by decide +kernel) (da_cons ha da_nil hs) (he := hs) (hpl := hpl)
end K21

set_option Elab.async false
set_option linter.all false
set_option maxRecDepth 100000
set_option maxHeartbeats 4000000
/-! K21H6: defs that are only called where no repr is under way. -/
namespace K21
open PySem PySem.Spec PyProof.Rows L2
/-- a promise kept wherever nothing is being shown -/
structure FnG (P : Program) (w : World) (K : PySem.W.Frag) (mg : Str → Option Value) (base : Heap) (k : Nat) (f : Addr) (fd : FuncData) (ps : List Str) (sp : Sp) : Prop where
  len : ∀ vs H Q E, sp vs H Q E → vs.length = ps.length
  run : ∀ (A : Around) (outer : List Env) (s : Shared) (H : Hp) (args : Args) (us : List Value) (vs : List V) (Q : VK) (E : XK), Room k A → A.guards = some [] → Env0 P w K mg base A outer s H → BindsTo s fd args (ps.zip us) → Vals vs us → sp vs H Q E →
    codeAny (model P w) A (.call (.ref f) args) (CR CX0 outer P w H s Q E) s
section
variable {P : Program} {w : World} {K : PySem.W.Frag} {mg : Str → Option Value} {base : Heap} {c : Cst} {pre : List DV → Nat → Prop} {post : List DV → Nat → DV → Nat → Prop}
theorem fng_of {x qual : Str} {st : Stmt} {f : Addr} {oc kV doc pm cdv ct : Value} {od an : Option Addr} {osl : Array (Option Value)} {N ps : List Str} {k : Nat} {sp : Sp} (lk : K.lookup f = some ⟨oc, od, .func (PySem.W.fnOf x qual (defArgs st) (defBody st) (defScope st) .none kV doc pm an cdv ct), osl⟩)
    (hcd : PySem.W.codeIn K cdv qual = true) (S : FnScope N ps (defScope st)) (len : ∀ vs H Q E, sp vs H Q E → vs.length = ps.length)
    (hbody : ∀ (A : Around) (outer : List Env) (s : Shared) (H : Hp) (vs : List V) (Q : VK) (E : XK), Room k (A.deeper (envOfC qual (defScope st) s.heap.objs.size f cdv)) → A.guards = some [] → sp vs H Q E →
      ∃ t, PSs (cxOf CX0 P w K mg base N qual (defScope st) f cdv A outer s H E).nox (defBody st) t ∧ t { nx := fun _ H' => Q .non H', rt := Q } (L2.start N vs) H) :
    FnG P w K mg base (k + 1) f (PySem.W.fnOf x qual (defArgs st) (defBody st) (defScope st) .none kV doc pm an cdv ct) ps sp := by
  constructor
  · exact len
  intro A outer s H args us vs Q E room gd env bt rv hsp
  obtain ⟨t, walk, want⟩ := hbody A outer s H vs Q E (room.deeper _) gd hsp
  have n1 := len _ _ _ _ hsp
  have stays : ∀ b o, base.get? b = some o → s.heap.get? b = some o := fun b o e => (env.bs b o e).1
  have inK : K.In s.heap := env.mod.kin.keeps stays
  have kinds : ∀ y ∈ ps.zip us, (defScope st).names.lookup y.1 = some .local ∨ ((defScope st).names.lookup y.1 = some .cell ∧ ((cellsFrom (s.heap.objs.size + 1) (defScope st).names []).lookup y.1).isSome = true) := by
    rintro ⟨n, v⟩ hy
    have hn : n ∈ ps := (List.of_mem_zip hy).1
    exact (S.par n hn).imp id fun q => ⟨q, PySem.W.cellsFrom_some _ _ _ (.inl q)⟩
  apply codeAny_call_function room.depth (inK _ _ lk) rfl S.co S.gen rfl (PySem.W.codeRec_of inK hcd)
  apply bt
  refine wpAny_newFunctionEnv_cells S.kind kinds fun e' he s1 x1 => ?_
  cases he
  refine ⟨(env.mod.nolimit.keeps stays).keeps x1.toInCall.keep, codeAny_func ?_⟩
  have I : Inv (cxOf CX0 P w K mg base N qual (defScope st) f cdv A outer s H E) [] (L2.start N vs) H s1 := inv_start S room.hd env n1 rv x1
  refine wpAny_mono (walk.nox.run [] s1 (L2.start N vs) H _ I want) (fun fl s2 h2 => ?_) fun _ _ h2 => h2
  cases fl with
  | ret u =>
    obtain ⟨v, σ', H', J, r1, q⟩ := h2
    exact ⟨v, H', J.os, J.bare, J.base, J.hok, r1, q⟩
  | next =>
    obtain ⟨σ', H', J, q⟩ := h2
    exact ⟨.non, H', J.os, J.bare, J.base, J.hok, rfl, q⟩
  | brk =>
    obtain ⟨_, _, _, q⟩ := h2
    exact q.elim
  | cont =>
    obtain ⟨_, _, _, q⟩ := h2
    exact q.elim
theorem run_fng {X : Cx} {k : Nat} {f : Addr} {fd : FuncData} {ps : List Str} {sp : Sp} {E : XK} {pins : List (Addr × Obj)} {σ : L2.St} {H : Hp} {s : Shared} {Q : VK} {us : List Value} {vs : List V} (F : FnG X.prog X.w X.K X.mg X.base k f fd ps sp) (hr : Room k X.A) (gd : X.A.guards = some []) (hb : Binds X.K fd ps [])
    (I : Inv X pins σ H s) (r : Vals vs us) (h : sp vs H Q E) : wpAny (model X.prog X.w) X.A (call (.ref f) us) (EP X pins σ Q) X.xe s := by
  have hl : (us ++ ([] : List Value)).length = ps.length := by rw [List.append_nil, ← r.length]; exact F.len _ _ _ _ h
  have b := hb s us I.kIn hl
  rw [List.append_nil] at b
  refine wpAny_call (codeAny_mono (F.run X.A X.stack s H ⟨us, []⟩ us vs Q E hr gd I.env0 b r h) fun r s' hq => ?_)
  cases r with
  | error e => exact hq.elim
  | ok fl =>
    cases fl with
    | ret u => exact I.after hq
    | _ => exact hq.elim
structure OkG (P : Program) (w : World) (K : PySem.W.Frag) (mg : Str → Option Value) (base : Heap) (c : Cst) (x : Str) (ps : List Str) (k : Nat) (pre : List DV → Nat → Prop) (post : List DV → Nat → DV → Nat → Prop) : Prop where
  ex : ∃ f fd, mg x = some (.ref f) ∧ PySem.W.keepIn K (.ref f) = true ∧ Binds K fd ps [] ∧ FnG P w K mg base k f fd ps (prom c pre post)
theorem de_okG {X : Cx} {k j : Nat} {ps : List Str} {x : Str} {p pos : Pos} {e : Expr} {es : List Expr} {tas : TAD} (O : OkG X.prog X.w X.K X.mg X.base c x ps k pre post) (hr : Room j X.A) (gd : X.A.guards = some []) (hj : k ≤ j) (hg : Gl X x) (ha : DA c X (e :: es) tas) (hdb : (x == ("__debug__" : Str)) = false := by decide)
    (he : starEach (e :: es) X.env = (false, eval e X.env) :: starEach es X.env := by rfl) (hpl : (backTo pos (starEach es X.env)).any (·.1) = false := by rfl) : DE c X (.Call (.Name x p) (e :: es) [] pos) (dCall pre post tas) := by
  obtain ⟨f, fd, m, kp, b, F⟩ := O.ex
  refine ⟨fun g hgc => PE.imp (t := tCall (prom c pre post) [] E0 (liftA g tas)) ⟨fun pins s σ H Q I h => ?_⟩ fun _ _ _ h => lift_call g hgc h⟩
  refine wpAny_Call_Name_kw (ld_glob I hg m ?_ hdb)
  refine PySem.W.callWith_K (h₀ := X.base) I.ok.mod.kin kp (thn ((ha.run g hgc).run pos pins s σ H _ I h) fun us s1 ⟨vs, H1, I1, r, q⟩ => ⟨I1.kIn, ?_⟩) he hpl
  have q' : prom c pre post (vs ++ []) H1 Q E0 := q
  rw [List.append_nil] at q'
  exact run_fng F (hr.mono hj) gd b I1 r q'
theorem ok_defTG {x : Str} {st : Stmt} {N ps : List Str} {k : Nat} (D : DefAt K mg x st)
    (hb : ∀ (kV doc pm : Value) (an : Option Addr) (cdv ct : Value) (us : List Value), us.length = ps.length → bindArgs (PySem.W.fnOf x x (defArgs st) (defBody st) (defScope st) .none kV doc pm an cdv ct) ⟨us, []⟩ = pure (ps.zip us))
    (S : FnScope N ps (defScope st)) (hlen : ∀ ds n, pre ds n → ds.length = ps.length)
    (hbody : ∀ (f : Addr) (cdv : Value) (A : Around) (outer : List Env) (s : Shared) (H : Hp) (E : XK), Room k (A.deeper (envOfC x (defScope st) s.heap.objs.size f cdv)) → A.guards = some [] →
      ∃ t, DSst c (cxOf CX0 P w K mg base N x (defScope st) f cdv A outer s H E).nox (defBody st) t ∧ ∀ ds n, pre ds n → t { nx := fun _ n' => post ds n (.py .none) n', rt := fun d n' => post ds n d n' } (startD N (ds.map ancD)) n) :
    OkG P w K mg base c x ps (k + 1) pre post := by
  obtain ⟨f, fd, F, m⟩ := D.ex
  obtain ⟨oc, od, kV, doc, pm, an, cdv, ct, osl, e, lk, hcd⟩ := F.ex
  have bd := F.binds hb
  have kp := F.kp
  subst e
  refine ⟨f, _, m, kp, bd, fng_of lk hcd S (fun vs H Q E h => ?_) (fun A outer s H vs Q E hr gd h => ?_)⟩
  · obtain ⟨g, ds, n, _, _, _, _, rs, hp, _⟩ := h
    rw [Paired.length rs]; exact hlen ds n hp
  · obtain ⟨g, ds, n, hg, hH, hA, b, rs, hp, q⟩ := h
    obtain ⟨t, ht, hb⟩ := hbody f cdv A outer s H E hr gd
    have rs' : RepAll g g.F0 vs (ds.map ancD) := by
      have : ∀ {vs : List V} {ds : List DV}, RepAll g g.F0 vs ds → RepAll g g.F0 vs (ds.map ancD) := by
        intro vs ds h
        induction h with
        | nil => exact .nil
        | @cons v d _ _ a t ih =>
          refine .cons ?_ ih
          cases d with
          | py d => exact ⟨by rw [hA]; exact .refl _, by rw [hA]; exact a⟩
          | deb d => exact ⟨by rw [hA]; exact .refl _, by rw [hA]; exact a⟩
          | _ => exact a
      exact this rs
    exact ⟨_, ht.run g hg (by rw [hA]; exact .refl _), g.F0, startD N (ds.map ancD), n, _, rel_start b rs', hb ds n hp, ⟨fun F' r' n' s' H' R hx => q F' (.py .none) n' .non H' R.bas Dz.non rfl hx, fun F' d n' v H' b' rv pl hx => q F' d n' v H' b' rv pl hx, fun _ _ _ _ _ _ z => z.elim, fun _ _ _ _ _ _ z => z.elim⟩⟩
end
end K21

set_option Elab.async false
set_option linter.all false
set_option maxRecDepth 100000
set_option maxHeartbeats 4000000
/-! K21H7: a loop over a list whose elements stand for good. -/
namespace K21
open PySem PySem.Spec PyProof.Rows L2
def sForL (i : Nat) (te : TED) (t : TSD) : TSD := fun E r n => te r n fun d r1 n1 => ∃ ds, d = .py (.list ds) ∧ ∃ I : Nat → DEnv → Nat → Prop, I 0 (r1.map enterA) n1 ∧
  (∀ k d r n, ds[k]? = some d → I k r n → t { E with nx := I (k + 1), ct := I (k + 1), bk := fun _ _ => False } (r.set i (some (.dat (.ancP d)))) n) ∧ ∀ r n, I ds.length r n → E.nx (r.map fun _ => none) n
section
variable {X : Cx} {c : Cst} {tg iter : Expr} {body : List Stmt} {te : TED} {t : TSD} {pos : Pos}
theorem dst_forL (i : Nat) (hp : PassesOwn (model X.prog X.w) X.A X.env X.xe) (hc : X.calm = true) (h : DE c X iter te) (hb : PG X tg (gName i)) (ht : DSst c X body t) (hs : ∀ x, foldedSetIterable iter X.env x = pure x := by intro _; rfl) : DSt c X (.For tg iter body [] pos) (sForL i te t) := ⟨fun g hg _ =>
  PS.imp (ps_for hp hc (pi_list (h.run g hg)) hb ht.lifted hs) fun D s H ⟨F, r, n, E, R, p, k⟩ => ⟨F, r, n, _, R, p, fun F1 d r1 n1 v H1 sb R1 rv ⟨ds, ed, I, h0, hs, hd⟩ => by
    subst ed
    cases rv with
    | @lst a xs _ e1 e2 =>
    have hlen := e2.length
    have J0 := R1.loop
    refine ⟨a, rfl, ⟨xs, .of (R1.bas.und.lst e1)⟩, fun i m s' H' => m = ds.length - i ∧ i ≤ ds.length ∧ ∃ F r' n, Rel (g.loop F1 H1) F r' n s' H' ∧ I i r' n, ⟨ds.length, by simp, Nat.zero_le _, F1, _, n1, J0, h0⟩, ?_⟩
    rintro j m s' H ⟨rfl, hj, F2, r2, n2, R2, hI⟩
    have hq : SqL X.K H a xs := .of (R2.bas.und.lst (R2.bas.gro _ _ e1))
    by_cases hlt : j < ds.length
    · refine .inr ⟨⟨xs, xs[j]'(by omega), hq, List.getElem?_eq_getElem _⟩, fun s'' H' => ∃ F r n, Rel (g.loop F1 H1) F r n s'' H' ∧ I (j + 1) r n, fun s'' H' h => ⟨ds.length - (j + 1), by omega, rfl, hlt, h⟩, fun x H' y => ?_⟩
      obtain ⟨rfl, y⟩ := y
      have hdi : ds[j]? = some ds[j] := List.getElem?_eq_getElem hlt
      obtain ⟨v, h1, h2⟩ := e2.get hdi
      have y2 := y xs hq
      rw [h1] at y2
      cases y2
      have R4 := R2.set (i := i) (d := .ancP ds[j]) (v := x) ⟨R2.bas.gro, h2⟩
      exact ⟨g.loop F1 H1, hg, SubH.refl _, F2, _, n2, _, R4, hs j _ r2 n2 hdi hI, ⟨fun F4 r4 n4 s4 H4 R5 q => ⟨F4, r4, n4, R5, q⟩, fun F4 d n4 v H4 b4 rv pl q => k.rt0 F4 d n4 v H4 (R1.loopB b4) (R1.loopR b4 rv pl) pl q, fun F4 r4 n4 s4 H4 R5 q => q.elim, fun F4 r4 n4 s4 H4 R5 q => ⟨F4, r4, n4, R5, q⟩⟩⟩
    · have e : j = ds.length := by omega
      subst e
      have none' : ∀ {l : Nat} {z : Slot}, (r2.map fun _ => (none : Option Slot))[l]? = some (some z) → False := fun {l z} ez => by
        rw [List.getElem?_map] at ez
        cases h : r2[l]? with
        | none => rw [h] at ez; cases ez
        | some w => rw [h] at ez; cases ez
      exact .inl ⟨⟨xs, hq, by omega⟩, k.nx0 F2 _ n2 s' H ⟨R1.loopB R2.bas, by rw [List.length_map]; exact R2.len, fun l z ez => (none' ez).elim, fun l _ m _ _ _ e1 => (none' e1).elim⟩ (hd r2 n2 hI)⟩⟩⟩
end
end K21

set_option Elab.async false
set_option linter.all false
set_option maxRecDepth 100000
set_option maxHeartbeats 4000000
/-! K21H8: odd rings told right. -/
namespace K21
open PySem PySem.Spec PyProof.Rows L2
theorem pairs_inj {a b : List (Str × Str)} (h : a.map pairD = b.map pairD) : a = b := by
  have : ∀ l : List (Str × Str), (l.map pairD).map unPair = l := fun l => by
    rw [List.map_map]
    conv => rhs; rw [← List.map_id l]
    exact List.map_congr_left fun ⟨_, _⟩ _ => rfl
  rw [← this a, h, this b]
section
variable {P : Program} {w : World} {K : PySem.W.Frag} {mg : Str → Option Value} {base : Heap} {c : Cst}
theorem sc__law_rings_right : FnScope ["_law_stream", "_law_made", "_law_names", "_law_pairs", "_law_told", "_law_thing", "_law_kept"] ["_law_stream", "_law_made", "_law_names", "_law_pairs"] (defScope (topS 76)) := ⟨rfl, rfl, rfl, by decide +kernel, rfl, by decide +kernel, by decide +kernel⟩
def pre_rr (ds : List DV) (n : Nat) : Prop := ∃ ns ps, NP ns ps ∧ NamesOk ns ∧ n < 800000 ∧ ds = [.strm, .deb (mkDeb ns ps), .py (.list (sts ns)), .py (.list (ps.map pairD))]
def post_rr (ds : List DV) (n : Nat) (d : DV) (n' : Nat) : Prop := n' ≤ n + 2 ∧ d = .py (.bool true)
def rrBody : TSD := sIf (tNotD (tBD (dCall (pre_same 5) (pv1 f_true) (dCons (dCall pre_ring post_ring (dCons (dWk (dVar 1)) (dCons (dWk (dVar 5)) dNil))) (dCons (dCall pre_isr post_isr (dCons (dWk (dVar 2)) (dCons (dWk (dVar 3)) (dCons (dWk (dVar 5)) dNil)))) dNil)))))
  (sRet (dC (PyData.bool false))) sNext
def rrEnv (ns : List Str) (ps : List (Str × Str)) (z : DV) (a b : Option Slot) : DEnv := [some (.dat .strm), some (.dat (.ancB (mkDeb ns ps))), some (.dat (.ancP (.list (sts ns)))), some (.dat (.ancP (.list (ps.map pairD)))), some (.dat z), a, b]
theorem rr_loop {E : EndsD} {ns : List Str} {ps : List (Str × Str)} {z : DV} {es : List PD} {n1 : Nat} (I : NP ns ps) (hf : ∀ e ∈ es, fineD e) (hE : ∀ a, E.nx (rrEnv ns ps z a none) n1) :
    ∃ I : Nat → DEnv → Nat → Prop, I 0 (rrEnv ns ps z none none) n1 ∧ (∀ k d r n, es[k]? = some d → I k r n → (Bnd.one 5).bind d r fun r => rrBody { nx := I (k + 1), rt := E.rt, bk := E.nx, ct := I (k + 1) } r n) ∧ ∀ r n, I es.length r n → E.nx r n := by
  refine ⟨fun _ r n => n = n1 ∧ ∃ a, r = rrEnv ns ps z a none, ⟨rfl, none, rfl⟩, fun k d r n hd hI => ?_, fun r n hI => ?_⟩
  · obtain ⟨rfl, a, rfl⟩ := hI
    have fd := hf d (List.mem_of_getElem? hd)
    simp [rrEnv, Bnd.bind, rrBody, -Bool.exists_bool, -seqOf]
    refine ⟨⟨_, d, I.ok, fd, rfl⟩, fun x n2 h => ?_⟩
    obtain ⟨rfl, D', t', b, e, rfl, hb⟩ := h
    simp only [List.cons.injEq, DV.deb.injEq, DV.py.injEq, and_true] at e
    obtain ⟨rfl, rfl⟩ := e
    refine ⟨⟨ns, ps, d, fd, rfl⟩, fun x n2 h => ?_⟩
    obtain ⟨rfl, ns', ps', t', b', e, rfl, hb'⟩ := h
    simp only [List.cons.injEq, DV.py.injEq, PyData.list.injEq, and_true] at e
    obtain ⟨e1, e2, rfl⟩ := e
    have e1 := sts_inj e1
    have e2 := pairs_inj e2
    subst e1 e2
    have hbb : b' = b := by
      have : b' = true ↔ b = true := by rw [hb, hb', ring_deb]
      cases b <;> cases b' <;> simp at this ⊢
    subst hbb
    simp [-Bool.exists_bool]
    refine ⟨⟨.bool b', .inl trivial, rfl⟩, fun x n2 h => ?_⟩
    obtain ⟨rfl, rfl⟩ := h
    simp [-Bool.exists_bool]
  · obtain ⟨rfl, a, rfl⟩ := hI
    exact hE a
def rrFin : TSD := sRet (tOpD kEq (dCB kRepr (dCons (dCallN pre_or post_or (dCons (dDeb (dWk (dVar 2)) (dWk (dVar 3))) dNil)) dNil)) (dWk (dVar 6)))
theorem rr_fin {E : EndsD} {ns : List Str} {ps : List (Str × Str)} {o : Option (List Str)} {s0 s1 s4 s5 : Option Slot} {n : Nat} (I : NP ns ps) (hN : NamesOk ns) (ho : o = ringF (mkDeb ns ps)) (hf : ∀ ws, o = some ws → fitW ws) (hE : E.rt (.py (.bool true)) n) :
    rrFin E [s0, s1, some (.dat (.ancP (.list (sts ns)))), some (.dat (.ancP (.list (ps.map pairD)))), s4, s5, some (.dat (.py (.str (showW o))))] n := by
  refine ⟨_, rfl, _, rfl, _, _, ns, ps, ps.map pairD, rfl, rfl, ⟨rfl, I, hN, rfl, pairE_pairD ps⟩, rfl, ⟨_, I.ok, rfl⟩, fun d n4 h => ?_⟩
  obtain ⟨rfl, D', o', e, rfl, ho'⟩ := h
  simp only [List.map_cons, List.map_nil, argA, List.cons.injEq, DV.oldB.injEq, and_true] at e
  subst e
  have : o' = o := by rw [ho, ho']
  subst this
  refine ⟨o', rfl, _, o', rfl, ?_, hf, ?_⟩
  · cases o' with
    | none => trivial
    | some ws => exact rfl
  · refine ⟨_, rfl, ?_⟩
    simp [eqv_str]
    exact hE
theorem told_fit {ns ws : List Str} {ps : List (Str × Str)} (I : NP ns ps) (hN : NamesOk ns) (h : RingP ns ps (.list (sts ws))) : fitW ws ∧ ws ≠ [] ∧ ns ≠ [] ∧ ws.length ≤ 64 := by
  obtain ⟨us, e, h2, h3, h4, h5⟩ := h
  have : us = ws := by
    rcases e with e | e
    · simp only [PyData.list.injEq] at e
      exact (sts_inj e).symm
    · cases e
  subst this
  have hl : us.length ≤ 64 := by
    have := (sub_sort I.nd h3 h4).length_le
    rw [len_sortS, len_sortS] at this
    have := I.l1
    omega
  have h0 : us ≠ [] := fun z => by rw [z] at h2; simp at h2
  refine ⟨⟨hl, fun x hx => ?_⟩, h0, fun z => ?_, hl⟩
  · have := hN.ok x (h4 x hx)
    simp only [nameB, Bool.and_eq_true, decide_eq_true_eq] at this
    exact this.1.1.2
  · obtain ⟨u, hu⟩ := List.exists_mem_of_ne_nil us h0
    have := h4 u hu
    rw [z] at this
    cases this
theorem ok_rings_right (D : DefAt K mg "_law_rings_right" (topS 76)) (B : Bn mg) (DM : DebM P w K mg base c) (O_odd_ring : OkA P w K mg base c "odd_ring" ["debate"] 2 pre_or post_or) (O_law_has_odd : OkD P w K mg base c "_law_has_odd" ["_law_names", "_law_pairs"] 2 pre_np post_ho)
    (O_law_things : OkD P w K mg base c "_law_things" ["_law_stream", "_law_names", "_law_told"] 3 pre_th post_th) (O_law_same : OkD P w K mg base c "_law_same" ["_law_found", "_law_due"] 6 (pre_same 5) (pv1 f_true)) (O_is_odd_ring : OkD P w K mg base c "is_odd_ring" ["debate", "thing"] 2 pre_ring post_ring)
    (O_law_is_ring : OkD P w K mg base c "_law_is_ring" ["_law_names", "_law_pairs", "_law_thing"] 1 pre_isr post_isr) : OkG P w K mg base c "_law_rings_right" ["_law_stream", "_law_made", "_law_names", "_law_pairs"] 8 pre_rr post_rr := by
  refine ok_defTG D (fun _ _ _ _ _ _ us hl => match us, hl with | [_, _, _, _], _ => rfl) sc__law_rings_right (fun ds n h => ?_) (fun f cdv A outer s H E hr gd => ?_)
  · obtain ⟨_, _, _, _, _, rfl⟩ := h; rfl
  · refine ⟨_, (dsst_cons (dst_of (ds_set (i := 4) sc__law_rings_right.nd rfl (Or.inl rfl) (de_callN O_odd_ring hr (by decide) rfl (da_cons (de_wk (de_v 1 (pv 1))) da_nil)))) (dsst_cons (dst_of (ds_if (dt_ne (hu64 hr) (de_notN (de_wk (de_v 4 (pv 4))) de_non) (de_ok O_law_has_odd hr (by decide) rfl (da_cons (de_wk (de_v 2 (pv 2))) (da_cons (de_wk (de_v 3 (pv 3))) da_nil)))) (dss_one (ds_ret de_bl)) dss_nil)) (dsst_cons (dst_of (ds_for (.one 5) PassesOwn.never rfl (di_lst (de_ok O_law_things hr (by decide) rfl (da_cons (de_wk (de_v 0 (pv 0))) (da_cons (de_wk (de_v 2 (pv 2))) (da_cons (de_wk (de_v 4 (pv 4))) da_nil))))) (pg_name (i := 5) sc__law_rings_right.nd rfl (Or.inl rfl)) (dss_one (ds_if (dt_not (dt_val (de_ok O_law_same hr (by decide) rfl (da_cons (de_ok O_is_odd_ring hr (by decide) rfl (da_cons (de_wk (de_v 1 (pv 1))) (da_cons (de_wk (de_v 5 (pv 5))) da_nil))) (da_cons (de_ok O_law_is_ring hr (by decide) rfl (da_cons (de_wk (de_v 2 (pv 2))) (da_cons (de_wk (de_v 3 (pv 3))) (da_cons (de_wk (de_v 5 (pv 5))) da_nil)))) da_nil))))) (dss_one (ds_ret de_bl)) dss_nil)))) (dsst_cons (dst_of (ds_set (i := 6) sc__law_rings_right.nd rfl (Or.inl rfl) (de_repr gd (hu64 hr) rfl B.repr (de_wk (de_v 4 (pv 4)))))) (dsst_cons (dst_if (dt_notN (de_wk (de_v 4 (pv 4))) de_non) (dsst_cons (dst_of (ds_if (DW.dt (dw_or (dt_not (dt_val (de_isi (t := "list") rfl B.isinstance (de_wk (de_v 4 (pv 4))) rfl B.list (by decide +kernel) (by simp [okTy])))) (dw_or1 (dt_not (dt_val (de_ok O_law_is_ring hr (by decide) rfl (da_cons (de_wk (de_v 2 (pv 2))) (da_cons (de_wk (de_v 3 (pv 3))) (da_cons (de_wk (de_v 4 (pv 4))) da_nil))))))))) (dss_one (ds_ret de_bl)) dss_nil)) (dsst_one (dst_late 4 (pv 4)))) (dsst_of dss_nil)) (dsst_one (dst_of (ds_ret (de_eq (hu64 hr) (de_repr gd (hu64 hr) rfl B.repr (de_callN O_odd_ring hr (by decide) rfl (da_cons (de_debate DM hr (by decide) rfl (de_wk (de_v 2 (pv 2))) (de_wk (de_v 3 (pv 3)))) da_nil))) (de_wk (de_v 6 (pv 6)))))))))))), fun ds n h => ?_⟩
    obtain ⟨ns, ps, I, hN, hn, rfl⟩ := h
    simp [startD, -Bool.exists_bool, -seqOf]
    refine ⟨⟨_, I.ok, rfl⟩, fun d n2 h => ?_⟩
    obtain ⟨rfl, D', o, e, rfl, ho⟩ := h
    simp only [List.cons.injEq, DV.oldB.injEq, and_true] at e
    subst e
    refine ⟨o, rfl, ⟨ns, ps, I.l1, I.l2, I.pd, I.inn, rfl⟩, fun d n3 h => ?_⟩
    obtain ⟨rfl, ns', ps', b, e, rfl, hb⟩ := h
    simp only [List.cons.injEq, DV.py.injEq, PyData.list.injEq, and_true] at e
    obtain ⟨e1, e2⟩ := e
    have e1 := sts_inj e1
    have e2 := pairs_inj e2
    subst e1 e2
    have hob := odd_deb I
    rw [← ho] at hob
    refine ⟨_, rfl, by simp, ?_⟩
    cases o with
    | none =>
      have hbf : b = false := by
        cases b with
        | false => rfl
        | true => have := hob.mpr (hb.mp rfl); cases this
      subst hbf
      simp [-Bool.exists_bool, -seqOf, eqvB]
      refine ⟨_, rfl, _, rfl, _, rfl, rfl, ⟨ns, .none, I.l1, .inl rfl, by omega, rfl⟩, fun d n2 h => ?_⟩
      obtain ⟨hn2, es, rfl, hes, hf⟩ := h
      refine ⟨es, rfl, rr_loop I hf (z := .py .none) fun a => ?_⟩
      refine ⟨_, rfl, _, none, rfl, trivial, fun _ z => (by cases z), ?_⟩
      refine ⟨_, rfl, rfl, _, rfl, ?_⟩
      simp only [wkD, isNone, Bool.not_true, Bool.false_eq_true, if_false]
      exact rr_fin I hN ho (fun _ z => by cases z) ⟨hn2, rfl⟩
    | some ws =>
      have hbt : b = true := hb.mpr (hob.mp rfl)
      subst hbt
      simp [-Bool.exists_bool, -seqOf, eqvB]
      have hR := ring_told I ho.symm
      obtain ⟨f1, f2, f3, f4⟩ := told_fit I hN hR
      refine ⟨_, rfl, _, rfl, _, rfl, rfl, ⟨ns, .list (sts ws), I.l1, .inr ⟨ws, f3, f2, f4, rfl⟩, by omega, rfl⟩, fun d n2 h => ?_⟩
      obtain ⟨hn2, es, rfl, hes, hf⟩ := h
      refine ⟨es, rfl, rr_loop I hf (z := .nw ws) fun a => ?_⟩
      refine ⟨_, rfl, _, some ws, rfl, rfl, fun _ z => (by cases z; exact f1), ?_⟩
      refine ⟨_, rfl, rfl, _, rfl, ?_⟩
      simp only [wkD, isNone, Bool.not_false, if_true]
      simp [rrEnv, -Bool.exists_bool, -seqOf, isiD, tyName, subTy]
      refine ⟨⟨ns, ps, .list (sts ws), fine_sts rfl (by omega), rfl⟩, fun d n4 h => ?_⟩
      obtain ⟨rfl, ns', ps', t', b', e, rfl, hb'⟩ := h
      simp only [List.cons.injEq, DV.py.injEq, PyData.list.injEq, and_true] at e
      obtain ⟨e1, e2, e3⟩ := e
      have e1 := sts_inj e1
      have e2 := pairs_inj e2
      subst e1 e2 e3
      have hbt' : b' = true := hb'.mpr hR
      subst hbt'
      refine ⟨true, rfl, ?_⟩
      rw [if_pos rfl]
      refine ⟨by rw [szL]; omega, ns, ps, ⟨_, rfl, I, hN, rfl, pairE_pairD ps⟩, ⟨_, I.ok, rfl⟩, fun d n5 h => ?_⟩
      obtain ⟨rfl, D', o', e, rfl, ho'⟩ := h
      simp only [List.cons.injEq, DV.oldB.injEq, and_true] at e
      subst e
      rw [← ho] at ho'
      subst ho'
      refine ⟨some ws, rfl, _, some ws, rfl, rfl, fun _ z => (by cases z; exact f1), _, by simp [flatP]; rfl, _, rfl, _, rfl, by simp, by simp, hn2, ?_⟩
      rw [eqv_str]
      simp
end
end K21

set_option Elab.async false
set_option linter.all false
set_option maxRecDepth 100000
set_option maxHeartbeats 4000000
/-! K21H9: why greatest lots are not settled, told right. -/
namespace K21
open PySem PySem.Spec PyProof.Rows L2
section
variable {P : Program} {w : World} {K : PySem.W.Frag} {mg : Str → Option Value} {base : Heap} {c : Cst}
theorem sc__law_unsettled_right : FnScope ["_law_made", "_law_names", "_law_pairs", "_law_lot", "_law_settled", "_law_has_odd_here", "_law_told", "_law_labels", "_law_kept", "_law_name"] ["_law_made", "_law_names", "_law_pairs"] (defScope (topS 77)) := ⟨rfl, rfl, rfl, by decide +kernel, rfl, by decide +kernel, by decide +kernel⟩
def pre_ur (ds : List DV) (_ : Nat) : Prop := ∃ ns ps, NP ns ps ∧ NamesOk ns ∧ ns.length ≤ 7 ∧ ds = [.deb (mkDeb ns ps), .py (.list (sts ns)), .py (.list (ps.map pairD))]
def post_ur (ds : List DV) (n : Nat) (d : DV) (n' : Nat) : Prop := n' = n ∧ d = .py (.bool true)
theorem sort_back {ns m : List Str} (hs : m.Sublist (sortS ns)) : sortS m.reverse = m := by
  have e : sortS m.reverse = sortS m := sort_unique' PyData.str inj_str (List.reverse_perm m)
  rw [e]
  exact sort_self PyData.str inj_str ((sort_pw PyData.str ns).sublist hs)
theorem wu_pre {ns m : List Str} {ps : List (Str × Str)} {t : PD} {n : Nat} (I : NP ns ps) (hN : NamesOk ns) (hl : ns.length ≤ 7) (ht : seqOf (.py t) = some (sts m.reverse)) (hm : m.length ≤ 7) : pre_wu [.deb (mkDeb ns ps), .py t] n :=
  ⟨ns, ps, t, I, hN, hl, fun es e => (by rw [ht] at e; cases e; simp; omega), rfl⟩
theorem wu_post {ns m : List Str} {ps : List (Str × Str)} {t : PD} {n n2 : Nat} {d : DV} (hs : m.Sublist (sortS ns)) (ht : seqOf (.py t) = some (sts m.reverse)) (h : post_wu [.deb (mkDeb ns ps), .py t] n d n2) : n2 = n ∧ d = nwO (ringF (undDeb (mkDeb ns ps) m)) := by
  obtain ⟨e0, D, t', ws, e, h2, _, _, _, rfl⟩ := h
  simp only [List.cons.injEq, DV.deb.injEq, DV.py.injEq, and_true] at e
  obtain ⟨rfl, rfl⟩ := e
  rw [ht] at h2
  have := sts_inj (Option.some.inj h2)
  subst this
  rw [sort_back hs]
  exact ⟨e0, rfl⟩
theorem wu_px {CB CN : Addr} {ns m : List Str} {ps : List (Str × Str)} {t : PD} {n n2 : Nat} {C : Addr} {f : Str} {d : DV} (I : NP ns ps) (hg : m ∈ lGreat ns ps) (hs : m.Sublist (sortS ns)) (ht : seqOf (.py t) = some (sts m.reverse)) (h : px_wu CB CN [.deb (mkDeb ns ps), .py t] n C f d n2) : False := by
  have nd : m.Nodup := ((sort_pm PyData.str ns).nodup_iff.mpr I.nd).sublist hs
  obtain ⟨_, D, t', e, h⟩ := h
  simp only [List.cons.injEq, DV.deb.injEq, DV.py.injEq, and_true] at e
  obtain ⟨rfl, rfl⟩ := e
  rcases h with ⟨_, _, k, hb, _⟩ | ⟨_, _, ws, h2, _, _, hf, _⟩
  · exact good_not_bad ht ((List.reverse_perm m).nodup_iff.mpr nd) (fun x hx => hs.subset (List.mem_reverse.mp hx)) hb
  · rw [ht] at h2
    have := sts_inj (Option.some.inj h2)
    subst this
    rw [sort_back hs] at hf
    exact hf (fault_great I.ok (great_deb.mp (lGreat_mem.mp hg)))
theorem ok_unsettled_right {CB CN : Addr} (D : DefAt K mg "_law_unsettled_right" (topS 77)) (B : Bn mg) (O_law_d_lots : OkD P w K mg base c "_law_d_lots" ["_law_names", "_law_pairs", "_law_way"] 5 pre_lots (pv1 f_d_lots)) (O_law_has_odd : OkD P w K mg base c "_law_has_odd" ["_law_names", "_law_pairs"] 2 pre_np post_ho)
    (O_why_unsettled : OkX P w K mg base c "why_unsettled" ["debate", "lot"] 9 pre_wu post_wu (px_wu CB CN)) (O_law_d_labels : OkD P w K mg base c "_law_d_labels" ["_law_names", "_law_pairs", "_law_lot"] 3 pre_npl (pv1 f_d_labels))
    (O_law_is_ring : OkD P w K mg base c "_law_is_ring" ["_law_names", "_law_pairs", "_law_thing"] 1 pre_isr post_isr) : OkG P w K mg base c "_law_unsettled_right" ["_law_made", "_law_names", "_law_pairs"] 10 pre_ur post_ur := by
  refine ok_defTG D (fun _ _ _ _ _ _ us hl => match us, hl with | [_, _, _], _ => rfl) sc__law_unsettled_right (fun ds n h => ?_) (fun f cdv A outer s H E hr gd => ?_)
  · obtain ⟨_, _, _, _, _, rfl⟩ := h; rfl
  · refine ⟨_, (dsst_cons (dst_of (ds_par (par2_S (i := 4) (j := 5) rfl sc__law_unsettled_right.nd rfl rfl (by decide) rfl rfl rfl) (de_ok O_law_d_lots hr (by decide) rfl (da_cons (de_wk (de_v 1 (pv 1))) (da_cons (de_wk (de_v 2 (pv 2))) (da_cons de_str da_nil)))) (de_ok O_law_has_odd hr (by decide) rfl (da_cons (de_wk (de_v 1 (pv 1))) (da_cons (de_wk (de_v 2 (pv 2))) da_nil))))) (dsst_cons (dst_forL 3 PassesOwn.never rfl (de_ok O_law_d_lots hr (by decide) rfl (da_cons (de_wk (de_v 1 (pv 1))) (da_cons (de_wk (de_v 2 (pv 2))) (da_cons de_str da_nil)))) (pg_name (i := 3) sc__law_unsettled_right.nd rfl (Or.inl rfl)) (dsst_cons (dst_of (ds_par (par2_G (i := 6) (j := 7) (pg_tup rfl (pgs_cons (pg_name (i := 6) sc__law_unsettled_right.nd rfl (Or.inl rfl)) (pgs_cons (pg_name (i := 7) sc__law_unsettled_right.nd rfl (Or.inr rfl)) pgs_nil)))) (de_okX O_why_unsettled hr (by decide) rfl (da_cons (de_wk (de_v 0 (pv 0))) (da_cons (de_tupleOf rfl B.tuple (de_rev (de_wk (de_v 3 (pv 3))))) da_nil))) (de_ok O_law_d_labels hr (by decide) rfl (da_cons (de_wk (de_v 1 (pv 1))) (da_cons (de_wk (de_v 2 (pv 2))) (da_cons (de_wk (de_v 3 (pv 3))) da_nil)))))) (dsst_cons (dst_of (ds_if (DW.dt (dw_or (dt_ne (hu64 hr) (de_isN (de_wk (de_v 6 (pv 6))) de_non) (de_in (hu65 hr) (de_wk (de_v 3 (pv 3))) (de_wk (de_v 4 (pv 4))))) (dw_or1 (DW.dt (dw_and (dt_notN (de_wk (de_v 6 (pv 6))) de_non) (dw_and1 (dt_not (dt_val (de_wk (de_v 5 (pv 5))))))))))) (dss_one (ds_ret de_bl)) dss_nil)) (dsst_one (dst_if (dt_notN (de_wk (de_v 6 (pv 6))) de_non) (dsst_cons (dst_of (ds_if (DW.dt (dw_or (dt_not (dt_val (de_isi (t := "list") rfl B.isinstance (de_wk (de_v 6 (pv 6))) rfl B.list (by decide +kernel) (by simp [okTy])))) (dw_or1 (dt_not (dt_val (de_ok O_law_is_ring hr (by decide) rfl (da_cons (de_wk (de_v 1 (pv 1))) (da_cons (de_wk (de_v 2 (pv 2))) (da_cons (de_wk (de_v 6 (pv 6))) da_nil))))))))) (dss_one (ds_ret de_bl)) dss_nil)) (dsst_cons (dst_of (ds_if (dt_not (dt_val (de_all rfl rfl B.all (de_lc (own := [("_law_name", 9)]) (.one 9) rfl sc__law_unsettled_right.nd (di_lst (de_wk (de_v 6 (pv 6)))) (blkOk_by (N := ["_law_made", "_law_names", "_law_pairs", "_law_lot", "_law_settled", "_law_has_odd_here", "_law_told", "_law_labels", "_law_kept", "_law_name"]) (sc := defScope (topS 77)) (own := [("_law_name", 9)]) (by decide +kernel)) (fun _ _ _ _ _ => (pg_name (i := 9) sc__law_unsettled_right.nd rfl (Or.inl rfl))) (fun _ _ _ _ _ => dts_nil) (fun _ _ _ _ _ => (de_eq (hu64 hr) (de_get (hu1 hr) (de_wk (de_v 7 (pv 7))) (de_wk (de_v 9 (pv 9)))) de_str)))))) (dss_one (ds_ret de_bl)) dss_nil)) (dsst_cons (dst_of (ds_set (i := 8) sc__law_unsettled_right.nd rfl (Or.inl rfl) (de_repr gd (hu64 hr) rfl B.repr (de_wk (de_v 6 (pv 6)))))) (dsst_cons (dst_late 6 (pv 6)) (dsst_one (dst_of (ds_if (dt_ne (hu64 hr) (de_repr gd (hu64 hr) rfl B.repr (de_okX O_why_unsettled hr (by decide) rfl (da_cons (de_wk (de_v 0 (pv 0))) (da_cons (de_rev (de_wk (de_v 3 (pv 3)))) da_nil)))) (de_wk (de_v 8 (pv 8)))) (dss_one (ds_ret de_bl)) dss_nil))))))) (dsst_of dss_nil)))))) (dsst_one (dst_of (ds_ret de_bl))))), fun ds n h => ?_⟩
    obtain ⟨ns, ps, I, hN, hl, rfl⟩ := h
    simp [startD, -Bool.exists_bool, -seqOf]
    have l2 := I.l2
    refine ⟨⟨ns, ps, "settled", hl, l2, .inl rfl, rfl⟩, fun d n2 h => ?_⟩
    obtain ⟨rfl, rfl⟩ := h
    refine ⟨⟨ns, ps, I.l1, I.l2, I.pd, I.inn, rfl⟩, fun d n3 h => ?_⟩
    obtain ⟨rfl, ns', ps', b, e, rfl, hb⟩ := h
    simp only [List.cons.injEq, DV.py.injEq, PyData.list.injEq, and_true] at e
    obtain ⟨e1, e2⟩ := e
    have e1 := sts_inj e1
    have e2 := pairs_inj e2
    subst e1 e2
    refine ⟨_, rfl, _, rfl, rfl, ⟨ns, ps, "greatest", hl, l2, .inr rfl, rfl⟩, fun d n4 h => ?_⟩
    obtain ⟨rfl, rfl⟩ := h
    refine ⟨lotsD (lGreat ns ps), by simp; rw [if_neg (by decide)], fun k r n' => n' = n4 ∧ ∃ a3 a6 a7 a8, r = [some (.dat (.ancB (mkDeb ns ps))), some (.dat (.ancP (.list (sts ns)))), some (.dat (.ancP (.list (ps.map pairD)))), a3, some (.dat (.ancP (.list (lotsD (lSettled ns ps))))), some (.dat (.ancP (.bool b))), a6, a7, a8, none], ⟨rfl, none, none, none, none, by simp⟩, fun k d r n' hd hI => ?_, fun r n' hI => ?_⟩
    · obtain ⟨rfl, a3, a6, a7, a8, rfl⟩ := hI
      obtain ⟨m, hm, rfl⟩ := List.mem_map.mp (List.mem_of_getElem? hd)
      have hs : m.Sublist (sortS ns) := (lGreat_mem.mp hm).1.sub
      have hml : m.length ≤ 7 := by
        have := hs.length_le
        rw [len_sortS] at this
        omega
      have hrev : (sts m).reverse = sts m.reverse := by simp [sts]
      obtain ⟨u1, u2⟩ := und_ring I hm
      have st := settled_iff I hm
      simp [lotD, -Bool.exists_bool, -seqOf]
      refine ⟨sts m.reverse, by simp [sts], wu_pre I hN hl rfl hml, ?_⟩
      refine ⟨fun d n2 h => ?_, fun C f d n2 h => wu_px I hm hs rfl h⟩
      obtain ⟨rfl, rfl⟩ := wu_post hs rfl h
      refine ⟨⟨ns, ps, m, I.l1, I.nd, l2, rfl⟩, fun d n3 h => ?_⟩
      obtain ⟨rfl, rfl⟩ := h
      rw [inD_lots]
      cases hU : ringF (undDeb (mkDeb ns ps) m) with
      | none =>
        have hst : m ∈ lSettled ns ps := st.mpr fun z => by
          have := u1.mpr z
          rw [hU] at this; cases this
        simp [hst, eqvB]
      | some w =>
        have hst : m ∉ lSettled ns ps := fun z => st.mp z (u1.mp (by rw [hU]; rfl))
        obtain ⟨r1, r2, r3⟩ := u2 w hU
        have hbt : b = true := hb.mpr r2
        subst hbt
        obtain ⟨f1, f2, f3, f4⟩ := told_fit I hN r1
        simp [hst, eqvB, isiD, tyName, subTy, -Bool.exists_bool, -seqOf]
        refine ⟨⟨ns, ps, .list (sts w), fine_sts rfl (by omega), rfl⟩, fun d n4 h => ?_⟩
        obtain ⟨rfl, ns', ps', t', b', e, rfl, hb'⟩ := h
        simp only [List.cons.injEq, DV.py.injEq, PyData.list.injEq, and_true] at e
        obtain ⟨e1, e2, e3⟩ := e
        have e1 := sts_inj e1
        have e2 := pairs_inj e2
        subst e1 e2 e3
        have hbt' : b' = true := hb'.mpr r1
        subst hbt'
        refine ⟨true, rfl, ?_⟩
        rw [if_pos rfl]
        have hwn : ∀ x ∈ w, x ∈ ns := by
          obtain ⟨us, e, _, _, h4, _⟩ := r1
          rcases e with e | e
          · simp only [PyData.list.injEq] at e
            rw [sts_inj e]; exact h4
          · cases e
        refine lcta w PyData.str (fun x => .bool true) (fun KK h => by simp; exact h) (by simp) (by rw [szL]; omega) rfl (fun x hx KK hK => ?_) ?_
        · have := look_map (f := fun s => PyData.str (llab ps m s)) (x := x) (ns := sortS ns)
          rw [if_pos (mem_sortS.mpr (hwn x hx))] at this
          simp [-Bool.exists_bool, this, r3 x hx, eqv_str]
          exact hK
        · refine ⟨w.map fun _ => true, by simp, ?_⟩
          rw [if_neg (by simp)]
          refine ⟨.nw w, rfl, _, some w, rfl, rfl, fun _ z => (by cases z; exact f1), w, rfl, by rw [szL]; omega, .ancB (mkDeb ns ps), ⟨_, rfl, rfl⟩, .ancP (.list (sts m)), ⟨_, rfl, rfl⟩, sts m, rfl, rfl, wu_pre I hN hl (congrArg some hrev) hml, fun d n5 h => ?_, fun C f d n5 h => wu_px (t := .list (sts m).reverse) I hm hs (congrArg some hrev) h⟩
          obtain ⟨rfl, rfl⟩ := wu_post (t := .list (sts m).reverse) hs (congrArg some hrev) h
          rw [hU]
          refine ⟨_, some w, rfl, rfl, fun _ z => (by cases z; exact f1), _, rfl, _, rfl, _, rfl, by simp, by simp, ?_⟩
          have e : PyData.eqv (.str (showW (some w))) (.str (showW (some w))) = true := by rw [eqv_str]; simp
          rw [if_pos e]
          exact ⟨rfl, _, _, _, _, rfl⟩
    · obtain ⟨rfl, a3, a6, a7, a8, rfl⟩ := hI
      exact ⟨rfl, rfl, rfl⟩
end
end K21

set_option Elab.async false
set_option linter.all false
set_option maxRecDepth 100000
set_option maxHeartbeats 4000000
/-! K21I1: try with several clauses that name what they catch. -/
namespace K21
open PySem PySem.Spec PyProof.Rows L2
/-- behind a clause its name is gone -/
def goneE (i : Nat) (D : Ends) : Ends := { nx := fun σ H => D.nx (σ.set i none) H, rt := D.rt, bk := fun σ H => D.bk (σ.set i none) H, ct := fun σ H => D.ct (σ.set i none) H }
/-- the wish of an exception that meets clauses, none of which may miss it in the end -/
def wClauses (K : PySem.W.Frag) (i : Nat) (D : Ends) : List (Value × (Addr → Value → Option Addr → TS)) → WX
  | [] => fun _ _ _ _ => False
  | (c, ts) :: r => fun cls d σ H => ∃ b, PySem.W.exmOne K cls c = some b ∧ (b = true → ∀ a, H a = none → ts a cls d (goneE i D) (σ.set i (some (.ref a))) H) ∧ (b = false → wClauses K i D r cls d σ H)
inductive Clauses (X : Cx) (n : Str) : List ExceptHandler → List (Value × (Addr → Value → Option Addr → TS)) → Prop
  | nil : Clauses X n [] []
  | cons {x : Str} {c : Value} {ts : Addr → Value → Option Addr → TS} {b₀ : Stmt} {suite : List Stmt} {np pos' : Pos} {hds : List ExceptHandler} {l : List (Value × (Addr → Value → Option Addr → TS))} (hc : Names X x c)
      (hsu : ∀ (a : Addr) (oe : Obj) (cls : Value) (d : Option Addr) (pn : List (Addr × Obj)), Zc cls d oe → (∃ vs, oe.data = .fields vs) → PSs (X.suite a ((a, oe) :: pn)) (b₀ :: suite) (ts a cls d)) (r : Clauses X n hds l) :
      Clauses X n (.ExceptHandler (some (.Name x np)) (some n) (b₀ :: suite) pos' :: hds) ((c, ts) :: l)
section
variable {X : Cx} {n : Str} {i : Nat} {body : List Stmt} {h₀ : ExceptHandler} {hds : List ExceptHandler} {l : List (Value × (Addr → Value → Option Addr → TS))} {pos : Pos} {tb : WX → TS}
theorem ps_clauses (hs : X.stack = X.env :: X.outer) (hf : X.env.frame = some X.env.locals) (hN : X.N.Nodup) (hi : X.N[i]? = some n) (hln : X.env.kindOf n = some .local)
    (hb : ∀ (W : WX) (pn : List (Addr × Obj)) (xe : Value → Shared → Prop), Takes (X.tr pn xe) W → PassesOwn (model X.prog X.w) X.A X.env xe → PSs (X.tr pn xe) body (tb W))
    (hh : Clauses X n (h₀ :: hds) l) : PS X (.Try body (h₀ :: hds) [] [] pos) (fun D σ H => tb (wClauses X.K i D l) D σ H) := by
  constructor
  intro pins s σ H D I want
  have ok := I.ok
  have frames : X.A.frames = some (X.env :: X.outer) := by rw [ok.frames, hs]
  apply wpAny_Try_except
  let caught : Value → Shared → Prop := fun e s₁ => wpAny (model X.prog X.w) X.A (noteFrame e X.env) (fun _ s₂ => wpAny (model X.prog X.w) X.A (setFlight e none) (fun _ s₃ =>
    wpAny (model X.prog X.w) X.A (handleBy e X.env (h₀ :: hds)) (SP X pins D) X.xe s₃) X.xe s₂) X.xe s₁
  have meets : Takes (X.tr (X.pn ++ pins) caught) (wClauses X.K i D l) := by
    rintro u s1 ⟨a, B, sI, pins', σ', H', cls, d, rfl, J', nb, up, sky, na, os, ag, w⟩
    have J : Inv X pins σ' H' sI := J'.ofTry ok
    show wpAny (model X.prog X.w) X.A (noteFrame (.ref a) X.env) _ _ _
    refine Sky.land Zc.steady frames hf (by rw [← hs]; exact sky) fun h3 fl3 up3 => ?_
    have J3 : Inv X pins σ' H' { s1 with heap := h3 } := J.landed nb fl3.1 (up.trans up3) os ag
    obtain ⟨o3, vs3, he3, hz3, hd3⟩ := fl3.there
    have outFrames : a ∉ frs (X.env :: X.outer) := fun hm => by
      obtain ⟨_, o', e', hnf⟩ := fl3.2.2.1.mem hm
      rw [he3] at e'; cases e'
      exact hnf _ hd3
    have nL : a ≠ X.env.locals := fun z => outFrames (List.mem_filterMap.mpr ⟨X.env, List.mem_cons_self, by rw [hf, z]⟩)
    have nF : a ∉ X.fs := fun hm => by
      obtain ⟨e, he, q⟩ := List.mem_filterMap.mp hm
      exact outFrames (List.mem_filterMap.mpr ⟨e, List.mem_cons_of_mem _ he, q⟩)
    have S3 := J3.suite he3 hd3 na nL nF
    have each : ∀ (hk : List ExceptHandler) (lk : List (Value × (Addr → Value → Option Addr → TS))), Clauses X n hk lk → wClauses X.K i D lk cls d σ' H' → wpAny (model X.prog X.w) X.A (handleBy (.ref a) X.env hk) (SP X pins D) X.xe { s1 with heap := h3 } := by
      intro hk lk cl
      induction cl with
      | nil => intro w; exact w.elim
      | @cons x c ts b₀ suite np pos' hds2 l2 hc hsu _ ih =>
        rintro ⟨b, hb1, yes, no⟩
        apply wpAny_handleBy_cons (codeAny_handlers_test ?_) (by intro q; cases q)
        have kindOfIt : PySem.W.Looks (model X.prog X.w) h3 (typeOf (.ref a)) cls := fun A Q E s k q => wpAny_typeOf_ref (k _ _ he3) (by rw [hz3.1]; exact q)
        have matched := PySem.W.exm_one (M := model X.prog X.w) J3.kIn kindOfIt hb1
        have named : ∀ {Q : Value → Shared → Prop} {E : Value → Shared → Prop}, Q c { s1 with heap := h3 } → wpAny (model X.prog X.w) (X.A.mark (some (.ref a))) (eval (.Name x np) X.env) Q E { s1 with heap := h3 } := by
          intro Q E q
          obtain ⟨hg, hdbg, hm⟩ := hc
          rcases hm with hm | ⟨hm, hv, hnn⟩
          · exact ld_glob (X := X.suite a ((a, o3) :: (X.pn ++ pins))) S3 hg hm q hdbg
          · exact ld_blt (X := X.suite a ((a, o3) :: (X.pn ++ pins))) S3 hg hm hv q hnn hdbg
        refine named (matched.here ?_)
        cases b with
        | false =>
          show wpAny _ X.A (handleBy (.ref a) X.env hds2) _ _ _
          exact ih (no rfl)
        | true =>
          refine codeAny_handlers_suite_as (HandSPX.lands_againZ fl3 fun h4 fl4 up4 => ?_)
          obtain ⟨o4, vs4, he4, hz4, hd4⟩ := fl4.there
          have J4 : Inv X pins σ' H' { s1 with heap := h4 } := J.landed nb fl4.1 ((up.trans up3).trans up4) os ag
          refine store_ok (X := X.suite a ((a, o4) :: (X.pn ++ pins))) (v := .ref a) (J4.suite he4 hd4 na nL nF) hN hi (.inl hln) rfl (fun s5 S5 => ?_) (.inr hln)
          have wipeName : ∀ {σ6 : L2.St} {H6 : Hp} {s6 : Shared} {Q : Shared → Prop}, Inv (X.suite a ((a, o4) :: (X.pn ++ pins))) [] σ6 H6 s6 → (∀ s7, Inv X pins (σ6.set i none) H6 s7 → Q s7) →
              wpAny (model X.prog X.w) X.A (do bindName X.env n .none; unbindBehindTheSuite X.env n pos') (fun _ s7 => Q s7) X.xe s6 := fun S6 hq => gone_ok (S6.unsuite ok) hN hi hln hq
          refine wpAny_mono ((hsu a o4 cls d (X.pn ++ pins) hz4 ⟨_, hd4⟩).run [] s5 _ H' _ S5 (yes rfl a na)) (fun f s6 hsp => ?_) (fun _ _ z => z.elim)
          cases f with
          | ret u =>
            obtain ⟨v6, σ6, H6, S6, r6, q6⟩ := hsp
            exact wipeName S6 fun s7 J7 => ⟨_, _, _, J7, r6, q6⟩
          | next =>
            obtain ⟨σ6, H6, S6, q6⟩ := hsp
            exact wipeName S6 fun s7 J7 => ⟨_, _, J7, q6⟩
          | brk =>
            obtain ⟨σ6, H6, S6, q6⟩ := hsp
            exact wipeName S6 fun s7 J7 => ⟨_, _, J7, q6⟩
          | cont =>
            obtain ⟨σ6, H6, S6, q6⟩ := hsp
            exact wipeName S6 fun s7 J7 => ⟨_, _, J7, q6⟩
    exact each _ _ hh w
  refine wpAny_mono ((hb _ (X.pn ++ pins) caught meets PassesOwn.looking).run [] s σ H D (I.toTry _) want) (fun f s1 hsp => ?_) fun _ _ he => he
  cases f with
  | ret u =>
    obtain ⟨v, σ', H', J', r, q⟩ := hsp
    exact ⟨v, σ', H', J'.ofTry ok, r, q⟩
  | next =>
    obtain ⟨σ', H', J', q⟩ := hsp
    exact wpAny_execs_nil ⟨σ', H', J'.ofTry ok, q⟩
  | brk =>
    obtain ⟨σ', H', J', q⟩ := hsp
    exact ⟨σ', H', J'.ofTry ok, q⟩
  | cont =>
    obtain ⟨σ', H', J', q⟩ := hsp
    exact ⟨σ', H', J'.ofTry ok, q⟩
end
end K21

set_option Elab.async false
set_option linter.all false
set_option maxRecDepth 100000
set_option maxHeartbeats 4000000
/-! K21I2: what is told, or how it is refused. -/
namespace K21
open PySem PySem.Spec PyProof.Rows L2
theorem sc_met : FnScope ["_law_ask", "e"] ["_law_ask"] (defScope (topS 71)) := ⟨rfl, rfl, rfl, by decide +kernel, rfl, by decide +kernel, by decide +kernel⟩
/-- what is made of the reading of a lambda's body -/
def TTm (K : PySem.W.Frag) (CB CN : Addr) : (XK → Hp → VK → Prop) → Hp → VK → Prop := fun tl H Q =>
  tl (fun cls d H' => ∃ b, PySem.W.exmOne K cls (.ref CB) = some b ∧
      (b = true → cls = .ref CB ∧ ∃ dd v, d = some dd ∧ H' dd = some (.xd [("index", v)]) ∧ ∀ p, H' p = none → Q (.ref p) (upd H' p (.tup [.str "lot", v]))) ∧
      (b = false → ∃ b2, PySem.W.exmOne K cls (.ref CN) = some b2 ∧ b2 = true ∧ cls = .ref CN ∧ ∃ dd v, d = some dd ∧ H' dd = some (.xd [("fault", v)]) ∧ ∀ p, H' p = none → Q (.ref p) (upd H' p (.tup [.str "fault", v]))))
    H (fun v H' => ([V.str "told", v] : List V).length ≤ sizeLine ∧ ∀ p, H' p = none → Q (.ref p) (upd H' p (.tup [.str "told", v])))
/-- a name whose slot is there -/
def tVarL (i : Nat) (x : V) : TE := fun σ H Q => (i < σ.length → σ[i]? = some (some x)) ∧ Q x H
section
variable {X : Cx}
theorem pe_varL {i : Nat} {x : V} {y : Str} {pos : Pos} (hi : i < X.N.length) (h : PE X (.Name y pos) (tVar i)) : PE X (.Name y pos) (tVarL i x) := ⟨fun pins s σ H Q I ⟨h1, h2⟩ => h.run pins s σ H Q I ⟨x, h1 (by rw [I.len]; exact hi), h2⟩⟩
theorem met_gives {q : Str} {g CB CN : Addr} {cdg : Value} {P : Program} {w : World} {base : Heap} (hB : X.mg "BadLot" = some (.ref CB)) (hN : X.mg "NotGreatest" = some (.ref CN)) (xB : XfC X.K CB) (nB : PySem.W.findIn X.K (.ref CB) "index" = some none) (xN : XfC X.K CN) (nN : PySem.W.findIn X.K (.ref CN) "fault" = some none) :
    LamX.GivesTo X ["_law_ask", "e"] "_law_met" (defScope (topS 71)) g cdg (defBody (topS 71)) "_law_ask" q (TTm X.K CB CN) := by
  intro f c' s H Q tl act hc h
  refine ⟨_, pss_one (ps_clauses (X := (cxOf C8.CX0 X.prog X.w X.K X.mg X.base ["_law_ask", "e"] "_law_met" (defScope (topS 71)) g cdg X.A X.stack s H C8.E0).nox) (n := "e") (i := 1)
      (tb := fun W D σ H => ∃ Ech : XK, (∀ cls d σ' H', Ech cls d H' → W cls d σ' H') ∧ σ[0]? = some (some (.ref f)) ∧ H c' = some (LamX.CodeO c' q) ∧ tl Ech H (fun v H1 => ([V.str "told", v] : List V).length ≤ sizeLine ∧ ∀ p, H1 p = none → D.rt (.ref p) (upd H1 p (.tup [.str "told", v]))))
      rfl rfl sc_met.nd rfl rfl (fun W pn xe tk _ => ?_)
      (.cons (c := .ref CB) ⟨rfl, rfl, .inl hB⟩ (fun a oe cls d pn hz hf => pss_one (ps_ret (pe_tup (pa_cons pe_str (pa_cons (pe_xf xB nB hz hf (pe_varL (x := .ref a) (Nat.lt_succ_self 1) (pv 1))) pa_nil)))))
        (.cons (c := .ref CN) ⟨rfl, rfl, .inl hN⟩ (fun a oe cls d pn hz hf => pss_one (ps_ret (pe_tup (pa_cons pe_str (pa_cons (pe_xf xN nN hz hf (pe_varL (x := .ref a) (Nat.lt_succ_self 1) (pv 1))) pa_nil))))) .nil))), ?_⟩
  · refine ⟨fun pins s' σ H' D I h' => ?_⟩
    obtain ⟨Ech, hW, h1, h2, h3⟩ := h'
    refine (pss_one (ps_ret (pe_tup (pa_cons pe_str (pa_cons (act W pn xe Ech _ _ tk hW) pa_nil))))).run pins s' σ H' D I ?_
    exact ⟨h1, h2, h3⟩
  · refine ⟨_, fun cls d σ' H' ⟨b, e1, yes, no⟩ => ⟨b, e1, fun hb a ha => ?_, fun hb => ?_⟩, rfl, hc, h⟩
    · obtain ⟨rfl, dd, v, rfl, e2, q⟩ := yes hb
      exact ⟨fun hl => List.getElem?_set_self (by simpa using hl), rfl, rfl, dd, _, v, rfl, e2, rfl, by rw [szL]; show 2 ≤ 16777216; omega, fun p hp => q p hp⟩
    · obtain ⟨b2, e2, rfl, rfl, dd, v, rfl, e3, q⟩ := no hb
      refine ⟨true, e2, fun _ a ha => ?_, fun z => by cases z⟩
      exact ⟨fun hl => List.getElem?_set_self (by simpa using hl), rfl, rfl, dd, _, v, rfl, e3, rfl, by rw [szL]; show 2 ≤ 16777216; omega, fun p hp => q p hp⟩
/-- x(lambda: body), the lambda's making told -/
def tLamL (T : List (Addr × Str)) (TT : (XK → Hp → VK → Prop) → Hp → VK → Prop) (t : XK → TE) : TE := fun σ H Q => LamX.Tabs T H ∧ ∀ H1, LamH H H1 → LamX.Tabs T H1 → TT (fun E H' Q' => t E σ H' Q') H1 Q
theorem pe_lamask {T : List (Addr × Str)} {TT : (XK → Hp → VK → Prop) → Hp → VK → Prop} {x a : Str} {g c P : Addr} {k : Nat} {st : Stmt} {kV doc pm cdv ct oc : Value} {an od : Option Addr} {osl : Array (Option Value)} {Ng : List Str}
    {params : Arguments} {body : Expr} {scope : Scope} {t : XK → TE} {p lpos pos : Pos} (hg : Gl X x) (hm : X.mg x = some (.ref g)) (hk : PySem.W.keepIn X.K (.ref g) = true)
    (lk : X.K.lookup g = some ⟨oc, od, .func (PySem.W.fnOf x x (defArgs st) (defBody st) (defScope st) .none kV doc pm an cdv ct), osl⟩) (hcg : PySem.W.codeIn X.K cdv x = true) (hb : Binds X.K (PySem.W.fnOf x x (defArgs st) (defBody st) (defScope st) .none kV doc pm an cdv ct) [a] [])
    (Sg : FnScope Ng [a] (defScope st)) (hNg : Ng[0]? = some a) (hva : Vis (defScope st) a) (hG : LamX.GivesTo X Ng x (defScope st) g cdv (defBody st) a (X.env.qual ++ "<lambda>") TT)
    (TB : LamX.TabB X.base X.mg c P) (hcode : X.env.code = .ref c) (hmT : (P, X.env.qual ++ "<lambda>") ∈ T) (hu : ∀ p ∈ T, p.1 = P → p.2 = X.env.qual ++ "<lambda>") (hr : Room (k + 2) X.A) (L : LamX.LamS X.env.scope scope) (hdef : defaultsOf params X.env = ([], []))
    (hbind : ∀ (q : Str) (cl : List (Str × Addr)) (pm cv ctv : Value), bindArgs (PySem.W.kla_fn "<lambda>" q params body scope cl pm cv ctv) ⟨[], []⟩ = pure [])
    (hbody : ∀ (A : Around) (outer : List Env) (s : Shared) (H : Hp) (E : XK) (f c' : Addr), Room k (A.deeper (LamX.lamEnv X scope s.heap.objs.size f c')) → PE (LamX.lamCx X A outer s H E scope f c') body (t E))
    (hdb : (x == ("__debug__" : Str)) = false := by decide) (hd : (a == ("__debug__" : Str)) = false := by decide) (hcd : (a == ("__classdict__" : Str)) = false := by decide) :
    PE X (.Call (.Name x p) [.Lambda params body scope lpos] [] pos) (tLamL T TT t) := by
  constructor
  rintro pins s σ H Q I ⟨tabs, want⟩
  apply wpAny_Call_Name_kw (ld_glob I hg hm ?_ hdb)
  refine PySem.W.callWith_K (h₀ := X.base) I.ok.mod.kin hk ?_ (by rfl) (by rfl)
  show wpAny _ _ (spliced ((false, eval (.Lambda params body scope lpos) X.env) :: backTo pos (starEach [] X.env))) _ _ s
  refine Calls.spliced_cons (lam_made I TB hcode hmT hu tabs hdef (L.has I.ok) fun f c' pm' ctv H1 s1 I1 grown tabs1 isF noF outF code => Calls.spliced_nil ⟨I1.kIn, ?_⟩)
  have called : codeAny (model X.prog X.w) X.A (.call (.ref g) ⟨[.ref f], []⟩) (CR C8.CX0 X.stack X.prog X.w H1 s1 Q C8.E0) s1 :=
    LamX.run_ofS (N := Ng) (ps := [a]) (us := [.ref f]) (vs := [.ref f]) lk hcg Sg hr I1.env0 (hb s1 [.ref f] I1.kIn rfl) (.cons rfl .nil) rfl fun room => by
      obtain ⟨t', walk, q⟩ := hG f c' s1 H1 Q (fun E H' Q' => t E σ H' Q') (fun W pn xe E p1 p2 tk hW => LamX.pe_act (i := 0) I1 L isF noF outF (hbind _ _ _ _ _) tk hW room (fun A outer s H r2 => hbody A outer s H E f c' r2) hNg hva hd hcd) code (want H1 grown tabs1)
      exact ⟨t', walk.nox, q⟩
  refine wpAny_call (codeAny_mono called fun r s2 hq => ?_)
  cases r with
  | error e => exact (show False from hq).elim
  | ok fl =>
    cases fl with
    | ret u => exact I1.after hq
    | _ => exact False.elim hq
end
/-! ### over data -/
@[simp] def datL : Option Slot → Option Slot
  | some (.dat (.py d)) => some (.dat (.py d))
  | some (.dat (.deb D)) => some (.dat (.deb D))
  | some (.dat .strm) => some (.dat .strm)
  | _ => none
theorem Rel.ask {g : G} {F H : Hp} {r : DEnv} {n : Nat} {s : L2.St} (R : Rel g F r n s H) : Rel (g.call F H) F (r.map datL) n s H := by
  have only : ∀ {i : Nat} {z : Slot}, (r.map datL)[i]? = some (some z) → r[i]? = some (some z) ∧ ∃ d, z = .dat d ∧ ((∃ p, d = .py p) ∨ (∃ D, d = .deb D) ∨ d = .strm) := fun {i z} e => by
    rw [List.getElem?_map] at e
    cases h : r[i]? with
    | none => rw [h] at e; cases e
    | some o =>
      rw [h] at e
      cases o with
      | none => cases e
      | some w =>
        cases w with
        | mu m => cases e
        | dat d =>
          cases d with
          | py p => cases e; exact ⟨rfl, _, rfl, .inl ⟨p, rfl⟩⟩
          | deb D => cases e; exact ⟨rfl, _, rfl, .inr (.inl ⟨D, rfl⟩)⟩
          | strm => cases e; exact ⟨rfl, _, rfl, .inr (.inr rfl)⟩
          | _ => cases e
  refine ⟨R.bas.call, by rw [List.length_map]; exact R.len, fun i z e => ?_, fun i j m m' p _ e1 => ?_⟩
  · obtain ⟨e1, d, rfl, hd⟩ := only e
    obtain ⟨v, h1, h2⟩ := R.slot i _ e1
    refine ⟨v, h1, ?_⟩
    rcases hd with ⟨p, rfl⟩ | ⟨D, rfl⟩ | rfl
    · exact h2
    · exact h2
    · exact h2
  · obtain ⟨_, d, e2, _⟩ := only e1
    cases e2
/-- what met makes of a lambda's body: told, or refused -/
def metW (CB CN : Addr) (r : DEnv) (P : DV → DEnv → Nat → Prop) : XWD := fun C f x n' => ∃ p, x = .py p ∧ ((C = CB ∧ f = "index" ∧ P (.py (.tuple [.str "lot", p])) r n') ∨ (C = CN ∧ f = "fault" ∧ P (.py (.tuple [.str "fault", p])) r n'))
def dMet (CB CN : Addr) (tb : XWD → TED) : TED := fun r n P => tb (metW CB CN r P) (r.map datL) n fun d _ n' => ∃ p, wkD d = .py p ∧ P (.py (.tuple [.str "told", p])) r n'
structure MetT (P : Program) (w : World) (K : PySem.W.Frag) (mg : Str → Option Value) (base : Heap) (CB CN : Addr) : Prop where
  d : DefAt K mg "_law_met" (topS 71)
  xb : ExcT P w K mg base "BadLot" CB "index"
  xn : ExcT P w K mg base "NotGreatest" CN "fault"
  nb : PySem.W.exmOne K (.ref CN) (.ref CB) = some false
theorem de_met {X : Cx} {c : Cst} {CB CN cc P : Addr} {params : Arguments} {body : Expr} {scope : Scope} {p lpos pos : Pos} {k : Nat} {tb : XWD → TED} (M : MetT X.prog X.w X.K X.mg X.base CB CN) (hg : Gl X "_law_met") (TB : LamX.TabB X.base X.mg cc P) (hcode : X.env.code = .ref cc)
    (hmT : (P, X.env.qual ++ "<lambda>") ∈ c.T) (hu : ∀ p ∈ c.T, p.1 = P → p.2 = X.env.qual ++ "<lambda>") (hr : Room (k + 2) X.A) (L : LamX.LamS X.env.scope scope) (hdef : defaultsOf params X.env = ([], []))
    (hbind : ∀ (q : Str) (cl : List (Str × Addr)) (pm cv ctv : Value), bindArgs (PySem.W.kla_fn "<lambda>" q params body scope cl pm cv ctv) ⟨[], []⟩ = pure [])
    (hbody : ∀ (A : Around) (outer : List Env) (s : Shared) (H : Hp) (E : XK) (f c' : Addr), Room k (A.deeper (LamX.lamEnv X scope s.heap.objs.size f c')) → ∀ W, DEx c (LamX.lamCx X A outer s H E scope f c') E W body (tb W)) :
    DE c X (.Call (.Name "_law_met" p) [.Lambda params body scope lpos] [] pos) (dMet CB CN tb) := by
  obtain ⟨f, fd, F, m⟩ := M.d.ex
  obtain ⟨oc, od, kV, doc, pm, an, cdv, ct, osl, e, lk, hcd⟩ := F.ex
  have bd : Binds X.K fd ["_law_ask"] [] := F.binds fun _ _ _ _ _ _ us hl => match us, hl with | [_], _ => rfl
  have kp := F.kp
  subst e
  refine ⟨fun g hgc => PE.imp (pe_lamask (T := c.T) (TT := TTm X.K CB CN) (Ng := ["_law_ask", "e"]) (t := fun E s H Q => ∃ (g : G) (W : XWD), g.c = c ∧ XOk g E W ∧ lift g (tb W) s H Q) hg m kp lk hcd bd sc_met rfl (.inl rfl)
    (met_gives (P := X.prog) (w := X.w) (base := X.base) M.xb.mgC M.xn.mgC M.xb.xf M.xb.noF M.xn.xf M.xn.noF) TB hcode hmT hu hr L hdef hbind fun A outer s H E f c' r => ⟨fun pins s' σ H' Q I ⟨g, W, h1, h2, h3⟩ => (((hbody A outer s H E f c' r W).run g h1 h2).run pins s' σ H' Q I h3)⟩) fun s H Q ⟨F1, r, n, PP, R, q, kk⟩ => ?_⟩
  refine ⟨by have := R.bas.tab; rw [hgc] at this; exact this, fun H1 grown tabs1 => ?_⟩
  have R1 : Rel g F1 r n s H1 := R.lam grown (by rw [hgc]; exact tabs1)
  have lay : ∀ (F' : Hp) (n' : Nat) (H' : Hp) (v : V) (d : PD) (tag : Str), PyData.strOk tag = true → Bas (g.call F1 H1) F' n' H' → Dz F' v d → PP (.py (.tuple [.str tag, d])) r n' → ∀ a, H' a = none → Q (.ref a) (upd H' a (.tup [.str tag, v])) := fun F' n' H' v d tag ht b hz pp a ha => by
    have R2 := R1.called b
    have fa : F' a = none := b.und.some ha
    exact kk (upd F' a (.tup [.str tag, v])) (.py (.tuple [.str tag, d])) r n' (.ref a) _ (b.gro.trans (.new fa)) (R2.laid ha fun _ z => by cases z) (Dz.tup upd_same (.cons (.str _ ht) (.cons (hz.mono (.new fa)) .nil))) pp
  refine ⟨g.call F1 H1, metW CB CN r PP, hgc, fun F' n' H' C d f v x b ed rv pl w => ?_, F1, r.map datL, n, _, R1.ask, q, fun F' d r' n' v H' sb R' rv ⟨d1, e, pp⟩ => ⟨by rw [szL]; show 2 ≤ 16777216; omega, fun a ha => ?_⟩⟩
  · obtain ⟨d1, rfl, w⟩ := w
    rcases w with ⟨rfl, rfl, pp⟩ | ⟨rfl, rfl, pp⟩
    · exact ⟨true, M.xb.te, fun _ => ⟨rfl, d, v, rfl, ed, fun a ha => lay F' n' H' v d1 "lot" (by decide +kernel) b rv pp a ha⟩, fun z => by cases z⟩
    · exact ⟨false, M.nb, fun z => (by cases z), fun _ => ⟨true, M.xn.te, rfl, rfl, d, v, rfl, ed, fun a ha => lay F' n' H' v d1 "fault" (by decide +kernel) b rv pp a ha⟩⟩
  · have rw' := rv.wk
    rw [e] at rw'
    exact lay F' n' H' v d1 "told" (by decide +kernel) R'.bas rw' pp a ha
end K21

set_option Elab.async false
set_option linter.all false
set_option maxRecDepth 100000
set_option maxHeartbeats 4000000
/-! K21I3: the spring of draws is laid; an item of a list that is under way. -/
namespace K21
open PySem PySem.Spec PyProof.Rows L2
@[simp] def dIxM (i : Nat) (tk : TED) : TED := fun r n P => (∃ ds, r[i]? = some (some (.mu (.lst ds)))) ∧ tk r n fun kd r1 n1 => ∃ ds k d, r1[i]? = some (some (.mu (.lst ds))) ∧ kd = .py (.int k) ∧ L2.atI ds k = some d ∧ P (.py d) r1 n1
section
variable {X : Cx} {c : Cst} {b : Expr} {tb : TED} {x : Str} {px pos : Pos}
theorem de_ixM (i : Nat) (ho : PE X (.Name x px) (tVar i)) (h : DE c X b tb) (hs : PlainIx b := by exact fun _ _ => rfl) : DE c X (.Subscript (.Name x px) b pos) (dIxM i tb) := ⟨fun g hg => PE.imp (pe_ix ix_list ho (h.run g hg) hs) fun s H Q ⟨F, r, n, P, R, ⟨⟨ds, e⟩, p⟩, k⟩ => by
  obtain ⟨q, eq, _⟩ := R.mu e
  refine ⟨.ref q, eq, F, r, n, _, R, p, fun F1 kd r1 n1 v H1 sb R1 rv ⟨ds1, j, d, e1, ek, ea, p1⟩ => ?_⟩
  subst ek
  cases rv
  obtain ⟨q1, eq1, _, _, _, vs, h4, h5⟩ := R1.mu e1
  have : q1 = q := by rw [eq] at eq1; cases eq1; rfl
  subst this
  obtain ⟨v, a1, a2⟩ := h5.atI ea
  exact ⟨q1, vs, j, v, rfl, rfl, .of h4, a1, k.py sb R1 a2 p1⟩⟩
end
section
variable {P : Program} {w : World} {K : PySem.W.Frag} {mg : Str → Option Value} {base : Heap}
def spStart (K : PySem.W.Frag) : Sp := fun vs H Q _ => ∃ a ns, vs = [.ref a] ∧ SqL K H a ns ∧ ∀ l, H l = none → ∀ p, upd H l (.lst ns) p = none → Q (.ref p) (upd (upd H l (.lst ns)) p (.lst [.ref l, .int 0, .int 0, .int 11]))
theorem sc_start : FnScope ["_law_script"] ["_law_script"] (defScope (topS 50)) := ⟨rfl, rfl, rfl, by decide +kernel, rfl, by decide +kernel, by decide +kernel⟩
theorem ok_start {f : Addr} {fd : FuncData} (F : Fun K "_law_start" "_law_start" (topS 50) f fd) (B : Bn mg) : FnOk P w K mg base CX0 1 f fd ["_law_script"] (spStart K) := by
  refine F.ok (k := 0) sc_start (fun vs H Q E h => ?_) (fun cdv A outer s H vs Q E hr h => ?_)
  · obtain ⟨_, _, rfl, _⟩ := h; rfl
  · obtain ⟨a, ns, rfl, hs, q⟩ := h
    refine ⟨_, pss_one (ps_ret (pe_lst (pa_cons (pe_callTy call_list_of rfl B.list (by decide +kernel) (pa_cons (pv 0) pa_nil)) (pa_cons pe_int (pa_cons pe_int (pa_cons pe_int pa_nil)))))), ?_⟩
    exact ⟨.ref a, rfl, a, ns, rfl, .inl hs, fun l hl => ⟨by rw [szL]; show 4 ≤ 16777216; omega, fun p hp => q l hl p hp⟩⟩
end
end K21

set_option Elab.async false
set_option linter.all false
set_option maxRecDepth 100000
set_option maxHeartbeats 4000000
/-! K21I5: how lots are refused (plain Lean). -/
namespace K21
open PySem PySem.Spec PyProof.Rows L2
theorem cut_fr (es : List PD) {k : Nat} (h : k ≤ es.length) : cutD es (some (k : Int)) none = es.drop k := by
  unfold cutD
  rw [HT.sIx_none, HT.sIx_nat, Nat.min_eq_left h, List.take_of_length_le (by rw [List.length_drop]; omega)]
theorem bad_uniq {D : Deb} {t : PD} {es : List PD} {i k : Nat} (ht : seqOf (.py t) = some es) (hg : ∀ j < i, goodAt D es j) (hb : ¬ goodAt D es i) (h : badAt D t k) : k = i := by
  rcases h with ⟨h, _⟩ | ⟨es', h, _, h1, h2⟩
  · rw [ht] at h; cases h
  · rw [ht] at h
    cases h
    rcases Nat.lt_trichotomy k i with z | z | z
    · exact absurd (hg k z) h2
    · exact z
    · exact absurd (h1 i z) hb
theorem odd_not {e : PD} (he : e ∈ oddL) {x : Str} (hx : x ∈ lawNames) : e ≠ .str x := by
  intro z
  subst z
  simp only [oddL, List.mem_cons, List.not_mem_nil, or_false, PyData.str.injEq, reduceCtorEq, false_or] at he
  rcases he with rfl | rfl | rfl <;> revert hx <;> decide +kernel
theorem same_fault {D : Deb} (m : List Str) (h7 : D.ns.length ≤ 7) : sameD 2 (faultG D m) := by
  have two : ∀ a b : Str, sameD 2 (.tuple [.str a, .str b]) := fun a b => .inr ⟨_, rfl, by simp, by simp [sameD, atomD]⟩
  have three : ∀ a b c : Str, sameD 2 (.tuple [.str a, .str b, .str c]) := fun a b c => .inr ⟨_, rfl, by simp, by simp [sameD, atomD]⟩
  unfold faultG
  split
  · exact three _ _ _
  · split
    · exact three _ _ _
    · unfold faultH
      split
      · exact two _ _
      · split
        · exact .inl trivial
        · split
          · rename_i g r e
            have hg : g ∈ greatsD D := by
              have : g ∈ (greatsD D).filter (withinS m) := by rw [e]; exact List.mem_cons_self
              exact (List.mem_filter.mp this).1
            have hl := ((greats_small h7).2 g hg).length_le
            refine .inr ⟨_, rfl, by simp, fun d hd => ?_⟩
            simp only [List.mem_cons, List.not_mem_nil, or_false] at hd
            rcases hd with rfl | rfl
            · exact .inl trivial
            · refine .inr ⟨_, rfl, by simp; omega, fun d hd => ?_⟩
              obtain ⟨x, _, rfl⟩ := mem_sts.mp hd
              trivial
          · exact .inl trivial
theorem good_left {D : Deb} {ws : List Str} {rest : List PD} {j : Nat} (hn : ws.Nodup) (hi : ∀ x ∈ ws, x ∈ D.ns) (hj : j < ws.length) : goodAt D (sts ws ++ rest) j := by
  obtain ⟨x, h1, h2, h3⟩ := good_of hn hi hj
  have hl : j < (sts ws).length := by simpa using hj
  refine ⟨x, by rw [List.getElem?_append_left hl]; exact h1, h2, ?_⟩
  rw [List.take_append_of_le_length (by omega)]
  exact h3
theorem met_bad {CB CN : Addr} {D : Deb} {t : PD} {es : List PD} {i n : Nat} (ht : seqOf (.py t) = some es) (hg : ∀ j < i, goodAt D es j) (hb : ¬ goodAt D es i) (hs : ∀ ws, es = sts ws → ws.Nodup → False) :
    (∀ d n2, ¬ post_wu [.deb D, .py t] n d n2) ∧ ∀ C f x n2, px_wu CB CN [.deb D, .py t] n C f x n2 → n2 = n ∧ C = CB ∧ f = "index" ∧ x = .py (.int (i : Nat)) := by
  constructor
  · rintro d n2 ⟨_, D', t', ws, e, h2, h3, _⟩
    simp only [List.cons.injEq, DV.deb.injEq, DV.py.injEq, and_true] at e
    obtain ⟨rfl, rfl⟩ := e
    rw [ht] at h2
    exact hs ws (Option.some.inj h2) h3
  · rintro C f x n2 ⟨e0, D', t', e, h⟩
    simp only [List.cons.injEq, DV.deb.injEq, DV.py.injEq, and_true] at e
    obtain ⟨rfl, rfl⟩ := e
    rcases h with ⟨rfl, rfl, k, hk, rfl⟩ | ⟨_, _, ws, h2, h3, _⟩
    · rw [bad_uniq ht hg hb hk]
      exact ⟨e0, rfl, rfl, rfl⟩
    · rw [ht] at h2
      exact (hs ws (Option.some.inj h2) h3).elim
theorem met_none {CB CN : Addr} {D : Deb} {t : PD} {n : Nat} (ht : seqOf (.py t) = none) :
    (∀ d n2, ¬ post_wu [.deb D, .py t] n d n2) ∧ ∀ C f x n2, px_wu CB CN [.deb D, .py t] n C f x n2 → n2 = n ∧ C = CB ∧ f = "index" ∧ x = .py (.int 0) := by
  constructor
  · rintro d n2 ⟨_, D', t', ws, e, h2, h3, _⟩
    simp only [List.cons.injEq, DV.deb.injEq, DV.py.injEq, and_true] at e
    obtain ⟨rfl, rfl⟩ := e
    rw [ht] at h2; cases h2
  · rintro C f x n2 ⟨e0, D', t', e, h⟩
    simp only [List.cons.injEq, DV.deb.injEq, DV.py.injEq, and_true] at e
    obtain ⟨rfl, rfl⟩ := e
    rcases h with ⟨rfl, rfl, k, hk, rfl⟩ | ⟨_, _, ws, h2, h3, _⟩
    · rcases hk with ⟨_, rfl⟩ | ⟨es, h, _⟩
      · exact ⟨e0, rfl, rfl, rfl⟩
      · rw [ht] at h; cases h
    · rw [ht] at h2; cases h2
theorem met_fault {CB CN : Addr} {D : Deb} {t : PD} {m : List Str} {n : Nat} (ht : seqOf (.py t) = some (sts m)) (hn : m.Nodup) (hi : ∀ x ∈ m, x ∈ D.ns) (hm : sortS m = m) (hf : faultG D m ≠ .none) :
    (∀ d n2, ¬ post_wu [.deb D, .py t] n d n2) ∧ ∀ C f x n2, px_wu CB CN [.deb D, .py t] n C f x n2 → n2 = n ∧ C = CN ∧ f = "fault" ∧ x = .py (faultG D m) := by
  constructor
  · rintro d n2 ⟨_, D', t', ws, e, h2, _, _, h5, _⟩
    simp only [List.cons.injEq, DV.deb.injEq, DV.py.injEq, and_true] at e
    obtain ⟨rfl, rfl⟩ := e
    rw [ht] at h2
    have := sts_inj (Option.some.inj h2)
    subst this
    rw [hm] at h5
    exact hf h5
  · rintro C f x n2 ⟨e0, D', t', e, h⟩
    simp only [List.cons.injEq, DV.deb.injEq, DV.py.injEq, and_true] at e
    obtain ⟨rfl, rfl⟩ := e
    rcases h with ⟨_, _, k, hk, _⟩ | ⟨rfl, rfl, ws, h2, _, _, _, rfl⟩
    · exact (good_not_bad ht hn hi hk).elim
    · rw [ht] at h2
      have := sts_inj (Option.some.inj h2)
      subst this
      rw [hm]
      exact ⟨e0, rfl, rfl, rfl⟩
/-- a lot with something otherwise put in -/
theorem bad_odd {D : Deb} {m : List Str} {e : PD} {i : Nat} (hn : m.Nodup) (hi : ∀ x ∈ m, x ∈ D.ns) (him : i ≤ m.length) (he : ∀ x ∈ D.ns, e ≠ .str x) :
    (∀ j < i, goodAt D (sts (m.take i) ++ [e, .none] ++ sts (m.drop i)) j) ∧ ¬ goodAt D (sts (m.take i) ++ [e, .none] ++ sts (m.drop i)) i ∧ ∀ ws, sts (m.take i) ++ [e, .none] ++ sts (m.drop i) = sts ws → ws.Nodup → False := by
  have hl : (m.take i).length = i := by rw [List.length_take]; omega
  refine ⟨fun j hj => ?_, ?_, fun ws h _ => ?_⟩
  · rw [List.append_assoc]
    exact good_left (hn.sublist (List.take_sublist _ _)) (fun x hx => hi x (List.mem_of_mem_take hx)) (by omega)
  · rintro ⟨x, h1, h2, _⟩
    rw [List.append_assoc, List.getElem?_append_right (by simp; omega)] at h1
    simp [hl] at h1
    have : i - min i m.length = 0 := by omega
    rw [this] at h1
    simp at h1
    exact he x h2 h1
  · have : PyData.none ∈ sts ws := by rw [← h]; simp
    obtain ⟨x, _, e⟩ := mem_sts.mp this
    cases e
/-- a lot whose first stands twice -/
theorem bad_twice {D : Deb} {m : List Str} (hn : m.Nodup) (hi : ∀ x ∈ m, x ∈ D.ns) (h0 : m ≠ []) :
    (∀ j < m.length, goodAt D (sts m ++ (sts m).take 1) j) ∧ ¬ goodAt D (sts m ++ (sts m).take 1) m.length ∧ ∀ ws, sts m ++ (sts m).take 1 = sts ws → ws.Nodup → False := by
  obtain ⟨a, r, rfl⟩ : ∃ a r, m = a :: r := by
    cases m with
    | nil => exact absurd rfl h0
    | cons a r => exact ⟨a, r, rfl⟩
  refine ⟨fun j hj => good_left hn hi hj, ?_, fun ws h hw => ?_⟩
  · rintro ⟨x, h1, h2, h3⟩
    rw [List.getElem?_append_right (by simp)] at h1
    simp at h1
    subst h1
    rw [List.take_append_of_le_length (by simp), List.take_of_length_le (by simp), inD_sts] at h3
    simp at h3
  · have e : ws = (a :: r) ++ [a] := sts_inj (by rw [← h]; simp [sts])
    rw [e, List.nodup_append] at hw
    exact hw.2.2 a (by simp) a (by simp) rfl
end K21

set_option Elab.async false
set_option linter.all false
set_option maxRecDepth 100000
set_option maxHeartbeats 4000000
/-! K21I6: the law's last part: how lots are refused. -/
namespace K21
open PySem PySem.Spec PyProof.Rows L2
def ask1 (CB CN : Addr) : TED := dMet CB CN fun W => dCallX pre_wu post_wu (px_wu CB CN) W (dCons (dVar 9) (dCons (tOpD kCat (tOpD kCat (dCut (dVar 4) oNo (oSome (dVar 12))) (dLst (dCons (dCall pre_zo post_zo (dCons (dVar 1) dNil)) (dCons (dC PyData.none) dNil)))) (dCut (dVar 4) (oSome (dVar 12)) oNo)) dNil))
def ask2 (CB CN : Addr) : TED := dMet CB CN fun W => dCallX pre_wu post_wu (px_wu CB CN) W (dCons (dVar 9) (dCons (dCall pre_pick post_pick (dCons (dVar 1) (dCons (dLst (dCons (dC PyData.none) (dCons (dC (PyData.int 5)) (dCons (dC (PyData.dict [])) (dCons (dC (PyData.bool true)) dNil))))) dNil))) dNil))
def ask3 (CB CN : Addr) : TED := dMet CB CN fun W => dCallX pre_wu post_wu (px_wu CB CN) W (dCons (dVar 9) (dCons (tOpD kCat (dVar 4) (dCut (dVar 4) oNo (oSome (dC (PyData.int 1))))) dNil))
def ask4 (CB CN : Addr) : TED := dMet CB CN fun W => dCallX pre_wu post_wu (px_wu CB CN) W (dCons (dVar 9) (dCons (dVar 4) dNil))
def lawRest (CB CN : Addr) : TSD := sSeq (sNewL 6 (dCons (dTup (dCons (dC (PyData.str (Str.ofString "lot"))) (dCons (dVar 12) dNil))) (dCons (dTup (dCons (dC (PyData.str (Str.ofString "lot"))) (dCons (dC (PyData.int 0)) dNil))) (dCons (dTup (dCons (dC (PyData.str (Str.ofString "lot"))) (dCons (dCB kLen (dCons (dVar 4) dNil)) dNil))) dNil))))
    (sSeq (sIf (tBD (tOpD kNotN (dVar 11) (dC PyData.none))) (sSeq (sExpr (dAppend 5 (ask4 CB CN))) (sExpr (dAppend 6 (dTup (dCons (dC (PyData.str (Str.ofString "fault"))) (dCons (dVar 11) dNil)))))) sNext)
      (sSeq (sIf (tBD (tOpD kEq (dVar 4) (dLst dNil))) (sSetL 5 (dIxM 6 (dC (PyData.int 2))) (dC (PyData.int 2))) sNext)
        (sIf (tNotD (tBD (dCall (pre_same 5) (pv1 f_true) (dCons (dFrz 5) (dCons (dFrz 6) dNil))))) (sRet (dC (PyData.bool false))) sNext)))
def lawTail (CB CN : Addr) : TSD := sSeq (sNewL 5 (dCons (ask1 CB CN) dNil)) (sSeq (sExpr (dAppend 5 (ask2 CB CN))) (sSeq (sExpr (dAppend 5 (ask3 CB CN))) (lawRest CB CN)))
/-- the names while the lots are asked for -/
def lEnv (ns : List Str) (ps : List (Str × Str)) (m : List Str) (i : Nat) (a2 a3 a5 a6 a7 a8 a10 : Option Slot) : DEnv :=
  [none, some (.dat .strm), a2, a3, some (.dat (.py (.list (sts m)))), a5, a6, a7, a8, some (.dat (.deb (mkDeb ns ps))), a10, some (.dat (.py (faultG (mkDeb ns ps) m))), some (.dat (.py (.int (i : Nat))))]
structure LotOk (ns : List Str) (ps : List (Str × Str)) (m : List Str) : Prop where
  I : NP ns ps
  hN : NamesOk ns
  hln : ∀ x ∈ ns, x ∈ lawNames
  hl7 : ns.length ≤ 7
  hs : m.Sublist (sortS ns)
section
variable {CB CN : Addr} {ns m : List Str} {ps : List (Str × Str)} {i n : Nat} {a2 a3 a5 a6 a7 a8 a10 : Option Slot} {P : DV → DEnv → Nat → Prop}
theorem LotOk.nd (L : LotOk ns ps m) : m.Nodup := ((sort_pm PyData.str ns).nodup_iff.mpr L.I.nd).sublist L.hs
theorem LotOk.inn (L : LotOk ns ps m) : ∀ x ∈ m, x ∈ (mkDeb ns ps).ns := fun x hx => L.hs.subset hx
theorem LotOk.len (L : LotOk ns ps m) : m.length ≤ 7 := by
  have := L.hs.length_le
  rw [len_sortS] at this
  have := L.hl7
  omega
theorem LotOk.self (L : LotOk ns ps m) : sortS m = m := sort_self PyData.str inj_str ((sort_pw PyData.str ns).sublist L.hs)
theorem LotOk.pre (L : LotOk ns ps m) {t : PD} (h : ∀ es, seqOf (.py t) = some es → es.length ≤ 1000) : pre_wu [.deb (mkDeb ns ps), .py t] n := ⟨ns, ps, t, L.I, L.hN, L.hl7, h, rfl⟩
theorem ask1_ok (L : LotOk ns ps m) (him : i ≤ m.length) (hn : n < 800000) (hP : P (.py (.tuple [.str "lot", .int (i : Nat)])) (lEnv ns ps m i a2 a3 a5 a6 a7 a8 a10) (n + 1)) : ask1 CB CN (lEnv ns ps m i a2 a3 a5 a6 a7 a8 a10) n P := by
  have hm := L.len
  simp only [ask1, dMet, dCallX, dCons, tOpD]
  refine ⟨_, rfl, ?_⟩
  refine (ev_cut (ev_v rfl) evo_no (evo_some (ev_v rfl))) _ ?_
  refine ⟨_, rfl, rfl, ⟨by omega, rfl⟩, fun d n2 h => ?_⟩
  obtain ⟨rfl, e, he, rfl⟩ := h
  refine ⟨_, rfl, by rw [szL]; show 2 ≤ 16777216; omega, ?_⟩
  rw [cut_to]
  refine ⟨_, _, rfl, rfl, by rw [szL]; simp; omega, ?_⟩
  refine (ev_cut (ev_v rfl) (evo_some (ev_v rfl)) evo_no) _ ?_
  rw [cut_fr _ (by simpa using him)]
  refine ⟨_, _, rfl, rfl, by rw [szL]; simp; omega, rfl, ?_⟩
  have es : (sts m).take i ++ [e, .none] ++ (sts m).drop i = sts (m.take i) ++ [e, .none] ++ sts (m.drop i) := by simp [sts, List.map_take, List.map_drop]
  rw [es]
  obtain ⟨b1, b2, b3⟩ := bad_odd (D := mkDeb ns ps) (e := e) L.nd L.inn him fun x hx => odd_not he (L.hln x (mem_sortS.mp hx))
  obtain ⟨c1, c2⟩ := met_bad (CB := CB) (CN := CN) (n := n + 1) (t := .list (sts (m.take i) ++ [e, .none] ++ sts (m.drop i))) rfl b1 b2 b3
  refine ⟨L.pre fun es h => ?_, fun d n3 h => (c1 d n3 h).elim, fun C f x n3 h => ?_⟩
  · cases h
    simp; omega
  · obtain ⟨rfl, rfl, rfl, rfl⟩ := c2 C f x n3 h
    exact ⟨_, rfl, .inl ⟨rfl, rfl, hP⟩⟩
theorem ask2_ok (L : LotOk ns ps m) (hn : n < 800000) (hP : P (.py (.tuple [.str "lot", .int 0])) (lEnv ns ps m i a2 a3 a5 a6 a7 a8 a10) (n + 1)) : ask2 CB CN (lEnv ns ps m i a2 a3 a5 a6 a7 a8 a10) n P := by
  refine ⟨_, rfl, _, rfl, ?_⟩
  refine ⟨_, rfl, by rw [szL]; show 4 ≤ 16777216; omega, rfl, ⟨[.none, .int 5, .dict [], .bool true], by decide, by decide, by omega, rfl⟩, fun d n2 h => ?_⟩
  obtain ⟨rfl, es, e, h7, rfl, hm⟩ := h
  simp only [List.map_cons, List.map_nil, argD, List.cons.injEq, DV.py.injEq, PyData.list.injEq, and_true, true_and] at h7
  subst h7
  have he : seqOf (.py e) = none := by
    simp only [List.mem_cons, List.not_mem_nil, or_false] at hm
    rcases hm with rfl | rfl | rfl | rfl <;> rfl
  obtain ⟨c1, c2⟩ := met_none (CB := CB) (CN := CN) (D := mkDeb ns ps) (n := n + 1) he
  refine ⟨rfl, L.pre fun es h => ?_, fun d n3 h => (c1 d n3 h).elim, fun C f x n3 h => ?_⟩
  · rw [he] at h; cases h
  · obtain ⟨rfl, rfl, rfl, rfl⟩ := c2 C f x n3 h
    exact ⟨_, rfl, .inl ⟨rfl, rfl, hP⟩⟩
theorem ask3_ok (L : LotOk ns ps m) (hP : m ≠ [] → P (.py (.tuple [.str "lot", .int (m.length : Nat)])) (lEnv ns ps m i a2 a3 a5 a6 a7 a8 a10) n) (h0 : m = [] → ∀ d, P (.py d) (lEnv ns ps m i a2 a3 a5 a6 a7 a8 a10) n) : ask3 CB CN (lEnv ns ps m i a2 a3 a5 a6 a7 a8 a10) n P := by
  have hm := L.len
  simp only [ask3, dMet, dCallX, dCons, tOpD]
  refine ⟨_, rfl, _, rfl, ?_⟩
  refine (ev_cut (ev_v rfl) evo_no (evo_some ev_c)) _ ?_
  rw [show ((1 : Int)) = ((1 : Nat) : Int) from rfl, cut_to]
  refine ⟨_, _, rfl, rfl, by rw [szL]; simp; omega, rfl, L.pre fun es h => ?_, fun d n3 h => ?_, fun C f x n3 h => ?_⟩
  · cases h
    simp; omega
  · by_cases he : m = []
    · obtain ⟨e0, _, _, _, _, _, _, _, _, rfl⟩ := h
      subst e0
      cases o : ringF (undDeb _ (sortS _)) with
      | none => exact ⟨_, rfl, h0 he _⟩
      | some u => exact ⟨_, rfl, h0 he _⟩
    · obtain ⟨b1, b2, b3⟩ := bad_twice (D := mkDeb ns ps) L.nd L.inn he
      exact ((met_bad (CB := CB) (CN := CN) (n := n) (t := .list (sts m ++ (sts m).take 1)) rfl b1 b2 b3).1 d n3 h).elim
  · by_cases he : m = []
    · obtain ⟨e0, _, _, _, h⟩ := h
      subst e0
      rcases h with ⟨rfl, rfl, k, _, rfl⟩ | ⟨rfl, rfl, ws, _, _, _, _, rfl⟩
      · exact ⟨_, rfl, .inl ⟨rfl, rfl, h0 he _⟩⟩
      · exact ⟨_, rfl, .inr ⟨rfl, rfl, h0 he _⟩⟩
    · obtain ⟨b1, b2, b3⟩ := bad_twice (D := mkDeb ns ps) L.nd L.inn he
      obtain ⟨rfl, rfl, rfl, rfl⟩ := (met_bad (CB := CB) (CN := CN) (n := n) (t := .list (sts m ++ (sts m).take 1)) rfl b1 b2 b3).2 C f x n3 h
      exact ⟨_, rfl, .inl ⟨rfl, rfl, hP he⟩⟩
theorem ask4_ok (L : LotOk ns ps m) (hf : faultG (mkDeb ns ps) m ≠ .none) (hP : P (.py (.tuple [.str "fault", faultG (mkDeb ns ps) m])) (lEnv ns ps m i a2 a3 a5 a6 a7 a8 a10) n) : ask4 CB CN (lEnv ns ps m i a2 a3 a5 a6 a7 a8 a10) n P := by
  have hm := L.len
  obtain ⟨c1, c2⟩ := met_fault (CB := CB) (CN := CN) (n := n) (t := .list (sts m)) rfl L.nd L.inn L.self hf
  refine ⟨_, rfl, _, rfl, rfl, L.pre fun es h => ?_, fun d n3 h => (c1 d n3 h).elim, fun C f x n3 h => ?_⟩
  · cases h
    simp; omega
  · obtain ⟨rfl, rfl, rfl, rfl⟩ := c2 C f x n3 h
    exact ⟨_, rfl, .inr ⟨rfl, rfl, hP⟩⟩
def lotT (k : Nat) : PD := .tuple [.str "lot", .int (k : Nat)]
theorem lawRest_ok {E : EndsD} {d3 : PD} (L : LotOk ns ps m) (him : i ≤ m.length) (h3 : m ≠ [] → d3 = lotT m.length) (hE : ∀ a5 a6, E.nx (lEnv ns ps m i a2 a3 a5 a6 a7 a8 a10) n) :
    lawRest CB CN E (lEnv ns ps m i a2 a3 (some (.mu (.lst [lotT i, lotT 0, d3]))) a6 a7 a8 a10) n := by
  have hm := L.len
  have hD7 : (mkDeb ns ps).ns.length ≤ 7 := by show (sortS ns).length ≤ 7; rw [len_sortS]; exact L.hl7
  have sL : ∀ k, sameD 3 (lotT k) := fun k => .inr ⟨_, rfl, by simp, by simp [sameD, atomD]⟩
  have sF : sameD 3 (.tuple [.str "fault", faultG (mkDeb ns ps) m]) := .inr ⟨_, rfl, by simp, fun e he => by
    simp only [List.mem_cons, List.not_mem_nil, or_false] at he
    rcases he with rfl | rfl
    · exact .inl trivial
    · exact same_fault m hD7⟩
  have p1 : ∀ n, pre_same 5 [.py (.list [lotT i, lotT 0, lotT m.length]), .py (.list [lotT i, lotT 0, lotT m.length])] n := fun n => ⟨_, .inr ⟨_, rfl, by simp, fun e he => by
    simp only [List.mem_cons, List.not_mem_nil, or_false] at he
    rcases he with rfl | rfl | rfl <;> exact sL _⟩, rfl⟩
  have p2 : ∀ n, pre_same 5 [.py (.list ([lotT i, lotT 0, lotT m.length] ++ [.tuple [.str "fault", faultG (mkDeb ns ps) m]])), .py (.list ([lotT i, lotT 0, lotT m.length] ++ [.tuple [.str "fault", faultG (mkDeb ns ps) m]]))] n := fun n => ⟨_, .inr ⟨_, rfl, by simp, fun e he => by
    simp only [List.mem_append, List.mem_cons, List.not_mem_nil, or_false] at he
    rcases he with (rfl | rfl | rfl) | rfl
    · exact sL _
    · exact sL _
    · exact sL _
    · exact sF⟩, rfl⟩
  unfold lawRest
  by_cases hf : faultG (mkDeb ns ps) m = .none
  · have c : K21.isNone (.py (faultG (mkDeb ns ps) m)) = true := by rw [hf]; rfl
    simp only [K21.isNone] at c
    simp [lEnv, -Bool.exists_bool, -seqOf]
    refine ⟨by rw [szL]; omega, by rw [szL]; omega, ?_⟩
    rw [if_pos c]
    split
    · refine ⟨lotT m.length, atI_nat (j := 2) rfl, 2, rfl, by omega, p1 n, fun d n2 h => ?_⟩
      obtain ⟨rfl, rfl⟩ := h
      exact ⟨true, rfl, by rw [if_pos rfl]; exact hE _ _⟩
    · rename_i he
      rw [h3 he]
      refine ⟨p1 n, fun d n2 h => ?_⟩
      obtain ⟨rfl, rfl⟩ := h
      exact ⟨true, rfl, by rw [if_pos rfl]; exact hE _ _⟩
  · have c : K21.isNone (.py (faultG (mkDeb ns ps) m)) = false := by
      cases e : faultG (mkDeb ns ps) m <;> first | rfl | exact absurd e hf
    simp only [K21.isNone] at c
    simp [lEnv, -Bool.exists_bool, -seqOf]
    refine ⟨by rw [szL]; omega, by rw [szL]; omega, ?_⟩
    rw [if_neg (by rw [c]; simp)]
    refine ask4_ok (i := i) (a2 := a2) (a3 := a3) (a5 := some (.mu (.lst [lotT i, lotT 0, d3]))) (a6 := some (.mu (.lst [lotT i, lotT 0, lotT m.length]))) (a7 := a7) (a8 := a8) (a10 := a10) L hf ?_
    simp [lEnv, -Bool.exists_bool, -seqOf, eqv_nil]
    refine ⟨by rw [szL]; omega, by rw [szL]; omega, by rw [szL]; omega, ?_⟩
    split
    · refine ⟨lotT m.length, atI_nat (j := 2) rfl, 2, rfl, by omega, p2 n, fun d n2 h => ?_⟩
      obtain ⟨rfl, rfl⟩ := h
      exact ⟨true, rfl, by rw [if_pos rfl]; exact hE _ _⟩
    · rename_i he
      rw [h3 he]
      refine ⟨p2 n, fun d n2 h => ?_⟩
      obtain ⟨rfl, rfl⟩ := h
      exact ⟨true, rfl, by rw [if_pos rfl]; exact hE _ _⟩
theorem lawTail_ok {E : EndsD} (L : LotOk ns ps m) (him : i ≤ m.length) (hn : n < 700000) (hE : ∀ a5 a6, E.nx (lEnv ns ps m i a2 a3 a5 a6 a7 a8 a10) (n + 1 + 1)) : lawTail CB CN E (lEnv ns ps m i a2 a3 a5 a6 a7 a8 a10) n := by
  have rest : ∀ d3, (m ≠ [] → d3 = lotT m.length) → lawRest CB CN E (lEnv ns ps m i a2 a3 (some (.mu (.lst [lotT i, lotT 0, d3]))) a6 a7 a8 a10) (n + 1 + 1) := fun d3 h3 => lawRest_ok L him h3 hE
  simp only [lawTail, sSeq, sNewL, sExpr, dAppend, dCons, dNil]
  refine ask1_ok (n := n) L him (by omega) ?_
  refine ⟨_, rfl, by rw [szL]; show 1 ≤ 16777216; omega, ?_⟩
  refine ⟨⟨_, rfl⟩, ?_⟩
  refine ask2_ok (n := n + 1) (i := i) (a2 := a2) (a3 := a3) (a5 := some (.mu (.lst [lotT i]))) (a6 := a6) (a7 := a7) (a8 := a8) (a10 := a10) L (by omega) ?_
  refine ⟨_, _, rfl, rfl, by rw [szL]; show 1 < 16777216; omega, ?_⟩
  refine ⟨⟨_, rfl⟩, ?_⟩
  refine ask3_ok (n := n + 1 + 1) (i := i) (a2 := a2) (a3 := a3) (a5 := some (.mu (.lst [lotT i, lotT 0]))) (a6 := a6) (a7 := a7) (a8 := a8) (a10 := a10) L (fun _ => ?_) (fun h d => ?_)
  · exact ⟨_, _, rfl, rfl, by rw [szL]; show 2 < 16777216; omega, rest _ fun _ => rfl⟩
  · exact ⟨_, _, rfl, rfl, by rw [szL]; show 2 < 16777216; omega, rest d fun z => absurd h z⟩
end
end K21

set_option Elab.async false
set_option linter.all false
set_option maxRecDepth 100000
set_option maxHeartbeats 4000000
/-! K21I4: the law. -/
namespace K21
open PySem PySem.Spec PyProof.Rows L2
section
variable {P : Program} {w : World} {K : PySem.W.Frag} {mg : Str → Option Value} {base : Heap} {c : Cst}
theorem sc_law : FnScope ["_law_script", "_law_stream", "_law_turn", "_law_some", "_law_lot", "_law_found", "_law_due", "_law_names", "_law_pairs", "_law_made", "_law_far", "_law_fault", "_law_at"] ["_law_script"] (defScope (topS 78)) := ⟨rfl, rfl, rfl, by decide +kernel, rfl, by decide +kernel, by decide +kernel⟩
abbrev nLaw : List Str := ["_law_script", "_law_stream", "_law_turn", "_law_some", "_law_lot", "_law_found", "_law_due", "_law_names", "_law_pairs", "_law_made", "_law_far", "_law_fault", "_law_at"]
/-- one turn and all -/
theorem law_walk {CB CN cc f PT : Addr} {A : Around} {outer : List Env} {s : Shared} {H : Hp} {E : XK} (B : Bn mg) (M : MetT P w K mg base CB CN) (TB : LamX.TabB base mg cc PT) (hmT : (PT, (("law" : Str) ++ ".<locals>.") ++ "<lambda>") ∈ c.T) (huT : ∀ p ∈ c.T, p.1 = PT → p.2 = (("law" : Str) ++ ".<locals>.") ++ "<lambda>")
    (O_law_d_debate : OkD P w K mg base c "_law_d_debate" ["_law_stream", "_law_most"] 4 pre_dd post_dd) (O_law_z_made : OkD P w K mg base c "_law_z_made" ["_law_stream", "_law_some"] 8 pre_zm post_zm) (O_law_twice : OkD P w K mg base c "_law_twice" ["_law_stream"] 3 pre_tw post_tw)
    (O_law_rings_right : OkG P w K mg base c "_law_rings_right" ["_law_stream", "_law_made", "_law_names", "_law_pairs"] 8 pre_rr post_rr) (O_law_unsettled_right : OkG P w K mg base c "_law_unsettled_right" ["_law_made", "_law_names", "_law_pairs"] 10 pre_ur post_ur) (O_law_pick : OkD P w K mg base c "_law_pick" ["_law_stream", "_law_some"] 2 pre_pick post_pick)
    (O_law_d_subsets : OkD P w K mg base c "_law_d_subsets" ["_law_names"] 1 pre_ns (pv1 f_d_subsets)) (O_fault_of : OkD P w K mg base c "fault_of" ["debate", "way", "lot"] 7 pre_fo post_fo) (O_law_draw : OkD P w K mg base c "_law_draw" ["_law_stream", "_law_many"] 1 pre_draw post_draw)
    (O_law_z_odd_name : OkD P w K mg base c "_law_z_odd_name" ["_law_stream"] 3 pre_zo post_zo) (O_why_unsettled : OkX P w K mg base c "why_unsettled" ["debate", "lot"] 9 pre_wu post_wu (px_wu CB CN)) (O_law_same : OkD P w K mg base c "_law_same" ["_law_found", "_law_due"] 6 (pre_same 5) (pv1 f_true))
    (hr : Room 11 (A.deeper (envOfC "law" (defScope (topS 78)) s.heap.objs.size f (.ref cc)))) (gd : A.guards = some []) :
    ∃ t, DSs c (cxOf CX0 P w K mg base nLaw "law" (defScope (topS 78)) f (.ref cc) A outer s H E).nox ((defBody (topS 78)).drop 1) t ∧ ∀ EE : EndsD, (∀ n', EE.rt (.py (.bool true)) n') → t EE ([none, some (.dat .strm)] ++ List.replicate (nLaw.length - 2) none) 0 := by
  refine ⟨_, (dss_cons (ds_for (.one 2) PassesOwn.never rfl (di_rng rfl B.range de_int) (pg_name (i := 2) sc_law.nd rfl (Or.inl rfl)) (dss_cons (ds_set (i := 3) sc_law.nd rfl (Or.inl rfl) (de_ok O_law_d_debate hr (by decide) rfl (da_cons (de_v 1 (pv 1)) (da_cons de_int da_nil)))) (dss_cons (ds_unp (de_v 3 (pv 3)) (pg_tup rfl (pgs_cons (pg_name (i := 7) sc_law.nd rfl (Or.inl rfl)) (pgs_cons (pg_name (i := 8) sc_law.nd rfl (Or.inl rfl)) pgs_nil)))) (dss_cons (ds_par (par2_G (i := 9) (j := 10) (pg_tup rfl (pgs_cons (pg_name (i := 9) sc_law.nd rfl (Or.inr rfl)) (pgs_cons (pg_name (i := 10) sc_law.nd rfl (Or.inl rfl)) pgs_nil)))) (de_ok O_law_z_made hr (by decide) rfl (da_cons (de_v 1 (pv 1)) (da_cons (de_v 3 (pv 3)) da_nil))) (de_ok O_law_twice hr (by decide) rfl (da_cons (de_v 1 (pv 1)) da_nil))) (dss_cons (ds_if (DW.dt (dw_or (dt_not (dt_val (de_okG O_law_rings_right hr gd (by decide) rfl (da_cons (de_v 1 (pv 1)) (da_cons (de_v 9 (pv 9)) (da_cons (de_v 7 (pv 7)) (da_cons (de_v 8 (pv 8)) da_nil))))))) (dw_or1 (dt_not (dt_val (de_okG O_law_unsettled_right hr gd (by decide) rfl (da_cons (de_v 9 (pv 9)) (da_cons (de_v 7 (pv 7)) (da_cons (de_v 8 (pv 8)) da_nil))))))))) (dss_one (ds_ret de_bl)) dss_nil) (dss_cons (ds_if (dt_not (dt_val (de_okG O_law_rings_right hr gd (by decide) rfl (da_cons (de_v 1 (pv 1)) (da_cons (de_ok O_law_z_made hr (by decide) rfl (da_cons (de_v 1 (pv 1)) (da_cons (de_v 10 (pv 10)) da_nil))) (da_cons (de_ix (de_v 10 (pv 10)) de_int) (da_cons (de_ix (de_v 10 (pv 10)) de_int) da_nil))))))) (dss_one (ds_ret de_bl)) dss_nil) (dss_cons (ds_set (i := 4) sc_law.nd rfl (Or.inr rfl) (de_ok O_law_pick hr (by decide) rfl (da_cons (de_v 1 (pv 1)) (da_cons (de_ok O_law_d_subsets hr (by decide) rfl (da_cons (de_v 7 (pv 7)) da_nil)) da_nil)))) (dss_cons (ds_par (par2_G (i := 11) (j := 12) (pg_tup rfl (pgs_cons (pg_name (i := 11) sc_law.nd rfl (Or.inl rfl)) (pgs_cons (pg_name (i := 12) sc_law.nd rfl (Or.inr rfl)) pgs_nil)))) (de_ok O_fault_of hr (by decide) rfl (da_cons (de_v 9 (pv 9)) (da_cons de_str (da_cons (de_v 4 (pv 4)) da_nil)))) (de_ok O_law_draw hr (by decide) rfl (da_cons (de_v 1 (pv 1)) (da_cons (de_add (de_len rfl B.len (de_v 4 (pv 4))) de_int) da_nil)))) (dss_cons (ds_newL (i := 5) sc_law.nd rfl (Or.inl rfl) (da_cons (de_met (k := 9) M rfl TB rfl hmT huT (hr.mono (by decide)) (show LamX.LamS (defScope (topS 78)) _ from LamX.lamS_by (by decide +kernel)) rfl (fun _ _ _ _ _ => rfl) (fun _ _ _ _ _ _ _ hk W => dex_call O_why_unsettled hk (by decide) rfl (takes_of rfl rfl rfl rfl) (da_cons (de_v 9 (pv 9)) (da_cons (de_cat (de_cat (de_cut (de_v 4 (pv 4)) do_none (do_some (de_v 12 (pv 12)))) (de_lst (da_cons (de_ok O_law_z_odd_name hk (by decide) rfl (da_cons (de_v 1 (pv 1)) da_nil)) (da_cons de_non da_nil)))) (de_cut (de_v 4 (pv 4)) (do_some (de_v 12 (pv 12))) do_none)) da_nil)))) da_nil)) (dss_cons (ds_expr (de_append 5 (pv 5) (de_met (k := 9) M rfl TB rfl hmT huT (hr.mono (by decide)) (show LamX.LamS (defScope (topS 78)) _ from LamX.lamS_by (by decide +kernel)) rfl (fun _ _ _ _ _ => rfl) (fun _ _ _ _ _ _ _ hk W => dex_call O_why_unsettled hk (by decide) rfl (takes_of rfl rfl rfl rfl) (da_cons (de_v 9 (pv 9)) (da_cons (de_ok O_law_pick hk (by decide) rfl (da_cons (de_v 1 (pv 1)) (da_cons (de_lst (da_cons de_non (da_cons de_int (da_cons de_d0 (da_cons de_bl da_nil))))) da_nil))) da_nil)))))) (dss_cons (ds_expr (de_append 5 (pv 5) (de_met (k := 9) M rfl TB rfl hmT huT (hr.mono (by decide)) (show LamX.LamS (defScope (topS 78)) _ from LamX.lamS_by (by decide +kernel)) rfl (fun _ _ _ _ _ => rfl) (fun _ _ _ _ _ _ _ hk W => dex_call O_why_unsettled hk (by decide) rfl (takes_of rfl rfl rfl rfl) (da_cons (de_v 9 (pv 9)) (da_cons (de_cat (de_v 4 (pv 4)) (de_cut (de_v 4 (pv 4)) do_none (do_some de_int))) da_nil)))))) (dss_cons (ds_newL (i := 6) sc_law.nd rfl (Or.inl rfl) (da_cons (de_tup (da_cons de_str (da_cons (de_v 12 (pv 12)) da_nil))) (da_cons (de_tup (da_cons de_str (da_cons de_int da_nil))) (da_cons (de_tup (da_cons de_str (da_cons (de_len rfl B.len (de_v 4 (pv 4))) da_nil))) da_nil)))) (dss_cons (ds_if (dt_notN (de_v 11 (pv 11)) de_non) (dss_cons (ds_expr (de_append 5 (pv 5) (de_met (k := 9) M rfl TB rfl hmT huT (hr.mono (by decide)) (show LamX.LamS (defScope (topS 78)) _ from LamX.lamS_by (by decide +kernel)) rfl (fun _ _ _ _ _ => rfl) (fun _ _ _ _ _ _ _ hk W => dex_call O_why_unsettled hk (by decide) rfl (takes_of rfl rfl rfl rfl) (da_cons (de_v 9 (pv 9)) (da_cons (de_v 4 (pv 4)) da_nil)))))) (dss_one (ds_expr (de_append 6 (pv 6) (de_tup (da_cons de_str (da_cons (de_v 11 (pv 11)) da_nil))))))) dss_nil) (dss_cons (ds_if (dt_eq (hu64 hr) (de_v 4 (pv 4)) (de_lst da_nil)) (dss_one (ds_setL 5 (pv 5) (de_ixM 6 (pv 6) de_int) de_int (hq := pg_sub (pv 5) (DE.x de_int) L2.set_list))) dss_nil) (dss_one (ds_if (dt_not (dt_val (de_ok O_law_same hr (by decide) rfl (da_cons (de_frz 5 (pv 5)) (da_cons (de_frz 6 (pv 6)) da_nil))))) (dss_one (ds_ret de_bl)) dss_nil)))))))))))))))) (dss_one (ds_ret de_bl))), fun EE hE => ?_⟩
  refine for_t (List.range 4) (fun i => .int (i : Nat)) (fun k r n => n ≤ 33000 * k ∧ ∃ a2 a3 a4 a5 a6 a7 a8 a9 a10 a11 a12, r = [none, some (.dat .strm), a2, a3, a4, a5, a6, a7, a8, a9, a10, a11, a12]) (fun KK h => ⟨4, rfl, by omega, by omega, h⟩)
    ⟨Nat.zero_le _, none, none, none, none, none, none, none, none, none, none, none, rfl⟩ (fun k x r n hx hI => ?_) (fun r n hI => ⟨rfl, hE n⟩)
  obtain ⟨hn, a2, a3, a4, a5, a6, a7, a8, a9, a10, a11, a12, rfl⟩ := hI
  have hk : k < 4 := by simpa using (List.getElem?_eq_some_iff.mp hx).1
  refine ⟨_, rfl, rfl, ⟨by omega, rfl⟩, fun d n2 h => ?_⟩
  obtain ⟨hn2, ns, ps, hnd, hln, hl7, l2, hpd, hpm, rfl⟩ := h
  have I : NP ns ps := ⟨hnd, hpd, hpm, by omega, l2⟩
  have hN := names_law hln
  refine ⟨_, rfl, _, _, rfl, ?_⟩
  refine ⟨_, rfl, _, rfl, rfl, ⟨ns, ps, I, hN, by omega, rfl⟩, fun d n3 h => ?_⟩
  obtain ⟨hn3, ns', ps', e, rfl⟩ := h
  simp only [List.map_cons, List.map_nil, argD, List.cons.injEq, DV.py.injEq, PyData.tuple.injEq, PyData.list.injEq, and_true, true_and] at e
  obtain ⟨e1, e2⟩ := e
  have e1 := sts_inj e1
  have e2 := pairs_inj e2
  subst e1 e2
  refine ⟨_, rfl, rfl, ⟨by omega, rfl⟩, fun d n4 h => ?_⟩
  obtain ⟨hn4, fs, gs, J, hF, hfl, hf0, rfl⟩ := h
  refine ⟨_, rfl, _, rfl, _, rfl, _, rfl, rfl, ⟨ns, ps, I, hN, by omega, rfl⟩, fun d n5 h => ?_⟩
  obtain ⟨hn5, rfl⟩ := h
  refine ⟨_, rfl, ?_⟩
  simp only [Bool.not_true, Bool.false_eq_true, if_false]
  refine ⟨_, rfl, _, rfl, _, rfl, rfl, ⟨ns, ps, I, hN, hl7, rfl⟩, fun d n6 h => ?_⟩
  obtain ⟨rfl, rfl⟩ := h
  refine ⟨_, rfl, ?_⟩
  simp only [Bool.not_true, Bool.false_eq_true, if_false]
  refine ⟨_, rfl, _, rfl, _, rfl, rfl, ⟨fs, gs, J, hF, by omega, rfl⟩, fun d n7 h => ?_⟩
  obtain ⟨hn7, fs', gs', e, rfl⟩ := h
  simp only [List.map_cons, List.map_nil, argD, List.cons.injEq, DV.py.injEq, PyData.tuple.injEq, PyData.list.injEq, and_true, true_and] at e
  obtain ⟨e1, e2⟩ := e
  have e1 := sts_inj e1
  have e2 := pairs_inj e2
  subst e1 e2
  refine ⟨_, rfl, _, 0, _, rfl, rfl, atI_0 _ _, _, rfl, _, 1, _, rfl, rfl, atI_1 _ _ _, rfl, ⟨fs, gs, J, hF, by omega, rfl⟩, fun d n8 h => ?_⟩
  obtain ⟨hn8, rfl⟩ := h
  refine ⟨_, rfl, ?_⟩
  simp only [Bool.not_true, Bool.false_eq_true, if_false]
  refine ⟨_, rfl, _, rfl, rfl, ⟨ns, hl7, rfl⟩, fun d n9 h => ?_⟩
  obtain ⟨rfl, rfl⟩ := h
  obtain ⟨s1, s2⟩ := subsets_small hl7
  have s3 : 0 < (subsets ns).length := List.length_pos_iff.mpr fun z => by
    have : sortS ns ∈ subsets ns := subsets_mem.mpr (List.Sublist.refl _)
    rw [z] at this; cases this
  refine ⟨rfl, ⟨lotsD (subsets ns), by simpa [lotsD] using s3, by simp [lotsD]; omega, by omega, by simp⟩, fun d n10 h => ?_⟩
  obtain ⟨rfl, es, e, h7, rfl, hm⟩ := h
  simp at h7
  subst h7
  obtain ⟨m, hm0, rfl⟩ := List.mem_map.mp hm
  have hs : m.Sublist (sortS ns) := s2 m hm0
  have hmn : m.Nodup := ((sort_pm PyData.str ns).nodup_iff.mpr I.nd).sublist hs
  have hmi : ∀ x ∈ m, x ∈ (mkDeb ns ps).ns := fun x hx => hs.subset hx
  have hml : m.length ≤ 7 := by
    have := hs.length_le
    rw [len_sortS] at this
    omega
  have hms : sortS m = m := by
    have := sort_back (ns := ns) (m := m) hs
    rw [← this]
    exact (sort_unique' PyData.str inj_str ((sort_pm PyData.str m.reverse)))
  have hD7 : (mkDeb ns ps).ns.length ≤ 7 := by show (sortS ns).length ≤ 7; rw [len_sortS]; exact hl7
  refine ⟨_, rfl, _, rfl, rfl, ⟨mkDeb ns ps, m, I.ok, hD7, by omega, hmn, hmi, fun h1 h2 => ?_, rfl⟩, fun d n11 h => ?_⟩
  · rw [hms] at h1 h2 ⊢
    exact fault_pre I.ok hs h1 h2
  obtain ⟨rfl, D', m', e, rfl⟩ := h
  simp only [lotD, List.map_cons, List.map_nil, argD, List.cons.injEq, DV.deb.injEq, DV.py.injEq, PyData.list.injEq, and_true, true_and] at e
  obtain ⟨rfl, e⟩ := e
  have e := sts_inj e
  subst e
  rw [hms]
  refine ⟨_, rfl, (ev_add (ev_len (ev_v rfl)) ev_c) _ ?_⟩
  refine ⟨rfl, ⟨m.length + 1, by omega, by omega, by omega, by simp⟩, fun d n12 h => ?_⟩
  obtain ⟨rfl, mm, i, e, rfl, hi⟩ := h
  have him : i ≤ m.length := by simp at e; omega
  refine lawTail_ok (E := { nx := fun r n => n ≤ 33000 * (k + 1) ∧ ∃ a2 a3 a4 a5 a6 a7 a8 a9 a10 a11 a12, r = [none, some (.dat .strm), a2, a3, a4, a5, a6, a7, a8, a9, a10, a11, a12], rt := EE.rt, bk := sRet (dC (PyData.bool true)) EE, ct := fun r n => n ≤ 33000 * (k + 1) ∧ ∃ a2 a3 a4 a5 a6 a7 a8 a9 a10 a11 a12, r = [none, some (.dat .strm), a2, a3, a4, a5, a6, a7, a8, a9, a10, a11, a12] })
    (n := n9 + 1 + 1) ⟨I, hN, hln, hl7, hs⟩ him (by omega) fun b5 b6 => ⟨by omega, _, _, _, _, _, _, _, _, _, _, _, rfl⟩
end
end K21

set_option Elab.async false
set_option linter.all false
set_option maxRecDepth 100000
set_option maxHeartbeats 4000000
/-! K21I7: the law as a def that is called. -/
namespace K21
open PySem PySem.Spec PyProof.Rows L2
def spLaw (K : PySem.W.Frag) (T : List (Addr × Str)) : Sp := fun vs H Q _ => ∃ (a : Addr) (ns : List Int), vs = [.ref a] ∧ SqL K H a (ns.map V.int) ∧ (∀ z ∈ ns, Builtin.Int.intBits z ≤ 1048576) ∧ (∀ p ∈ T, H p.1 = some (.tbl #[])) ∧ ∀ H', Q (.bl true) H'
theorem bits_abs {z : Int} (h : Builtin.Int.intBits z ≤ 1048576) : z.natAbs < 2 ^ 1048577 :=
  Nat.lt_of_lt_of_le (PySem.intBits_le_iff.mp h) (Nat.pow_le_pow_right (Nat.zero_lt_two) (Nat.le_succ 1048576))
section
variable {P : Program} {w : World} {K : PySem.W.Frag} {mg : Str → Option Value} {base : Heap} {c : Cst}
theorem law_body {f cc fs : Addr} {fds : FuncData} {A : Around} {outer : List Env} {s : Shared} {H : Hp} {Q : VK} {E : XK} {vs : List V} {t : TSD} (B : Bn mg) (Fs : Fun K "_law_start" "_law_start" (topS 50) fs fds) (ms : mg "_law_start" = some (.ref fs))
    (hr : Room 11 (A.deeper (envOfC "law" (defScope (topS 78)) s.heap.objs.size f (.ref cc))))
    (ht : DSs c (cxOf CX0 P w K mg base nLaw "law" (defScope (topS 78)) f (.ref cc) A outer s H E).nox ((defBody (topS 78)).drop 1) t) (hq : ∀ EE : EndsD, (∀ n', EE.rt (.py (.bool true)) n') → t EE ([none, some (.dat .strm)] ++ List.replicate (nLaw.length - 2) none) 0)
    (h : spLaw K c.T vs H Q E) :
    ∃ t, PSs (cxOf CX0 P w K mg base nLaw "law" (defScope (topS 78)) f (.ref cc) A outer s H E).nox (defBody (topS 78)) t ∧ t { nx := fun _ H' => Q .non H', rt := Q } (L2.start nLaw vs) H := by
  obtain ⟨a, ns, rfl, hs, hb, hT, q⟩ := h
  have bd : Binds K fds ["_law_script"] [] := Fs.binds fun _ _ _ _ _ _ us hl => match us, hl with | [_], _ => rfl
  refine ⟨_, pss_cons (ps_set (i := 1) sc_law.nd rfl (Or.inr rfl) (pe_call (ok_start Fs B) (hr.mono (by decide)) rfl ms Fs.kp bd .nil pass0 (pa_cons (pv 0) pa_nil))) (DSs.x ht), ?_⟩
  refine ⟨.ref a, rfl, a, ns.map V.int, rfl, hs, fun l hl p hp => ?_⟩
  have npl : p ≠ l := fun z => by rw [z, upd_same] at hp; cases hp
  have hHp : H p = none := by rw [upd_ne npl] at hp; exact hp
  have hp2 : ∀ {b : Addr} {o : HO}, H b = some o → upd (upd H l (.lst (ns.map V.int))) p (.lst [.ref l, .int 0, .int 0, .int 11]) b = some o := fun {b o} e => by
    rw [upd_ne (ne_of_none e hHp), upd_ne (ne_of_none e hl)]; exact e
  have c1 : upd (upd H l (.lst (ns.map V.int))) p (.lst [.ref l, .int 0, .int 0, .int 11]) p = some (.lst [.ref l, .int 0, .int 0, .int 11]) := upd_same
  have c2 : upd (upd H l (.lst (ns.map V.int))) p (.lst [.ref l, .int 0, .int 0, .int 11]) l = some (.lst (ns.map V.int)) := by rw [upd_ne (Ne.symm npl), upd_same]
  generalize upd (upd H l (.lst (ns.map V.int))) p (.lst [.ref l, .int 0, .int 0, .int 11]) = H2 at hp2 c1 c2
  have b0 : Bas ⟨c, some (p, l), noH, H2, noH⟩ noH 0 H2 := by
    refine ⟨fun b o e => (by cases e), .refl _, fun b o _ e => (by cases e), fun b o e _ _ => e, fun b ps e => ⟨ps, e⟩, fun b ps e => (by cases e), fun q0 hq0 => LamX.TabS.nil (hp2 (hT q0 hq0)), fun s0 e => ?_, fun b _ => rfl, fun b o e => (by cases e)⟩
    cases e
    exact ⟨npl, ns, 0, 0, 11, c1, c2, by omega, by decide +kernel, fun z hz => bits_abs (hb z hz), by omega, by omega, by omega, by omega⟩
  refine ⟨⟨c, some (p, l), noH, H2, noH⟩, rfl, noH, _, 0, ⟨fun _ _ => False, fun d _ => d = .py (.bool true), fun _ _ => False, fun _ _ => False⟩, ⟨b0, ?_, fun i z e => ?_, fun i j m m' p0 _ e1 => ?_⟩, hq _ fun _ => rfl, ⟨fun F' r' n' s' H' R hx => hx.elim, fun F' d n' v H' b' rv pl hx => ?_, fun _ _ _ _ _ _ z => z.elim, fun _ _ _ _ _ _ z => z.elim⟩⟩
  · rfl
  · rcases i with _ | _ | i
    · cases e
    · cases e
      exact ⟨.ref p, rfl, (p, l), rfl, rfl⟩
    · have : ([none, some (Slot.dat DV.strm)] ++ List.replicate (nLaw.length - 2) (none : Option Slot))[i + 2]? = (List.replicate (nLaw.length - 2) (none : Option Slot))[i]? := rfl
      rw [this, List.getElem?_replicate] at e
      split at e <;> cases e
  · rcases i with _ | _ | i
    · cases e1
    · cases e1
    · have : ([none, some (Slot.dat DV.strm)] ++ List.replicate (nLaw.length - 2) (none : Option Slot))[i + 2]? = (List.replicate (nLaw.length - 2) (none : Option Slot))[i]? := rfl
      rw [this, List.getElem?_replicate] at e1
      split at e1 <;> cases e1
  · subst hx
    cases rv
    exact q H'
end
end K21

set_option Elab.async false
set_option linter.all false
set_option maxRecDepth 100000
set_option maxHeartbeats 4000000
/-! K21I8: the end of a law that is called where no repr is under way. -/
namespace K21
open PySem PySem.Spec PyProof.Rows L2 LamX
theorem law_callG {P : Program} {w : World} {K : PySem.W.Frag} {mg mb : Str → Option Value} {k : Nat} {fa a : Addr} {cs : List (Addr × Addr)} {fd : FuncData} {x : Str} {sp : Sp} {s₁ : Shared} {vs : List Value} {ns : List Int}
    (KX : K.In s₁.heap) (hns : s₁.heap.Ns mainGlobals mg) (hb : s₁.heap.Ns builtinsNs mb) (hbb : ∀ x : Str, x ≠ "__name__" → mb x = bootBuiltins x) (hlim : s₁.heap.NoLimit) (hg : s₁.gens = #[])
    (hT : ∀ p ∈ cs, s₁.heap.get? p.2 = some { cls := .none, data := .fields #[] }) (nT : ∀ p ∈ cs, K.lookup p.2 = none) (C : ∀ p ∈ cs, PySem.W.CodeHd s₁.heap p.1 p.2)
    (hbm : ∃ (bm : Addr) (ob : Obj), mg "__builtins__" = some (.ref bm) ∧ bm ≠ builtinsNs ∧ s₁.heap.get? bm = some ob ∧ ob.cls = .type "module" ∧ ob.dict = some builtinsNs ∧ ob.data = .plain)
    (ha : s₁.heap.get? a = some { cls := .type "list", data := .seq vs.toArray }) (hi : IntsAre vs ns) (hl : ns.length ≤ sizeLine) (hr : Room k callerA)
    (F : ∀ base : Heap, K.In base → base.Ns mainGlobals mg → (∀ p ∈ cs, TabB base mg p.1 p.2) → FnG P w K mg base k fa fd [x] sp) (hbind : ∀ (s : Shared) (u : Value), BindsTo s fd ⟨[u], []⟩ [(x, u)])
    (hsp : ∀ H : Hp, (∀ p ∈ cs, H p.2 = some (.tbl #[])) → SqL K H a (ns.map V.int) → sp [.ref a] H (fun v _ => v = .bl true) fun _ _ _ => False) :
    codeAny (model P w) callerA (.call (.ref fa) ⟨[.ref a], []⟩) (fun r s' => r = .ok (.ret (.bool true)) ∧ OldK s₁.heap s'.heap ∧ s'.os = s₁.os ∧ AllBare s'.gens) s₁ := by
  classical
  have ivs := vals_ints hi
  have lenV := hi.length
  let tabs : List Addr := cs.map (·.2)
  have tabO : ∀ b ∈ tabs, s₁.heap.get? b = some { cls := .none, data := .fields #[] } := fun b hb => by
    obtain ⟨p, hp, e⟩ := List.mem_map.mp hb
    exact e ▸ hT p hp
  have tabK : ∀ b ∈ tabs, K.lookup b = none := fun b hb => by
    obtain ⟨p, hp, e⟩ := List.mem_map.mp hb
    exact e ▸ nT p hp
  have tabOf : ∀ p ∈ cs, p.2 ∈ tabs := fun p hp => List.mem_map.mpr ⟨p, hp, rfl⟩
  have aNot : a ∉ tabs := fun z => by
    have q := tabO a z
    rw [ha] at q
    exact absurd (congrArg Obj.data (Option.some.inj q)) (fun z' => by cases z')
  let H : Hp := fun b => if b = a then (if K.lookup a = none then some (.frz { cls := .type "list", data := .seq vs.toArray } (.lst (ns.map V.int))) else none) else if b ∈ tabs then some (.tbl #[]) else none
  have Hne : ∀ {b : Addr}, b ≠ a → H b = if b ∈ tabs then some (.tbl #[]) else none := fun h => if_neg h
  have Ha : H a = if K.lookup a = none then some (.frz { cls := .type "list", data := .seq vs.toArray } (.lst (ns.map V.int))) else none := if_pos rfl
  have tabH : ∀ b ∈ tabs, H b = some (.tbl #[]) := fun b hb => (Hne fun z => aNot (z ▸ hb)).trans (if_pos hb)
  have what : ∀ b u, H b = some u → (b = a ∧ K.lookup a = none ∧ u = .frz { cls := .type "list", data := .seq vs.toArray } (.lst (ns.map V.int))) ∨ (b ∈ tabs ∧ u = .tbl #[]) := fun b u e => by
    by_cases h : b = a
    · subst h
      rw [Ha] at e
      split at e
      · rename_i z
        exact .inl ⟨rfl, z, (Option.some.inj e).symm⟩
      · cases e
    · rw [Hne h] at e
      split at e
      · rename_i z
        exact .inr ⟨z, (Option.some.inj e).symm⟩
      · cases e
  have isL : SqL K H a (ns.map V.int) := by
    cases hk : K.lookup a with
    | none => exact .inl (.inr ⟨_, Ha.trans (if_pos hk)⟩)
    | some o =>
      have e := KX a o hk
      rw [ha] at e
      cases e
      exact .inr ⟨_, vs.toArray, _, hk, rfl, rfl, rfl, by rw [List.size_toArray, lenV]; exact hl, by simpa using ivs⟩
  have okH : HOk P w H s₁.heap := fun b o e => by
    rcases what b o e with ⟨rfl, _, rfl⟩ | ⟨hb, rfl⟩
    · exact ⟨ha, by rw [List.length_map]; exact hl, vs, _, ivs, ha⟩
    · exact tabO b hb
  have untracked : ∀ {b : Addr} {o : Obj}, s₁.heap.get? b = some o → (∀ vs n, o.data ≠ .seq vs n) → o.data ≠ .fields #[] → H b = none := fun {b o} e h1 h2 => by
    cases q : H b with
    | none => rfl
    | some u =>
      rcases what b u q with ⟨rfl, _, _⟩ | ⟨hb, _⟩
      · rw [ha] at e; cases e
        exact (h1 _ _ rfl).elim
      · rw [tabO b hb] at e; cases e
        exact (h2 rfl).elim
  have isDict : ∀ {b : Addr} {o : Obj} {es : Array DictEntry} {ep : Nat}, s₁.heap.get? b = some o → o.data = .dict es ep → H b = none := fun e d => untracked e (fun vs n z => by rw [d] at z; cases z) (fun z => by rw [d] at z; cases z)
  have nsB : ∀ {b : Addr} {m : Str → Option Value}, s₁.heap.Ns b m → (hidT s₁.heap H).Ns b m := fun ⟨o, es, ep, e, d, r⟩ => ⟨o, es, ep, hidT_get e (isDict e d), d, r⟩
  have inB : K.In (hidT s₁.heap H) := fun b o e => hidT_get (KX b o e) (by
    cases q : H b with
    | none => rfl
    | some u =>
      rcases what b u q with ⟨rfl, z, _⟩ | ⟨hb, _⟩
      · rw [e] at z; cases z
      · have := tabK b hb
        rw [e] at this; cases this)
  have modB : L2.Mod K mg (hidT s₁.heap H) := ⟨inB, nsB hns, ⟨mb, nsB hb, hbb⟩, let ⟨mc, h1, h2⟩ := hlim; ⟨mc, nsB h1, h2⟩⟩
  have tabB : ∀ p ∈ cs, TabB (hidT s₁.heap H) mg p.1 p.2 := fun p hp => by
    have here := hT p hp
    obtain ⟨gO, gE, gP, gAt, gD, _⟩ := hns
    refine ⟨?_, ?_, fun z => ?_⟩
    · obtain ⟨o, us, file, tf, flags, tg, inF, text, tt, e1, r1, r2, r3, r4, r5, r6, r7, r8, hne⟩ := C p hp
      exact ⟨o, us, file, tf, flags, tg, inF, text, tt, hidT_get e1 (untracked e1 (fun vs n z => by rw [r2] at z; cases z) fun z => by rw [r2] at z; cases z; simp at r3), r1, r2, r3, r4, r5, r6, r7, r8, hne⟩
    · obtain ⟨bm, ob, b1, b2, b3, b4, b5, b6⟩ := hbm
      refine ⟨bm, ob, b1, b2, fun q => ?_, fun q => ?_, hidT_get b3 (untracked b3 (fun vs n z => by rw [b6] at z; cases z) fun z => by rw [b6] at z; cases z), b4, b5, b6⟩
      · rw [q, gAt] at b3; cases b3
        rw [gD] at b6; cases b6
      · rw [q, here] at b3; cases b3
        cases b6
    · rw [z, here] at gAt; cases gAt
      cases gD
  have env : Env0 P w K mg (hidT s₁.heap H) callerA [] s₁ H := ⟨rfl, modB, fun b o e => of_hidT e, Nat.le_of_eq (hidT_size _ _), trivial, fun b hb => absurd (show b ∈ ([] : List Addr) from hb) (by simp), okH, .of_eq hg⟩
  refine codeAny_mono ((F _ inB (nsB hns) tabB).run callerA [] s₁ H ⟨[.ref a], []⟩ [.ref a] [.ref a] _ _ hr rfl env (hbind s₁ (.ref a)) (.cons rfl .nil) (hsp H (fun p hp => tabH _ (tabOf p hp)) isL)) fun r s' h => ?_
  cases r with
  | error e => exact (show False from h).elim
  | ok fl =>
    cases fl with
    | ret u =>
      obtain ⟨v, H', os, bare, un, hok', r', q⟩ := h
      obtain rfl : v = .bl true := q
      obtain rfl : u = Value.bool true := r'
      have stays : ∀ b o, b ∉ tabs → s₁.heap.get? b = some o → s'.heap.get? b = some o := fun b o nb e => by
        cases q : H b with
        | none => exact un.keep b o e q (by intro z; exact absurd (show b ∈ ([] : List Addr) from z) (by simp)) (by simp)
        | some u =>
          rcases what b u q with ⟨rfl, _, rfl⟩ | ⟨hb, _⟩
          · have z2 := un.frzs _ _ _ q
            obtain ⟨e1, _⟩ := okH _ _ q
            obtain ⟨e2, _⟩ := hok' _ _ z2
            rw [e] at e1; cases e1
            exact e2
          · exact absurd hb nb
      have grown : ∀ b ∈ tabs, ∃ more : Array Value, s'.heap.get? b = some { cls := .none, data := .fields more } := fun b hb => by
        obtain ⟨more, z⟩ := un.tbls b #[] (tabH b hb)
        exact ⟨_, hok' b _ z⟩
      refine ⟨rfl, ⟨fun b o e => ?_, fun b o e => ?_⟩, os, bare⟩
      · by_cases hb : b ∈ tabs
        · obtain ⟨more, hm⟩ := grown b hb
          obtain ⟨p, hp, ep⟩ := List.mem_map.mp hb
          rw [tabO b hb] at e
          cases e
          rw [← ep] at hm ⊢
          exact .inr (.inl ⟨((C p hp).tab (hT p hp)).isCodeTable, rfl, #[], more, rfl, by rw [Array.empty_append]; exact hm⟩)
        · exact .inl (stays b o hb e)
      · by_cases hb : b ∈ tabs
        · obtain ⟨more, hm⟩ := grown b hb
          exact ⟨_, hm⟩
        · exact ⟨o, stays b o hb e⟩
    | _ => exact False.elim h
/-- what is known of the law at the head's heap -/
def LawAtG (l : PySem.W.OpenLaw) (w : World) (K : PySem.W.Frag) (k n : Nat) (x : Str) (mg : Str → Option Value) (fa : Addr) (h : Heap) : Prop :=
  ∃ (fd : FuncData) (cs : List (Addr × Addr)) (sp : Sp), (∀ p ∈ cs, h.get? p.2 = some { cls := .none, data := .fields #[] }) ∧ (∀ p ∈ cs, K.lookup p.2 = none) ∧ (∀ p ∈ cs, PySem.W.CodeHd h p.1 p.2) ∧ (∀ (s : Shared) (u : Value), BindsTo s fd ⟨[u], []⟩ [(x, u)]) ∧
    (∀ (H : Hp) (a : Addr) (ns : List Int), ns.length ≤ n → (∀ z ∈ ns, Builtin.Int.intBits z ≤ 1048576) → (∀ p ∈ cs, H p.2 = some (.tbl #[])) → SqL K H a (ns.map V.int) → sp [.ref a] H (fun v _ => v = .bl true) fun _ _ _ => False) ∧
    ∀ base : Heap, K.In base → base.Ns mainGlobals mg → (∀ p ∈ cs, TabB base mg p.1 p.2) → FnG l.prog w K mg base k fa fd [x] sp
/-- the tables of code objects of the defs that the top has made -/
def TabK (K : PySem.W.Frag) (h : Heap) (f : Addr) : Prop := ∀ (c P : Addr) (o : Obj) (fd : FuncData) (e : Value) (dd : Option Addr) (vs : Array Value) (sl : Array (Option Value)), K.lookup f = some o → o.data = .func fd → fd.code = .ref c → K.lookup c = some ⟨e, dd, .fields vs, sl⟩ → vs[11]? = some (.ref P) →
  PySem.W.CodeHd h c P ∧ h.get? P = some { cls := .none, data := .fields #[] }
theorem walk_ofG {l : PySem.W.OpenLaw} {n k : Nat} {q : Program} {loose : List Str} {XP : (Str → Option Value) → Heap → Prop} {YP : World → Heap → Prop} {d : DefRec} {K : Params → PySem.W.Frag} {x : Str}
    (hn : l.most = some n) (hn2 : n ≤ sizeLine) (hdf : d.params.defaults = []) (hr : Room k callerA) (hY : ∀ (w : World) (h : Heap), YP w h → (K w.params).In h)
    (F : ∀ (w : World) (mg : Str → Option Value) (fa : Addr) (h : Heap), YP w h → (K w.params).In h → h.Ns mainGlobals mg → mg d.name = some (.ref fa) → (∀ (x : Str) (f : Addr), ((recsOf q).any fun e => e.name == x) = true → mg x = some (.ref f) → TabK (K w.params) h f) → LawAtG l w (K w.params) k n x mg fa h) :
    PySem.W.WalkO q loose XP YP l.row.toRowW d [] (fun f vs => PySem.call f vs) := by
  refine Att.attach_callB hn hdf fun w s₀ s₁ mg mb fa o pm cd doc a vs ns G Y ho hd hcd hmg hobj hints hlen hbits hg => ?_
  have KX := hY w _ Y
  have tabs : ∀ (x : Str) (f : Addr), ((recsOf q).any fun e => e.name == x) = true → mg x = some (.ref f) → TabK (K w.params) s₁.heap f := fun x f hrec hm c P o1 fd1 e dd vs1 sl k1 k2 k3 k4 k5 => by
    obtain ⟨dL, hm1, hn1⟩ := List.any_eq_true.mp hrec
    have hn2 : dL.name = x := beq_iff_eq.mp hn1
    obtain ⟨a', o', fd', c', P', h1, h2, h3, h4, h5, h6⟩ := G.T.tab dL hm1
    rw [hn2, hm] at h1
    cases h1
    have g1 := KX _ _ k1
    rw [g1] at h2
    cases h2
    rw [k2] at h3
    cases h3
    rw [k3] at h4
    cases h4
    have h6' := h6
    obtain ⟨⟨oc, vc, e1, _, e3, e4⟩, hP⟩ := h6'
    have g2 := KX _ _ k4
    rw [g2] at e1
    cases e1
    cases e3
    rw [k5] at e4
    cases e4
    exact ⟨PySem.W.CodeHd.of h5 h6, hP⟩
  obtain ⟨fd, cs, sp, hT, nT, C, hb, hsp, hF⟩ := F w mg fa _ Y KX G.T.g hmg tabs
  exact law_callG KX G.T.g G.T.b G.T.builtins G.T.nolimit hg hT nT C G.T.bmain hobj hints (Nat.le_trans hlen hn2) hr hF hb fun H hH hS => hsp H a ns hlen hbits hH hS
end K21

set_option Elab.async false
set_option linter.all false
set_option maxRecDepth 100000
set_option maxHeartbeats 4000000
/-! K21I9: all promises joined. (Printed by mkend.py.) -/
namespace K21
open PySem PySem.Spec PyProof.Rows L2
/-! ### facts of the top -/
section
variable {K : PySem.W.Frag} {h : Heap} {mg : Str → Option Value} {R : Prop}
theorem def_mk {x : Str} {st : Stmt} {f : Addr} {oc kV dc pm cd ct : Value} {od an : Option Addr} {sl : Array (Option Value)} (X : K.In h) (G : h.Ns mainGlobals mg) (a : PySem.W.nsIn K mainGlobals x = some (some (.ref f)))
    (l : K.lookup f = some ⟨oc, od, .func (PySem.W.fnOf x x (defArgs st) (defBody st) (defScope st) .none kV dc pm an cd ct), sl⟩) (c : PySem.W.codeIn K cd x = true) (k : PySem.W.keepIn K (.ref f) = true) : DefAt K mg x st := ⟨f, _, fun_mk l c k, PySem.W.mg_of X G a⟩
theorem def_then {x : Str} {st : Stmt} {f : Addr} {oc kV dc pm cd ct : Value} {od an : Option Addr} {sl : Array (Option Value)} (X : K.In h) (G : h.Ns mainGlobals mg) (a : PySem.W.nsIn K mainGlobals x = some (some (.ref f)))
    (l : K.lookup f = some ⟨oc, od, .func (PySem.W.fnOf x x (defArgs st) (defBody st) (defScope st) .none kV dc pm an cd ct), sl⟩) (c : PySem.W.codeIn K cd x = true) (k : PySem.W.keepIn K (.ref f) = true) (n : DefAt K mg x st → R) : R := n (def_mk X G a l c k)
structure TabAt (K : PySem.W.Frag) (h : Heap) (cc P : Addr) : Prop where
  hd : PySem.W.CodeHd h cc P
  em : h.get? P = some { cls := .none, data := .fields #[] }
theorem defC_then {x : Str} {st : Stmt} {f cc P : Addr} {oc kV dc pm ct e : Value} {od an dd : Option Addr} {sl sl2 : Array (Option Value)} {vs : Array Value} {p : Str → Bool} (X : K.In h) (G : h.Ns mainGlobals mg) (TT : ∀ (x : Str) (f : Addr), p x = true → mg x = some (.ref f) → TabK K h f) (a : PySem.W.nsIn K mainGlobals x = some (some (.ref f)))
    (l : K.lookup f = some ⟨oc, od, .func (PySem.W.fnOf x x (defArgs st) (defBody st) (defScope st) .none kV dc pm an (.ref cc) ct), sl⟩) (c : PySem.W.codeIn K (.ref cc) x = true) (k : PySem.W.keepIn K (.ref f) = true)
    (lc : K.lookup cc = some ⟨e, dd, .fields vs, sl2⟩) (pc : vs[11]? = some (.ref P)) (rc : p x = true) (n : DefAtC K mg x st cc → TabAt K h cc P → R) : R := by
  have m := PySem.W.mg_of X G a
  obtain ⟨h1, h2⟩ := TT _ _ rc m cc P _ _ e dd vs sl2 l rfl rfl lc pc
  exact n ⟨f, oc, od, kV, dc, pm, an, ct, sl, m, k, l, c⟩ ⟨h1, h2⟩
structure ExcK (K : PySem.W.Frag) (mg : Str → Option Value) (x q f : Str) (C : Addr) (st : Stmt) : Prop where
  mgC : mg x = some (.ref C)
  oex : OexC K C
  xf : XfC K C
  noF : PySem.W.findIn K (.ref C) f = some none
  self : PySem.W.exmOne K (.ref C) (.ref C) = some true
  init : ∃ fI fd, PySem.W.findIn K (.ref C) "__init__" = some (some (.ref fI)) ∧ PySem.W.typeIn K (.ref fI) = some (.type "function") ∧ Fun K "__init__" q st fI fd
theorem exc_then {x q f : Str} {C fI : Addr} {st : Stmt} {nm q2 : Str} {N : Addr} {bs bm : List Value} {sn : List Str} {sub : List Value} {ab : Bool} {col : Option Bool} {dd : Option Addr} {k0 k1 k2 k3 k5 : Option Value} {oc kV dc pm cd ct : Value} {od an : Option Addr} {sl : Array (Option Value)}
    (X : K.In h) (G : h.Ns mainGlobals mg) (a : PySem.W.nsIn K mainGlobals x = some (some (.ref C))) (xL : K.lookup C = some (excClassObj nm q2 C N bs bm true sn sub ab col dd k0 k1 k2 k3 k5 "ValueError.__new__")) (rb : PySem.HandSPX.refsVE bm = true)
    (sa : PySem.W.findIn K (.ref C) "__setattr__" = some (some (.builtin "object.__setattr__"))) (exC : PySem.W.subIn K (.ref C) (.type "BaseException") = some true) (tyC : PySem.W.typeIn K (.ref C) = some (.type "type")) (kC : PySem.W.keepIn K (.ref C) = true)
    (ga : PySem.W.findIn K (.ref C) "__getattribute__" = some (some (.builtin "BaseException.__getattribute__"))) (gg : PySem.W.findIn K (.ref C) "__getattr__" = some none) (hdC : PySem.W.hasDictIn K C = true) (noF : PySem.W.findIn K (.ref C) f = some none) (ss : PySem.W.subIn K (.ref C) (.ref C) = some true)
    (i : PySem.W.findIn K (.ref C) "__init__" = some (some (.ref fI))) (t : PySem.W.typeIn K (.ref fI) = some (.type "function")) (l : K.lookup fI = some ⟨oc, od, .func (PySem.W.fnOf "__init__" q (defArgs st) (defBody st) (defScope st) .none kV dc pm an cd ct), sl⟩)
    (c : PySem.W.codeIn K cd q = true) (k : PySem.W.keepIn K (.ref fI) = true) (n : PySem.W.typeIn K (.ref C) = some (.type "type") → ExcK K mg x q f C st → R) : R :=
  n tyC ⟨PySem.W.mg_of X G a, ⟨⟨nm, q2, N, bs, bm, sn, sub, ab, col, dd, k0, k1, k2, k3, k5, xL, rb⟩, sa, exC, tyC, kC⟩, ⟨ga, gg, exC, hdC⟩, noF, PySem.W.exm_ref exC hdC tyC ss, fI, _, i, t, fun_mk l c k⟩
structure DebK (K : PySem.W.Frag) (mg : Str → Option Value) (C : Addr) : Prop where
  gC : mg "Debate" = some (.ref C)
  dt : DebT K C
  init : ∃ f fd, Mk K C f ∧ Fun K "__init__" "Debate.__init__" sInit f fd
theorem deb_then {C fI : Addr} {oc kV dc pm cd ct : Value} {od an : Option Addr} {sl : Array (Option Value)} (X : K.In h) (G : h.Ns mainGlobals mg) (a : PySem.W.nsIn K mainGlobals "Debate" = some (some (.ref C)))
    (pg : PySem.W.plainGet K C Str.empty = true) (hd : PySem.W.hasDictIn K C = true) (po : PySem.W.plainOver K C = true) (sa : PySem.W.findIn K (.ref C) "__setattr__" = some (some (.builtin "object.__setattr__")))
    (n1 : PySem.W.findIn K (.ref C) "own_statements" = some none) (n2 : PySem.W.findIn K (.ref C) "own_objections" = some none) (n3 : PySem.W.findIn K (.ref C) "own_objectors" = some none) (n4 : PySem.W.findIn K (.ref C) "own_objected" = some none)
    (mk : PySem.W.makesIn K C = true) (i : PySem.W.findIn K (.ref C) "__init__" = some (some (.ref fI))) (fn : PySem.W.isFn K (.ref fI) = true) (kp : PySem.W.keepIn K (.ref C) = true)
    (l : K.lookup fI = some ⟨oc, od, .func (PySem.W.fnOf "__init__" "Debate.__init__" (defArgs sInit) (defBody sInit) (defScope sInit) .none kV dc pm an cd ct), sl⟩) (c : PySem.W.codeIn K cd "Debate.__init__" = true) (k : PySem.W.keepIn K (.ref fI) = true) (n : DebK K mg C → R) : R :=
  n ⟨PySem.W.mg_of X G a, ⟨⟨pg, hd, po, sa⟩, n1, n2, n3, n4⟩, fI, _, ⟨mk, i, fn, kp⟩, fun_mk l c k⟩
theorem con_then {t1 t2 : Tok} (X : K.In h) (G : h.Ns mainGlobals mg) (a1 : PySem.W.nsIn K mainGlobals "SMALL" = some (some (.str "abcdefghijklmnopqrstuvwxyz" t1))) (a2 : PySem.W.nsIn K mainGlobals "FIGURES" = some (some (.str "0123456789" t2))) (n : ConT mg → R) : R :=
  n ⟨⟨t1, PySem.W.mg_of X G a1⟩, ⟨t2, PySem.W.mg_of X G a2⟩⟩
theorem way_then {a : Addr} {d : Option Addr} {its : Array Value} {m : Nat} {sl : Array (Option Value)} (X : K.In h) (G : h.Ns mainGlobals mg) (g : PySem.W.nsIn K mainGlobals "WAYS" = some (some (.ref a))) (l : K.lookup a = some ⟨.type "tuple", d, .seq its m, sl⟩)
    (sz : its.size ≤ sizeLine) (v : Vals (waysL.map V.str) its.toList) (n : WayT K mg → R) : R := n ⟨a, _, its, m, PySem.W.mg_of X G g, l, rfl, rfl, sz, v⟩
theorem bn_then (X : K.In h) (G : h.Ns mainGlobals mg) (b_len : PySem.W.nsIn K mainGlobals "len" = some none) (b_isinstance : PySem.W.nsIn K mainGlobals "isinstance" = some none) (b_sorted : PySem.W.nsIn K mainGlobals "sorted" = some none) (b_all : PySem.W.nsIn K mainGlobals "all" = some none) (b_any : PySem.W.nsIn K mainGlobals "any" = some none) (b_list : PySem.W.nsIn K mainGlobals "list" = some none) (b_tuple : PySem.W.nsIn K mainGlobals "tuple" = some none) (b_int : PySem.W.nsIn K mainGlobals "int" = some none) (b_str : PySem.W.nsIn K mainGlobals "str" = some none) (b_bool : PySem.W.nsIn K mainGlobals "bool" = some none) (b_dict : PySem.W.nsIn K mainGlobals "dict" = some none) (b_repr : PySem.W.nsIn K mainGlobals "repr" = some none) (b_set : PySem.W.nsIn K mainGlobals "set" = some none) (b_enumerate : PySem.W.nsIn K mainGlobals "enumerate" = some none) (b_zip : PySem.W.nsIn K mainGlobals "zip" = some none) (b_range : PySem.W.nsIn K mainGlobals "range" = some none) (n : Bn mg → R) : R :=
  n ⟨PySem.W.mg_none_of X G b_len, PySem.W.mg_none_of X G b_isinstance, PySem.W.mg_none_of X G b_sorted, PySem.W.mg_none_of X G b_all, PySem.W.mg_none_of X G b_any, PySem.W.mg_none_of X G b_list, PySem.W.mg_none_of X G b_tuple, PySem.W.mg_none_of X G b_int, PySem.W.mg_none_of X G b_str, PySem.W.mg_none_of X G b_bool, PySem.W.mg_none_of X G b_dict, PySem.W.mg_none_of X G b_repr, PySem.W.mg_none_of X G b_set, PySem.W.mg_none_of X G b_enumerate, PySem.W.mg_none_of X G b_zip, PySem.W.mg_none_of X G b_range⟩
end
/-! ### the exceptions' own __init__ -/
section
variable {P : Program} {w : World} {K : PySem.W.Frag} {mg : Str → Option Value} {base : Heap} {C : Addr} {fI : Addr} {fd : FuncData} {q : Str}
theorem sc_ixB : FnScope ["self", "index"] ["self", "index"] (defScope (inClass (topS 2) 0)) := ⟨rfl, rfl, rfl, by decide +kernel, rfl, by decide +kernel, by decide +kernel⟩
theorem sc_ixN : FnScope ["self", "fault"] ["self", "fault"] (defScope (inClass (topS 6) 0)) := ⟨rfl, rfl, rfl, by decide +kernel, rfl, by decide +kernel, by decide +kernel⟩
theorem ok_ixB (T : OexC K C) (hno : PySem.W.findIn K (.ref C) "index" = some none) (F : Fun K "__init__" q (inClass (topS 2) 0) fI fd) : FnOk P w K mg base CX0 1 fI fd ["self", "index"] (spIx C "index") := by
  refine F.ok (k := 0) sc_ixB (fun vs H Q E h => ?_) (fun cdv A outer s H vs Q E hr h => ?_)
  · obtain ⟨_, _, rfl, _⟩ := h; rfl
  · obtain ⟨a, v, rfl, e, hq⟩ := h
    exact ⟨_, pss_one (ps_ost (pv 0) (pv 1)), v, rfl, .ref a, rfl, a, C, rfl, T, hno, .inl ⟨e, fun dx h1 h2 => hq dx h1 h2⟩⟩
theorem ok_ixN (T : OexC K C) (hno : PySem.W.findIn K (.ref C) "fault" = some none) (F : Fun K "__init__" q (inClass (topS 6) 0) fI fd) : FnOk P w K mg base CX0 1 fI fd ["self", "fault"] (spIx C "fault") := by
  refine F.ok (k := 0) sc_ixN (fun vs H Q E h => ?_) (fun cdv A outer s H vs Q E hr h => ?_)
  · obtain ⟨_, _, rfl, _⟩ := h; rfl
  · obtain ⟨a, v, rfl, e, hq⟩ := h
    exact ⟨_, pss_one (ps_ost (pv 0) (pv 1)), v, rfl, .ref a, rfl, a, C, rfl, T, hno, .inl ⟨e, fun dx h1 h2 => hq dx h1 h2⟩⟩
theorem excB (X : ExcK K mg "BadLot" q "index" C (inClass (topS 2) 0)) : ExcT P w K mg base "BadLot" C "index" := by
  obtain ⟨m, o, x, n, t, fI, fd, i, ty, F⟩ := X
  exact ⟨m, o, x, n, t, fI, fd, i, ty, F.binds fun _ _ _ _ _ _ us hl => (match us, hl with | [_, _], _ => rfl), ok_ixB o n F⟩
theorem excN (X : ExcK K mg "NotGreatest" q "fault" C (inClass (topS 6) 0)) : ExcT P w K mg base "NotGreatest" C "fault" := by
  obtain ⟨m, o, x, n, t, fI, fd, i, ty, F⟩ := X
  exact ⟨m, o, x, n, t, fI, fd, i, ty, F.binds fun _ _ _ _ _ _ us hl => (match us, hl with | [_, _], _ => rfl), ok_ixN o n F⟩
end
def qLam (x : Str) : Str := (x ++ ".<locals>.") ++ "<lambda>"
/-! ### all promises -/
theorem all_law {l : PySem.W.OpenLaw} {w : World} {K : PySem.W.Frag} {h : Heap} {mg : Str → Option Value} {fa C CB CN ccG PG ccL PL : Addr} {qB qN : Str} (hfa : mg "law" = some (.ref fa))
    (B : Bn mg) (CT : ConT mg) (WT : WayT K mg) (DK : DebK K mg C) (EB : ExcK K mg "BadLot" qB "index" CB (inClass (topS 2) 0)) (EN : ExcK K mg "NotGreatest" qN "fault" CN (inClass (topS 6) 0)) (tyB : PySem.W.typeIn K (.ref CB) = some (.type "type")) (sNB : PySem.W.subIn K (.ref CN) (.ref CB) = some false)
    (DG : DefAtC K mg "greatest_of" (topS 31) ccG) (TG : TabAt K h ccG PG) (nG : K.lookup PG = none) (DL : DefAtC K mg "law" (topS 78) ccL) (TL : TabAt K h ccL PL) (nL : K.lookup PL = none) (ne : PG ≠ PL)
    (D_is_list : DefAt K mg "is_list" (topS 11))
    (D_is_name : DefAt K mg "is_name" (topS 12))
    (D_as_tuples : DefAt K mg "as_tuples" (topS 13))
    (D_checked_statements : DefAt K mg "checked_statements" (topS 15))
    (D_is_pair_of : DefAt K mg "is_pair_of" (topS 16))
    (D_checked_objections : DefAt K mg "checked_objections" (topS 17))
    (D_checked_lot : DefAt K mg "checked_lot" (topS 21))
    (D_checked_way : DefAt K mg "checked_way" (topS 22))
    (D_hit_by : DefAt K mg "hit_by" (topS 23))
    (D_answered_in : DefAt K mg "answered_in" (topS 24))
    (D_clash_in : DefAt K mg "clash_in" (topS 26))
    (D_unanswered_in : DefAt K mg "unanswered_in" (topS 27))
    (D_held_lots : DefAt K mg "held_lots" (topS 28))
    (D_calm_with : DefAt K mg "calm_with" (topS 29))
    (D_is_within : DefAt K mg "is_within" (topS 32))
    (D_lots_in : DefAt K mg "lots_in" (topS 34))
    (D_fault_in : DefAt K mg "fault_in" (topS 35))
    (D_fault_among_held : DefAt K mg "fault_among_held" (topS 36))
    (D_fault_of : DefAt K mg "fault_of" (topS 37))
    (D_labels_by : DefAt K mg "labels_by" (topS 39))
    (D_cut_by : DefAt K mg "cut_by" (topS 41))
    (D_is_odd_ring : DefAt K mg "is_odd_ring" (topS 43))
    (D_odd_walk : DefAt K mg "odd_walk" (topS 44))
    (D_odd_ring : DefAt K mg "odd_ring" (topS 45))
    (D_why_unsettled : DefAt K mg "why_unsettled" (topS 46))
    (D_law_z_made : DefAt K mg "_law_z_made" (topS 48))
    (D_law_z_odd_name : DefAt K mg "_law_z_odd_name" (topS 49))
    (D_law_draw : DefAt K mg "_law_draw" (topS 51))
    (D_law_pick : DefAt K mg "_law_pick" (topS 52))
    (D_law_mixed : DefAt K mg "_law_mixed" (topS 53))
    (D_law_same : DefAt K mg "_law_same" (topS 54))
    (D_law_each_once : DefAt K mg "_law_each_once" (topS 55))
    (D_law_loose : DefAt K mg "_law_loose" (topS 56))
    (D_law_d_names : DefAt K mg "_law_d_names" (topS 57))
    (D_law_d_pairs : DefAt K mg "_law_d_pairs" (topS 58))
    (D_law_d_debate : DefAt K mg "_law_d_debate" (topS 59))
    (D_law_d_objectors : DefAt K mg "_law_d_objectors" (topS 60))
    (D_law_d_objected : DefAt K mg "_law_d_objected" (topS 61))
    (D_law_d_hits : DefAt K mg "_law_d_hits" (topS 62))
    (D_law_d_answers : DefAt K mg "_law_d_answers" (topS 63))
    (D_law_d_is_calm : DefAt K mg "_law_d_is_calm" (topS 65))
    (D_law_d_is_held : DefAt K mg "_law_d_is_held" (topS 66))
    (D_law_d_subsets : DefAt K mg "_law_d_subsets" (topS 67))
    (D_law_d_lots : DefAt K mg "_law_d_lots" (topS 68))
    (D_law_d_within : DefAt K mg "_law_d_within" (topS 69))
    (D_law_d_labels : DefAt K mg "_law_d_labels" (topS 70))
    (D_law_is_ring : DefAt K mg "_law_is_ring" (topS 72))
    (D_law_has_odd : DefAt K mg "_law_has_odd" (topS 73))
    (D_law_things : DefAt K mg "_law_things" (topS 74))
    (D_law_twice : DefAt K mg "_law_twice" (topS 75))
    (D_law_rings_right : DefAt K mg "_law_rings_right" (topS 76))
    (D_law_unsettled_right : DefAt K mg "_law_unsettled_right" (topS 77))
    (D_law_start : DefAt K mg "_law_start" (topS 50))
    (D_law_met : DefAt K mg "_law_met" (topS 71)) : LawAtG l w K 12 63 "_law_script" mg fa h := by
  obtain ⟨f, oc, od, kV, dc, pm, an, ct, osl, m, kp, lk, hcd⟩ := DL.ex
  have e := hfa.symm.trans m
  cases e
  let c : Cst := ⟨C, [(PG, qLam "greatest_of"), (PL, qLam "law")]⟩
  refine ⟨PySem.W.fnOf "law" "law" (defArgs (topS 78)) (defBody (topS 78)) (defScope (topS 78)) .none kV dc pm an (.ref ccL) ct, [(ccG, PG), (ccL, PL)], spLaw K c.T, ?_, ?_, ?_, fun s v => .of_eq rfl, ?_, ?_⟩
  · intro p hp
    simp only [List.mem_cons, List.not_mem_nil, or_false] at hp
    rcases hp with rfl | rfl
    · exact TG.em
    · exact TL.em
  · intro p hp
    simp only [List.mem_cons, List.not_mem_nil, or_false] at hp
    rcases hp with rfl | rfl
    · exact nG
    · exact nL
  · intro p hp
    simp only [List.mem_cons, List.not_mem_nil, or_false] at hp
    rcases hp with rfl | rfl
    · exact TG.hd
    · exact TL.hd
  · intro H a ns _ hb hT hS
    refine ⟨a, ns, rfl, hS, hb, fun p hp => ?_, fun _ => rfl⟩
    simp only [c, List.mem_cons, List.not_mem_nil, or_false] at hp
    rcases hp with rfl | rfl
    · exact hT (ccG, PG) (by simp)
    · exact hT (ccL, PL) (by simp)
  · intro base KB GB TB
    have TBG : LamX.TabB base mg ccG PG := TB (ccG, PG) (by simp)
    have TBL : LamX.TabB base mg ccL PL := TB (ccL, PL) (by simp)
    have TGg : TabG c base mg ccG "greatest_of" := ⟨PG, TBG, by simp [c, qLam], fun p hp e => by
      simp only [c, List.mem_cons, List.not_mem_nil, or_false] at hp
      rcases hp with rfl | rfl
      · rfl
      · exact absurd e.symm ne⟩
    have hmT : (PL, ((("law" : Str) ++ ".<locals>.") ++ "<lambda>")) ∈ c.T := by simp [c, qLam]
    have huT : ∀ p ∈ c.T, p.1 = PL → p.2 = ((("law" : Str) ++ ".<locals>.") ++ "<lambda>") := fun p hp e => by
      simp only [c, List.mem_cons, List.not_mem_nil, or_false] at hp
      rcases hp with rfl | rfl
      · exact absurd e ne
      · rfl
    have XB : ExcT l.prog w K mg base "BadLot" CB "index" := excB EB
    have XN : ExcT l.prog w K mg base "NotGreatest" CN "fault" := excN EN
    have DT : DebT K c.C := DK.dt
    have gC : mg "Debate" = some (.ref c.C) := DK.gC
    obtain ⟨fI, fdI, mkC, FI⟩ := DK.init
    have M : MetT l.prog w K mg base CB CN := ⟨D_law_met, XB, XN, PySem.W.exm_ref EB.xf.exC EB.xf.hdC tyB sNB⟩
    have O_is_within := ok_is_within (P := l.prog) (w := w) (base := base) (c := c) D_is_within B
    have O_clash_in := ok_clash_in (P := l.prog) (w := w) (base := base) (c := c) D_clash_in B DT
    have O_calm_with := ok_calm_with (P := l.prog) (w := w) (base := base) (c := c) D_calm_with B DT
    have O_is_list := ok_is_list (P := l.prog) (w := w) (base := base) (c := c) D_is_list B
    have O_is_odd_ring := ok_is_odd_ring (P := l.prog) (w := w) (base := base) (c := c) D_is_odd_ring B DT O_is_list
    have O_odd_walk := ok_odd_walk (P := l.prog) (w := w) (base := base) (c := c) D_odd_walk B DT
    have O_odd_ring := ok_odd_ring (P := l.prog) (w := w) (base := base) (c := c) D_odd_ring B DT O_odd_walk
    have O_law_d_objectors := ok_d_objectors (P := l.prog) (w := w) (base := base) (c := c) D_law_d_objectors B
    have O_law_d_objected := ok_d_objected (P := l.prog) (w := w) (base := base) (c := c) D_law_d_objected B
    have O_law_d_hits := ok_d_hits (P := l.prog) (w := w) (base := base) (c := c) D_law_d_hits B O_law_d_objectors
    have O_law_d_answers := ok_d_answers (P := l.prog) (w := w) (base := base) (c := c) D_law_d_answers B O_law_d_objectors O_law_d_hits
    have O_law_d_is_calm := ok_d_is_calm (P := l.prog) (w := w) (base := base) (c := c) D_law_d_is_calm B
    have O_law_d_is_held := ok_d_is_held (P := l.prog) (w := w) (base := base) (c := c) D_law_d_is_held B O_law_d_is_calm O_law_d_answers
    have O_law_d_within := ok_d_within (P := l.prog) (w := w) (base := base) (c := c) D_law_d_within B
    have O_law_d_subsets := ok_d_subsets (P := l.prog) (w := w) (base := base) (c := c) D_law_d_subsets B
    have O_law_d_lots := ok_d_lots (P := l.prog) (w := w) (base := base) (c := c) D_law_d_lots B O_law_d_subsets O_law_d_is_calm O_law_d_is_held O_law_d_hits O_law_d_within
    have O_law_d_labels := ok_d_labels (P := l.prog) (w := w) (base := base) (c := c) D_law_d_labels B O_law_d_hits
    have O_law_has_odd := ok_has_odd (P := l.prog) (w := w) (base := base) (c := c) D_law_has_odd B O_law_d_objected
    have O_law_is_ring := ok_is_ring (P := l.prog) (w := w) (base := base) (c := c) D_law_is_ring B
    have O_law_each_once := ok_each_once (P := l.prog) (w := w) (base := base) (c := c) D_law_each_once B
    have O_hit_by := ok_hit_by (P := l.prog) (w := w) (base := base) (c := c) D_hit_by B DT
    have O_law_draw := ok_draw (P := l.prog) (w := w) (base := base) (c := c) D_law_draw B
    have O_law_pick := ok_pick (P := l.prog) (w := w) (base := base) (c := c) D_law_pick B O_law_draw
    have O_law_mixed := ok_mixed (P := l.prog) (w := w) (base := base) (c := c) D_law_mixed B O_law_draw
    have O_law_loose := ok_loose (P := l.prog) (w := w) (base := base) (c := c) D_law_loose B O_law_draw 3
    have O_checked_lot := ok_checked_lot (P := l.prog) (w := w) (base := base) (c := c) D_checked_lot B DT XB O_is_list
    have O_checked_way := ok_checked_way (P := l.prog) (w := w) (base := base) (c := c) D_checked_way B WT
    have O_is_name := ok_is_name (P := l.prog) (w := w) (base := base) (c := c) D_is_name B CT
    have O_as_tuples := ok_as_tuples (P := l.prog) (w := w) (base := base) (c := c) D_as_tuples B O_is_list 2
    have O_is_pair_of := ok_is_pair_of (P := l.prog) (w := w) (base := base) (c := c) D_is_pair_of B O_is_list
    have O_checked_statements := ok_checked_statements (P := l.prog) (w := w) (base := base) (c := c) D_checked_statements B O_is_list O_is_name
    have O_checked_objections := ok_checked_objections (P := l.prog) (w := w) (base := base) (c := c) D_checked_objections B O_is_list O_is_pair_of O_as_tuples
    have DM : DebM l.prog w K mg base c := ⟨fI, fdI, gC, mkC, FI.binds (ps := ["self", "statements", "objections"]) fun _ _ _ _ _ _ us hl => (match us, hl with | [_, _, _], _ => rfl), ok_init FI B DT O_checked_statements O_checked_objections⟩
    have O_cut_by := ok_cut_by (P := l.prog) (w := w) (base := base) (c := c) D_cut_by B DT DM
    have O_greatest_of := ok_greatest_of (P := l.prog) (w := w) (base := base) (c := c) DG B TGg O_is_within
    have O_law_d_names := ok_d_names (P := l.prog) (w := w) (base := base) (c := c) D_law_d_names B O_law_mixed
    have O_law_d_pairs := ok_d_pairs (P := l.prog) (w := w) (base := base) (c := c) D_law_d_pairs B O_law_draw O_law_pick O_law_mixed O_law_each_once
    have O_law_d_debate := ok_d_debate (P := l.prog) (w := w) (base := base) (c := c) D_law_d_debate B O_law_draw O_law_d_names O_law_d_pairs
    have O_law_z_odd_name := ok_z_odd_name (P := l.prog) (w := w) (base := base) (c := c) D_law_z_odd_name O_law_pick
    have O_law_z_made := ok_z_made (P := l.prog) (w := w) (base := base) (c := c) D_law_z_made DM O_law_loose O_law_mixed
    have O_law_things := ok_things (P := l.prog) (w := w) (base := base) (c := c) D_law_things B O_law_draw O_law_pick
    have O_law_same := ok_same (P := l.prog) (w := w) (base := base) (c := c) D_law_same B 5
    have O_law_twice := ok_twice (P := l.prog) (w := w) (base := base) (c := c) D_law_twice B O_law_draw O_law_mixed O_law_each_once
    have O_law_rings_right := ok_rings_right (P := l.prog) (w := w) (base := base) (c := c) D_law_rings_right B DM O_odd_ring O_law_has_odd O_law_things O_law_same O_is_odd_ring O_law_is_ring
    have O_answered_in := ok_answered_in (P := l.prog) (w := w) (base := base) (c := c) D_answered_in B DT O_hit_by
    have O_unanswered_in := ok_unanswered_in (P := l.prog) (w := w) (base := base) (c := c) D_unanswered_in B DT O_hit_by
    have O_held_lots := ok_held_lots (P := l.prog) (w := w) (base := base) (c := c) D_held_lots B DT O_calm_with O_unanswered_in
    have O_lots_in := ok_lots_in (P := l.prog) (w := w) (base := base) (c := c) D_lots_in B DT O_held_lots O_greatest_of
    have O_fault_among_held := ok_fault_among_held (P := l.prog) (w := w) (base := base) (c := c) D_fault_among_held B DT O_answered_in O_lots_in O_is_within
    have O_fault_in := ok_fault_in (P := l.prog) (w := w) (base := base) (c := c) D_fault_in B DT O_clash_in O_unanswered_in O_fault_among_held
    have O_labels_by := ok_labels_by (P := l.prog) (w := w) (base := base) (c := c) D_labels_by B DT O_hit_by
    have O_fault_of := ok_fault_of (P := l.prog) (w := w) (base := base) (c := c) D_fault_of O_checked_way O_checked_lot O_fault_in
    have O_why_unsettled := ok_why_unsettled (P := l.prog) (w := w) (base := base) (c := c) D_why_unsettled B DT XN O_checked_lot O_fault_in O_labels_by O_cut_by O_odd_ring
    have O_law_unsettled_right := ok_unsettled_right (P := l.prog) (w := w) (base := base) (c := c) D_law_unsettled_right B O_law_d_lots O_law_has_odd O_why_unsettled O_law_d_labels O_law_is_ring
    obtain ⟨fs, fds, Fs, ms⟩ := D_law_start.ex
    refine fng_of lk hcd sc_law (fun vs H Q E h => ?_) (fun A outer s H vs Q E hr gd h => ?_)
    · obtain ⟨a, ns, rfl, _⟩ := h; rfl
    · obtain ⟨t, ht, hq⟩ := law_walk (outer := outer) (s := s) (H := H) (E := E) B M TBL hmT huT O_law_d_debate O_law_z_made O_law_twice O_law_rings_right O_law_unsettled_right O_law_pick O_law_d_subsets O_fault_of O_law_draw O_law_z_odd_name O_why_unsettled O_law_same hr gd
      exact law_body B Fs ms hr ht hq h
end K21

set_option Elab.async false
set_option linter.all false
/-! K21J1: the law. (Printed by mkend.py.) -/
open PySem PySem.W PyProof.Rows
set_option maxRecDepth 100000 in
set_option maxHeartbeats 0 in
theorem PySem.Challenge.cw_objections_k21_whole_odd_rings_holds : PySem.Challenge.rw_objections_k21_whole_odd_rings.Holds := by
  w_on; o_law; k_head; (case hw => w_witness2)
  k_fill
  refine K21.walk_ofG (l := PySem.Challenge.rw_objections_k21_whole_odd_rings) (n := 63) (k := 12) (x := "_law_script") rfl (by decide) rfl ⟨rfl, by decide, by decide⟩ (fun w h Y => by first | exact PySem.W.km_in_of Y | exact PySem.W.kIn_of Y) ?F
  case F =>
    intro w mg fa h Y KX G hmg TT
    refine' K21.bn_then KX G ?b_len_1 ?b_isinstance_1 ?b_sorted_1 ?b_all_1 ?b_any_1 ?b_list_1 ?b_tuple_1 ?b_int_1 ?b_str_1 ?b_bool_1 ?b_dict_1 ?b_repr_1 ?b_set_1 ?b_enumerate_1 ?b_zip_1 ?b_range_1 fun B => ?n_1
    (case b_len_1 => k_is)
    (case b_isinstance_1 => k_is)
    (case b_sorted_1 => k_is)
    (case b_all_1 => k_is)
    (case b_any_1 => k_is)
    (case b_list_1 => k_is)
    (case b_tuple_1 => k_is)
    (case b_int_1 => k_is)
    (case b_str_1 => k_is)
    (case b_bool_1 => k_is)
    (case b_dict_1 => k_is)
    (case b_repr_1 => k_is)
    (case b_set_1 => k_is)
    (case b_enumerate_1 => k_is)
    (case b_zip_1 => k_is)
    (case b_range_1 => k_is)
    refine' K21.con_then KX G ?a1_2 ?a2_2 fun CT => ?n_2
    (case a1_2 => k_is); (case a2_2 => k_is)
    refine' K21.way_then KX G ?g_3 ?l_3 ?sz_3 ?v_3 fun WT => ?n_3
    (case g_3 => k_is); (case l_3 => k_is); (case sz_3 => decide +kernel); (case v_3 => exact .cons ⟨_, rfl⟩ (.cons ⟨_, rfl⟩ (.cons ⟨_, rfl⟩ (.cons ⟨_, rfl⟩ (.cons ⟨_, rfl⟩ (.cons ⟨_, rfl⟩ .nil))))))
    refine' K21.deb_then KX G ?a_4 ?pg_4 ?hd_4 ?po_4 ?sa_4 ?n1_4 ?n2_4 ?n3_4 ?n4_4 ?mk_4 ?i_4 ?fn_4 ?kp_4 ?l_4 ?c_4 ?k_4 fun DK => ?n_4
    (case a_4 => k_is); (case pg_4 => k_is); (case hd_4 => k_is); (case po_4 => k_is); (case sa_4 => k_is); (case n1_4 => k_is); (case n2_4 => k_is); (case n3_4 => k_is); (case n4_4 => k_is); (case mk_4 => k_is); (case i_4 => k_is); (case fn_4 => k_is); (case kp_4 => k_is); (case l_4 => k_is); (case c_4 => k_is); (case k_4 => k_is)
    refine' K21.exc_then (x := "BadLot") (q := "BadLot.__init__") (f := "index") (st := L2.inClass (K21.topS 2) 0) KX G ?a_5 ?xL_5 ?rb_5 ?sa_5 ?exC_5 ?tyC_5 ?kC_5 ?ga_5 ?gg_5 ?hdC_5 ?noF_5 ?ss_5 ?i_5 ?t_5 ?l_5 ?c_5 ?k_5 fun tyB EB => ?n_5
    (case a_5 => k_is); (case xL_5 => k_is); (case rb_5 => decide +kernel); (case sa_5 => k_is); (case exC_5 => k_is); (case tyC_5 => k_is); (case kC_5 => k_is); (case ga_5 => k_is); (case gg_5 => k_is); (case hdC_5 => k_is); (case noF_5 => k_is); (case ss_5 => first | rfl | k_is); (case i_5 => k_is); (case t_5 => k_is); (case l_5 => k_is); (case c_5 => k_is); (case k_5 => k_is)
    refine' K21.exc_then (x := "NotGreatest") (q := "NotGreatest.__init__") (f := "fault") (st := L2.inClass (K21.topS 6) 0) KX G ?a_6 ?xL_6 ?rb_6 ?sa_6 ?exC_6 ?tyC_6 ?kC_6 ?ga_6 ?gg_6 ?hdC_6 ?noF_6 ?ss_6 ?i_6 ?t_6 ?l_6 ?c_6 ?k_6 fun tyN EN => ?n_6
    (case a_6 => k_is); (case xL_6 => k_is); (case rb_6 => decide +kernel); (case sa_6 => k_is); (case exC_6 => k_is); (case tyC_6 => k_is); (case kC_6 => k_is); (case ga_6 => k_is); (case gg_6 => k_is); (case hdC_6 => k_is); (case noF_6 => k_is); (case ss_6 => first | rfl | k_is); (case i_6 => k_is); (case t_6 => k_is); (case l_6 => k_is); (case c_6 => k_is); (case k_6 => k_is)
    refine' K21.def_then (x := "is_list") (st := K21.topS 11) KX G ?a_7 ?l_7 ?c_7 ?k_7 fun D_is_list => ?n_7
    (case a_7 => k_is); (case l_7 => k_is); (case c_7 => k_is); (case k_7 => k_is)
    refine' K21.def_then (x := "is_name") (st := K21.topS 12) KX G ?a_8 ?l_8 ?c_8 ?k_8 fun D_is_name => ?n_8
    (case a_8 => k_is); (case l_8 => k_is); (case c_8 => k_is); (case k_8 => k_is)
    refine' K21.def_then (x := "as_tuples") (st := K21.topS 13) KX G ?a_9 ?l_9 ?c_9 ?k_9 fun D_as_tuples => ?n_9
    (case a_9 => k_is); (case l_9 => k_is); (case c_9 => k_is); (case k_9 => k_is)
    refine' K21.def_then (x := "checked_statements") (st := K21.topS 15) KX G ?a_10 ?l_10 ?c_10 ?k_10 fun D_checked_statements => ?n_10
    (case a_10 => k_is); (case l_10 => k_is); (case c_10 => k_is); (case k_10 => k_is)
    refine' K21.def_then (x := "is_pair_of") (st := K21.topS 16) KX G ?a_11 ?l_11 ?c_11 ?k_11 fun D_is_pair_of => ?n_11
    (case a_11 => k_is); (case l_11 => k_is); (case c_11 => k_is); (case k_11 => k_is)
    refine' K21.def_then (x := "checked_objections") (st := K21.topS 17) KX G ?a_12 ?l_12 ?c_12 ?k_12 fun D_checked_objections => ?n_12
    (case a_12 => k_is); (case l_12 => k_is); (case c_12 => k_is); (case k_12 => k_is)
    refine' K21.def_then (x := "checked_lot") (st := K21.topS 21) KX G ?a_13 ?l_13 ?c_13 ?k_13 fun D_checked_lot => ?n_13
    (case a_13 => k_is); (case l_13 => k_is); (case c_13 => k_is); (case k_13 => k_is)
    refine' K21.def_then (x := "checked_way") (st := K21.topS 22) KX G ?a_14 ?l_14 ?c_14 ?k_14 fun D_checked_way => ?n_14
    (case a_14 => k_is); (case l_14 => k_is); (case c_14 => k_is); (case k_14 => k_is)
    refine' K21.def_then (x := "hit_by") (st := K21.topS 23) KX G ?a_15 ?l_15 ?c_15 ?k_15 fun D_hit_by => ?n_15
    (case a_15 => k_is); (case l_15 => k_is); (case c_15 => k_is); (case k_15 => k_is)
    refine' K21.def_then (x := "answered_in") (st := K21.topS 24) KX G ?a_16 ?l_16 ?c_16 ?k_16 fun D_answered_in => ?n_16
    (case a_16 => k_is); (case l_16 => k_is); (case c_16 => k_is); (case k_16 => k_is)
    refine' K21.def_then (x := "clash_in") (st := K21.topS 26) KX G ?a_17 ?l_17 ?c_17 ?k_17 fun D_clash_in => ?n_17
    (case a_17 => k_is); (case l_17 => k_is); (case c_17 => k_is); (case k_17 => k_is)
    refine' K21.def_then (x := "unanswered_in") (st := K21.topS 27) KX G ?a_18 ?l_18 ?c_18 ?k_18 fun D_unanswered_in => ?n_18
    (case a_18 => k_is); (case l_18 => k_is); (case c_18 => k_is); (case k_18 => k_is)
    refine' K21.def_then (x := "held_lots") (st := K21.topS 28) KX G ?a_19 ?l_19 ?c_19 ?k_19 fun D_held_lots => ?n_19
    (case a_19 => k_is); (case l_19 => k_is); (case c_19 => k_is); (case k_19 => k_is)
    refine' K21.def_then (x := "calm_with") (st := K21.topS 29) KX G ?a_20 ?l_20 ?c_20 ?k_20 fun D_calm_with => ?n_20
    (case a_20 => k_is); (case l_20 => k_is); (case c_20 => k_is); (case k_20 => k_is)
    refine' K21.def_then (x := "is_within") (st := K21.topS 32) KX G ?a_21 ?l_21 ?c_21 ?k_21 fun D_is_within => ?n_21
    (case a_21 => k_is); (case l_21 => k_is); (case c_21 => k_is); (case k_21 => k_is)
    refine' K21.def_then (x := "lots_in") (st := K21.topS 34) KX G ?a_22 ?l_22 ?c_22 ?k_22 fun D_lots_in => ?n_22
    (case a_22 => k_is); (case l_22 => k_is); (case c_22 => k_is); (case k_22 => k_is)
    refine' K21.def_then (x := "fault_in") (st := K21.topS 35) KX G ?a_23 ?l_23 ?c_23 ?k_23 fun D_fault_in => ?n_23
    (case a_23 => k_is); (case l_23 => k_is); (case c_23 => k_is); (case k_23 => k_is)
    refine' K21.def_then (x := "fault_among_held") (st := K21.topS 36) KX G ?a_24 ?l_24 ?c_24 ?k_24 fun D_fault_among_held => ?n_24
    (case a_24 => k_is); (case l_24 => k_is); (case c_24 => k_is); (case k_24 => k_is)
    refine' K21.def_then (x := "fault_of") (st := K21.topS 37) KX G ?a_25 ?l_25 ?c_25 ?k_25 fun D_fault_of => ?n_25
    (case a_25 => k_is); (case l_25 => k_is); (case c_25 => k_is); (case k_25 => k_is)
    refine' K21.def_then (x := "labels_by") (st := K21.topS 39) KX G ?a_26 ?l_26 ?c_26 ?k_26 fun D_labels_by => ?n_26
    (case a_26 => k_is); (case l_26 => k_is); (case c_26 => k_is); (case k_26 => k_is)
    refine' K21.def_then (x := "cut_by") (st := K21.topS 41) KX G ?a_27 ?l_27 ?c_27 ?k_27 fun D_cut_by => ?n_27
    (case a_27 => k_is); (case l_27 => k_is); (case c_27 => k_is); (case k_27 => k_is)
    refine' K21.def_then (x := "is_odd_ring") (st := K21.topS 43) KX G ?a_28 ?l_28 ?c_28 ?k_28 fun D_is_odd_ring => ?n_28
    (case a_28 => k_is); (case l_28 => k_is); (case c_28 => k_is); (case k_28 => k_is)
    refine' K21.def_then (x := "odd_walk") (st := K21.topS 44) KX G ?a_29 ?l_29 ?c_29 ?k_29 fun D_odd_walk => ?n_29
    (case a_29 => k_is); (case l_29 => k_is); (case c_29 => k_is); (case k_29 => k_is)
    refine' K21.def_then (x := "odd_ring") (st := K21.topS 45) KX G ?a_30 ?l_30 ?c_30 ?k_30 fun D_odd_ring => ?n_30
    (case a_30 => k_is); (case l_30 => k_is); (case c_30 => k_is); (case k_30 => k_is)
    refine' K21.def_then (x := "why_unsettled") (st := K21.topS 46) KX G ?a_31 ?l_31 ?c_31 ?k_31 fun D_why_unsettled => ?n_31
    (case a_31 => k_is); (case l_31 => k_is); (case c_31 => k_is); (case k_31 => k_is)
    refine' K21.def_then (x := "_law_z_made") (st := K21.topS 48) KX G ?a_32 ?l_32 ?c_32 ?k_32 fun D_law_z_made => ?n_32
    (case a_32 => k_is); (case l_32 => k_is); (case c_32 => k_is); (case k_32 => k_is)
    refine' K21.def_then (x := "_law_z_odd_name") (st := K21.topS 49) KX G ?a_33 ?l_33 ?c_33 ?k_33 fun D_law_z_odd_name => ?n_33
    (case a_33 => k_is); (case l_33 => k_is); (case c_33 => k_is); (case k_33 => k_is)
    refine' K21.def_then (x := "_law_draw") (st := K21.topS 51) KX G ?a_34 ?l_34 ?c_34 ?k_34 fun D_law_draw => ?n_34
    (case a_34 => k_is); (case l_34 => k_is); (case c_34 => k_is); (case k_34 => k_is)
    refine' K21.def_then (x := "_law_pick") (st := K21.topS 52) KX G ?a_35 ?l_35 ?c_35 ?k_35 fun D_law_pick => ?n_35
    (case a_35 => k_is); (case l_35 => k_is); (case c_35 => k_is); (case k_35 => k_is)
    refine' K21.def_then (x := "_law_mixed") (st := K21.topS 53) KX G ?a_36 ?l_36 ?c_36 ?k_36 fun D_law_mixed => ?n_36
    (case a_36 => k_is); (case l_36 => k_is); (case c_36 => k_is); (case k_36 => k_is)
    refine' K21.def_then (x := "_law_same") (st := K21.topS 54) KX G ?a_37 ?l_37 ?c_37 ?k_37 fun D_law_same => ?n_37
    (case a_37 => k_is); (case l_37 => k_is); (case c_37 => k_is); (case k_37 => k_is)
    refine' K21.def_then (x := "_law_each_once") (st := K21.topS 55) KX G ?a_38 ?l_38 ?c_38 ?k_38 fun D_law_each_once => ?n_38
    (case a_38 => k_is); (case l_38 => k_is); (case c_38 => k_is); (case k_38 => k_is)
    refine' K21.def_then (x := "_law_loose") (st := K21.topS 56) KX G ?a_39 ?l_39 ?c_39 ?k_39 fun D_law_loose => ?n_39
    (case a_39 => k_is); (case l_39 => k_is); (case c_39 => k_is); (case k_39 => k_is)
    refine' K21.def_then (x := "_law_d_names") (st := K21.topS 57) KX G ?a_40 ?l_40 ?c_40 ?k_40 fun D_law_d_names => ?n_40
    (case a_40 => k_is); (case l_40 => k_is); (case c_40 => k_is); (case k_40 => k_is)
    refine' K21.def_then (x := "_law_d_pairs") (st := K21.topS 58) KX G ?a_41 ?l_41 ?c_41 ?k_41 fun D_law_d_pairs => ?n_41
    (case a_41 => k_is); (case l_41 => k_is); (case c_41 => k_is); (case k_41 => k_is)
    refine' K21.def_then (x := "_law_d_debate") (st := K21.topS 59) KX G ?a_42 ?l_42 ?c_42 ?k_42 fun D_law_d_debate => ?n_42
    (case a_42 => k_is); (case l_42 => k_is); (case c_42 => k_is); (case k_42 => k_is)
    refine' K21.def_then (x := "_law_d_objectors") (st := K21.topS 60) KX G ?a_43 ?l_43 ?c_43 ?k_43 fun D_law_d_objectors => ?n_43
    (case a_43 => k_is); (case l_43 => k_is); (case c_43 => k_is); (case k_43 => k_is)
    refine' K21.def_then (x := "_law_d_objected") (st := K21.topS 61) KX G ?a_44 ?l_44 ?c_44 ?k_44 fun D_law_d_objected => ?n_44
    (case a_44 => k_is); (case l_44 => k_is); (case c_44 => k_is); (case k_44 => k_is)
    refine' K21.def_then (x := "_law_d_hits") (st := K21.topS 62) KX G ?a_45 ?l_45 ?c_45 ?k_45 fun D_law_d_hits => ?n_45
    (case a_45 => k_is); (case l_45 => k_is); (case c_45 => k_is); (case k_45 => k_is)
    refine' K21.def_then (x := "_law_d_answers") (st := K21.topS 63) KX G ?a_46 ?l_46 ?c_46 ?k_46 fun D_law_d_answers => ?n_46
    (case a_46 => k_is); (case l_46 => k_is); (case c_46 => k_is); (case k_46 => k_is)
    refine' K21.def_then (x := "_law_d_is_calm") (st := K21.topS 65) KX G ?a_47 ?l_47 ?c_47 ?k_47 fun D_law_d_is_calm => ?n_47
    (case a_47 => k_is); (case l_47 => k_is); (case c_47 => k_is); (case k_47 => k_is)
    refine' K21.def_then (x := "_law_d_is_held") (st := K21.topS 66) KX G ?a_48 ?l_48 ?c_48 ?k_48 fun D_law_d_is_held => ?n_48
    (case a_48 => k_is); (case l_48 => k_is); (case c_48 => k_is); (case k_48 => k_is)
    refine' K21.def_then (x := "_law_d_subsets") (st := K21.topS 67) KX G ?a_49 ?l_49 ?c_49 ?k_49 fun D_law_d_subsets => ?n_49
    (case a_49 => k_is); (case l_49 => k_is); (case c_49 => k_is); (case k_49 => k_is)
    refine' K21.def_then (x := "_law_d_lots") (st := K21.topS 68) KX G ?a_50 ?l_50 ?c_50 ?k_50 fun D_law_d_lots => ?n_50
    (case a_50 => k_is); (case l_50 => k_is); (case c_50 => k_is); (case k_50 => k_is)
    refine' K21.def_then (x := "_law_d_within") (st := K21.topS 69) KX G ?a_51 ?l_51 ?c_51 ?k_51 fun D_law_d_within => ?n_51
    (case a_51 => k_is); (case l_51 => k_is); (case c_51 => k_is); (case k_51 => k_is)
    refine' K21.def_then (x := "_law_d_labels") (st := K21.topS 70) KX G ?a_52 ?l_52 ?c_52 ?k_52 fun D_law_d_labels => ?n_52
    (case a_52 => k_is); (case l_52 => k_is); (case c_52 => k_is); (case k_52 => k_is)
    refine' K21.def_then (x := "_law_is_ring") (st := K21.topS 72) KX G ?a_53 ?l_53 ?c_53 ?k_53 fun D_law_is_ring => ?n_53
    (case a_53 => k_is); (case l_53 => k_is); (case c_53 => k_is); (case k_53 => k_is)
    refine' K21.def_then (x := "_law_has_odd") (st := K21.topS 73) KX G ?a_54 ?l_54 ?c_54 ?k_54 fun D_law_has_odd => ?n_54
    (case a_54 => k_is); (case l_54 => k_is); (case c_54 => k_is); (case k_54 => k_is)
    refine' K21.def_then (x := "_law_things") (st := K21.topS 74) KX G ?a_55 ?l_55 ?c_55 ?k_55 fun D_law_things => ?n_55
    (case a_55 => k_is); (case l_55 => k_is); (case c_55 => k_is); (case k_55 => k_is)
    refine' K21.def_then (x := "_law_twice") (st := K21.topS 75) KX G ?a_56 ?l_56 ?c_56 ?k_56 fun D_law_twice => ?n_56
    (case a_56 => k_is); (case l_56 => k_is); (case c_56 => k_is); (case k_56 => k_is)
    refine' K21.def_then (x := "_law_rings_right") (st := K21.topS 76) KX G ?a_57 ?l_57 ?c_57 ?k_57 fun D_law_rings_right => ?n_57
    (case a_57 => k_is); (case l_57 => k_is); (case c_57 => k_is); (case k_57 => k_is)
    refine' K21.def_then (x := "_law_unsettled_right") (st := K21.topS 77) KX G ?a_58 ?l_58 ?c_58 ?k_58 fun D_law_unsettled_right => ?n_58
    (case a_58 => k_is); (case l_58 => k_is); (case c_58 => k_is); (case k_58 => k_is)
    refine' K21.def_then (x := "_law_start") (st := K21.topS 50) KX G ?a_59 ?l_59 ?c_59 ?k_59 fun D_law_start => ?n_59
    (case a_59 => k_is); (case l_59 => k_is); (case c_59 => k_is); (case k_59 => k_is)
    refine' K21.def_then (x := "_law_met") (st := K21.topS 71) KX G ?a_60 ?l_60 ?c_60 ?k_60 fun D_law_met => ?n_60
    (case a_60 => k_is); (case l_60 => k_is); (case c_60 => k_is); (case k_60 => k_is)
    refine' K21.defC_then (x := "greatest_of") (st := K21.topS 31) KX G TT ?a_61 ?l_61 ?c_61 ?k_61 ?lc_61 ?pc_61 ?rc_61 fun DG TG => ?n_61
    (case a_61 => first | rfl | kernel_rfl | decide +kernel); (case l_61 => first | rfl | kernel_rfl | decide +kernel); (case c_61 => first | rfl | kernel_rfl | decide +kernel); (case k_61 => first | rfl | kernel_rfl | decide +kernel); (case lc_61 => first | rfl | kernel_rfl | decide +kernel); (case pc_61 => first | rfl | kernel_rfl | decide +kernel); (case rc_61 => first | rfl | kernel_rfl | decide +kernel)
    refine' K21.defC_then (x := "law") (st := K21.topS 78) KX G TT ?a_62 ?l_62 ?c_62 ?k_62 ?lc_62 ?pc_62 ?rc_62 fun DL TL => ?n_62
    (case a_62 => first | rfl | kernel_rfl | decide +kernel); (case l_62 => first | rfl | kernel_rfl | decide +kernel); (case c_62 => first | rfl | kernel_rfl | decide +kernel); (case k_62 => first | rfl | kernel_rfl | decide +kernel); (case lc_62 => first | rfl | kernel_rfl | decide +kernel); (case pc_62 => first | rfl | kernel_rfl | decide +kernel); (case rc_62 => first | rfl | kernel_rfl | decide +kernel)
    refine' K21.all_law hmg B CT WT DK EB EN tyB ?sNB_63 DG TG ?nG_63 DL TL ?nL_63 ?ne_63 D_is_list D_is_name D_as_tuples D_checked_statements D_is_pair_of D_checked_objections D_checked_lot D_checked_way D_hit_by D_answered_in D_clash_in D_unanswered_in D_held_lots D_calm_with D_is_within D_lots_in D_fault_in D_fault_among_held D_fault_of D_labels_by D_cut_by D_is_odd_ring D_odd_walk D_odd_ring D_why_unsettled D_law_z_made D_law_z_odd_name D_law_draw D_law_pick D_law_mixed D_law_same D_law_each_once D_law_loose D_law_d_names D_law_d_pairs D_law_d_debate D_law_d_objectors D_law_d_objected D_law_d_hits D_law_d_answers D_law_d_is_calm D_law_d_is_held D_law_d_subsets D_law_d_lots D_law_d_within D_law_d_labels D_law_is_ring D_law_has_odd D_law_things D_law_twice D_law_rings_right D_law_unsettled_right D_law_start D_law_met
    (case sNB_63 => first | rfl | kernel_rfl); (case nG_63 => first | rfl | kernel_rfl); (case nL_63 => first | rfl | kernel_rfl); (case ne_63 => decide)
