import PyProof.Rows.All
import Wide.All
import OpenK.AllK
import Wide.FinOn
import HandS.ForMost
import HandS.TupAny
import HandS.Flow
import HandS.Style
import HandS.Wide
import HandS.WideBits
import HandS.IsInst
import HandS.Zip
import HandS.Deep
import KE.KTupSum
import KE.DatumOrd
import HandS.Conv
import HandS.SetFor
import HandS.Strs
import KE.KSuper
import KE.KExcSuper
import HandS.ExcInit
import HandS.Nested
import HandS.TryOnly
import HandS.ExcOwn
import HandS.WordsExc
import KE.RegKSuper
import HandS.ExcField
import HandS.ExcIs
import KE.KExcIs
import PySem.Challenge.RW_plaintraining_k02_the_one_rounding
set_option Elab.async false
set_option linter.all false
set_option autoImplicit false
set_option maxRecDepth 100000
set_option maxHeartbeats 8000000
/-! Mi: a mirror layer. Plain data D; what represents it; judgements that pair a construct with its mirror. -/
namespace Mi
open PySem PySem.Spec PyProof.Rows L2

abbrev D := PyData
abbrev Dr := List Int × Int
abbrev St := L2.St

/-! ### heaps -/
def Ext (H H' : Hp) : Prop := ∀ a o, H a = some o → H' a = some o
theorem Ext.refl (H : Hp) : Ext H H := fun _ _ h => h
theorem Ext.trans {H H1 H2 : Hp} (a : Ext H H1) (b : Ext H1 H2) : Ext H H2 := fun x o h => b x o (a x o h)
theorem Ext.new {H : Hp} {p : Addr} {o : HO} (h : H p = none) : Ext H (upd H p o) := fun a u e => by
  rw [upd_ne (ne_of_none e h)]
  exact e
theorem Ext.rd {H H' : Hp} {a : Addr} {u : HO} (e : Ext H H') (h : Rd H a u) : Rd H' a u := by
  rcases h with h | ⟨o, h⟩
  · exact Or.inl (e a _ h)
  · exact Or.inr ⟨o, e a _ h⟩
theorem Ext.sqt {K : PySem.W.Frag} {H H' : Hp} {a : Addr} {xs : List V} (e : Ext H H') (h : SqT K H a xs) : SqT K H' a xs := by
  rcases h with h | h
  · exact Or.inl (e.rd h)
  · exact Or.inr h
theorem Ext.none {H H' : Hp} {p : Addr} (e : Ext H H') (h : H' p = Option.none) : H p = Option.none := by
  cases h1 : H p with
  | none => rfl
  | some o => rw [e p o h1] at h; cases h

/-! ### what represents plain data -/
structure C where
  st : Option (Addr × Addr)
  H0 : Hp
  B0 : Hp
/-- a tuple's data with ints and texts among its items: what may be a key -/
def mixd (ds : List D) : Bool := (ds.any fun d => match d with | .int _ => true | _ => false) && (ds.any fun d => match d with | .str _ => true | _ => false)
def TupAt (K : PySem.W.Frag) (B : Hp) (a : Addr) (xs : List V) (ds : List D) : Prop := B a = some (.tup xs) ∨ (SqT K B a xs ∧ mixd ds = false)
theorem TupAt.sqt {K : PySem.W.Frag} {B : Hp} {a : Addr} {xs : List V} {ds : List D} (h : TupAt K B a xs ds) : SqT K B a xs := by
  rcases h with h | h
  · exact .inl (.inl h)
  · exact h.1
theorem TupAt.mono {K : PySem.W.Frag} {B B' : Hp} {a : Addr} {xs : List V} {ds : List D} (e : Ext B B') (h : TupAt K B a xs ds) : TupAt K B' a xs ds := by
  rcases h with h | h
  · exact .inl (e _ _ h)
  · exact .inr ⟨e.sqt h.1, h.2⟩
theorem TupAt.new {K : PySem.W.Frag} {B : Hp} {a : Addr} {xs : List V} {ds : List D} (h : B a = some (.tup xs)) : TupAt K B a xs ds := .inl h
/-- a dict's keys as data -/
def kkD : Key → D
  | .inl i => .int i
  | .inr x => .str x
def tkD (k : List Key) : D := .tuple (k.map kkD)
mutual
inductive Rp (K : PySem.W.Frag) (st : Option (Addr × Addr)) (B : Hp) : V → D → Prop
  | non : Rp K st B .non .none
  | bl (b : Bool) : Rp K st B (.bl b) (.bool b)
  | int (i : Int) : Rp K st B (.int i) (.int i)
  | str (x : Str) : Rp K st B (.str x) (.str x)
  | lst {a : Addr} {xs : List V} {ds : List D} : B a = some (.lst xs) → RpA K st B xs ds → Rp K st B (.ref a) (.list ds)
  | tup {a : Addr} {xs : List V} {ds : List D} : TupAt K B a xs ds → RpA K st B xs ds → Rp K st B (.ref a) (.tuple ds)
  | dct {a : Addr} {kvs : List (List Key × V)} {ks : List (D × D)} : B a = some (.dT kvs) → RpK K st B (kvs.map fun p => (tkD p.1, p.2)) ks → Rp K st B (.ref a) (.dict ((.bool true, .none) :: ks))
  | dck {a : Addr} {kvs : List (Key × V)} {ks : List (D × D)} : B a = some (.dK kvs) → RpK K st B (kvs.map fun p => (kkD p.1, p.2)) ks → Rp K st B (.ref a) (.dict ((.bool false, .none) :: ks))
  | stt {a c : Addr} : st = some (a, c) → Rp K st B (.ref a) (.dict [])
inductive RpA (K : PySem.W.Frag) (st : Option (Addr × Addr)) (B : Hp) : List V → List D → Prop
  | nil : RpA K st B [] []
  | cons {v : V} {vs : List V} {d : D} {ds : List D} : Rp K st B v d → RpA K st B vs ds → RpA K st B (v :: vs) (d :: ds)
inductive RpK (K : PySem.W.Frag) (st : Option (Addr × Addr)) (B : Hp) : List (D × V) → List (D × D) → Prop
  | nil : RpK K st B [] []
  | cons {k d : D} {v : V} {us : List (D × V)} {ks : List (D × D)} : Rp K st B v d → RpK K st B us ks → RpK K st B ((k, v) :: us) ((k, d) :: ks)
end
section
variable {K : PySem.W.Frag} {st : Option (Addr × Addr)} {B B' H : Hp}
mutual
theorem Rp.mono (e : Ext B B') : ∀ (d : D) (v : V), Rp K st B v d → Rp K st B' v d
  | .none, _, h => by cases h; exact .non
  | .bool b, _, h => by cases h; exact .bl b
  | .int i, _, h => by cases h; exact .int i
  | .str x, _, h => by cases h; exact .str x
  | .list ds, _, h => by
    cases h with
    | lst hs ha => exact .lst (e _ _ hs) (RpA.mono e ds _ ha)
  | .tuple ds, _, h => by
    cases h with
    | tup hs ha => exact .tup (hs.mono e) (RpA.mono e ds _ ha)
  | .dict _, _, h => by
    cases h with
    | stt h => exact .stt h
    | dct hs hk => exact .dct (e _ _ hs) (RpK.mono e _ _ hk)
    | dck hs hk => exact .dck (e _ _ hs) (RpK.mono e _ _ hk)
termination_by d => sizeOf d
theorem RpA.mono (e : Ext B B') : ∀ (ds : List D) (vs : List V), RpA K st B vs ds → RpA K st B' vs ds
  | [], _, h => by cases h; exact .nil
  | d :: ds, _, h => by
    cases h with
    | cons h1 h2 => exact .cons (Rp.mono e d _ h1) (RpA.mono e ds _ h2)
termination_by ds => sizeOf ds
theorem RpK.mono (e : Ext B B') : ∀ (ks : List (D × D)) (us : List (D × V)), RpK K st B us ks → RpK K st B' us ks
  | [], _, h => by cases h; exact .nil
  | (k, d) :: ks, _, h => by
    cases h with
    | cons h1 h2 => exact .cons (Rp.mono e d _ h1) (RpK.mono e ks _ h2)
termination_by ks => sizeOf ks
end
theorem RpA.length : ∀ {vs : List V} {ds : List D}, RpA K st B vs ds → vs.length = ds.length
  | _, _, .nil => rfl
  | _, _, .cons _ t => by simp [RpA.length t]
theorem RpA.get : ∀ {vs : List V} {ds : List D} {i : Nat} {d : D}, RpA K st B vs ds → ds[i]? = some d → ∃ v, vs[i]? = some v ∧ Rp K st B v d
  | _, _, i, d, .nil, e => by simp at e
  | _, _, 0, d, .cons r _, e => by simp at e; subst e; exact ⟨_, rfl, r⟩
  | _, _, i + 1, d, .cons _ t, e => by
    obtain ⟨v, h1, h2⟩ := RpA.get (i := i) (d := d) t (by simpa using e)
    exact ⟨v, by simpa using h1, h2⟩
theorem RpA.getV : ∀ {vs : List V} {ds : List D} {i : Nat} {v : V}, RpA K st B vs ds → vs[i]? = some v → ∃ d, ds[i]? = some d ∧ Rp K st B v d
  | _, _, i, d, .nil, e => by simp at e
  | _, _, 0, d, .cons r _, e => by simp at e; subst e; exact ⟨_, rfl, r⟩
  | _, _, i + 1, d, .cons _ t, e => by
    obtain ⟨v, h1, h2⟩ := RpA.getV (i := i) (v := d) t (by simpa using e)
    exact ⟨v, by simpa using h1, h2⟩
theorem RpA.append : ∀ {vs us : List V} {ds es : List D}, RpA K st B vs ds → RpA K st B us es → RpA K st B (vs ++ us) (ds ++ es)
  | _, _, _, _, .nil, s => s
  | _, _, _, _, .cons r t, s => .cons r (RpA.append t s)
theorem RpA.take : ∀ {vs : List V} {ds : List D} (n : Nat), RpA K st B vs ds → RpA K st B (vs.take n) (ds.take n)
  | _, _, 0, _ => .nil
  | _, _, _ + 1, .nil => .nil
  | _, _, n + 1, .cons r t => .cons r (RpA.take n t)
theorem RpA.drop : ∀ {vs : List V} {ds : List D} (n : Nat), RpA K st B vs ds → RpA K st B (vs.drop n) (ds.drop n)
  | _, _, 0, r => r
  | _, _, _ + 1, .nil => .nil
  | _, _, n + 1, .cons _ t => RpA.drop n t
theorem RpA.set {v : V} {d : D} (r : Rp K st B v d) : ∀ {vs : List V} {ds : List D} (i : Nat), RpA K st B vs ds → RpA K st B (vs.set i v) (ds.set i d)
  | _, _, _, .nil => .nil
  | _, _, 0, .cons _ t => .cons r t
  | _, _, i + 1, .cons q t => .cons q (RpA.set r i t)
theorem RpA.erase : ∀ {vs : List V} {ds : List D} (i : Nat), RpA K st B vs ds → RpA K st B (vs.eraseIdx i) (ds.eraseIdx i)
  | _, _, _, .nil => .nil
  | _, _, 0, .cons _ t => t
  | _, _, i + 1, .cons q t => .cons q (RpA.erase i t)
theorem RpA.dropLast {vs : List V} {ds : List D} (h : RpA K st B vs ds) : RpA K st B vs.dropLast ds.dropLast := by
  rw [List.dropLast_eq_take, List.dropLast_eq_take, h.length]
  exact h.take _
theorem RpA.reverse : ∀ {vs : List V} {ds : List D}, RpA K st B vs ds → RpA K st B vs.reverse ds.reverse
  | _, _, .nil => .nil
  | _, _, .cons r t => by
    rw [List.reverse_cons, List.reverse_cons]
    exact RpA.append (RpA.reverse t) (.cons r .nil)
theorem RpA.ints : ∀ {vs : List V} {ns : List Int}, RpA K st B vs (ns.map PyData.int) → vs = ns.map V.int
  | _, [], .nil => rfl
  | _, n :: ns, .cons r t => by
    cases r
    rw [RpA.ints t]
    rfl
theorem RpA.ofInts : ∀ ns : List Int, RpA K st B (ns.map V.int) (ns.map PyData.int)
  | [] => .nil
  | n :: ns => .cons (.int n) (RpA.ofInts ns)
theorem RpA.bools : ∀ {vs : List V} {ns : List Bool}, RpA K st B vs (ns.map PyData.bool) → vs = ns.map V.bl
  | _, [], .nil => rfl
  | _, n :: ns, .cons r t => by
    cases r
    rw [RpA.bools t]
    rfl
theorem RpA.strs : ∀ {vs : List V} {ns : List Str}, RpA K st B vs (ns.map PyData.str) → vs = ns.map V.str
  | _, [], .nil => rfl
  | _, n :: ns, .cons r t => by
    cases r
    rw [RpA.strs t]
    rfl
mutual
theorem Rp.dp (e : Ext B H) : ∀ (d : D) (v : V), Rp K st B v d → d.canLay0 = true → Dp K H v d
  | .none, _, h, _ => by cases h; exact .non
  | .bool b, _, h, _ => by cases h; exact .bl b
  | .int i, _, h, _ => by cases h; exact .int i
  | .str x, _, h, _ => by cases h; exact .str x
  | .list ds, _, h, c => by
    cases h with
    | lst hs ha => exact .lst (SqL.of (e _ _ hs)) (RpA.dp e ds _ ha (by simpa [PyData.canLay0] using c))
  | .tuple ds, _, h, c => by
    cases h with
    | tup hs ha => exact .tup (e.sqt hs.sqt) (RpA.dp e ds _ ha (by simpa [PyData.canLay0] using c))
  | .dict _, _, h, c => by simp [PyData.canLay0] at c
theorem RpA.dp (e : Ext B H) : ∀ (ds : List D) (vs : List V), RpA K st B vs ds → PyData.canLayAll0 ds = true → DpAll K H vs ds
  | [], _, h, _ => by cases h; exact .nil
  | d :: ds, _, h, c => by
    have c' : d.canLay0 = true ∧ PyData.canLayAll0 ds = true := by simpa [PyData.canLayAll0] using c
    cases h with
    | cons h1 h2 => exact .cons (Rp.dp e d _ h1 c'.1) (RpA.dp e ds _ h2 c'.2)
end
/-- what holds no reference -/
def flat : D → Bool
  | .none => true
  | .bool _ => true
  | .int _ => true
  | .str _ => true
  | _ => false
theorem Rp.flat_any {B B' : Hp} {d : D} {v : V} (h : Rp K st B v d) (f : flat d = true) : Rp K st B' v d := by
  cases h with
  | non => exact .non
  | bl b => exact .bl b
  | int i => exact .int i
  | str x => exact .str x
  | lst _ _ => cases f
  | tup _ _ => cases f
  | stt _ => cases f
  | dct _ _ => cases f
  | dck _ _ => cases f
mutual
theorem Rp.st_none : ∀ (d : D) (v : V), Rp K none B v d → Rp K st B v d
  | .none, _, h => by cases h; exact .non
  | .bool b, _, h => by cases h; exact .bl b
  | .int i, _, h => by cases h; exact .int i
  | .str x, _, h => by cases h; exact .str x
  | .list ds, _, h => by
    cases h with
    | lst hs ha => exact .lst hs (RpA.st_none ds _ ha)
  | .tuple ds, _, h => by
    cases h with
    | tup hs ha => exact .tup hs (RpA.st_none ds _ ha)
  | .dict _, _, h => by
    cases h with
    | stt h => cases h
    | dct hs hk => exact .dct hs (RpK.st_none _ _ hk)
    | dck hs hk => exact .dck hs (RpK.st_none _ _ hk)
termination_by d => sizeOf d
theorem RpA.st_none : ∀ (ds : List D) (vs : List V), RpA K none B vs ds → RpA K st B vs ds
  | [], _, h => by cases h; exact .nil
  | d :: ds, _, h => by
    cases h with
    | cons h1 h2 => exact .cons (Rp.st_none d _ h1) (RpA.st_none ds _ h2)
termination_by ds => sizeOf ds
theorem RpK.st_none : ∀ (ks : List (D × D)) (us : List (D × V)), RpK K none B us ks → RpK K st B us ks
  | [], _, h => by cases h; exact .nil
  | (k, d) :: ks, _, h => by
    cases h with
    | cons h1 h2 => exact .cons (Rp.st_none d _ h1) (RpK.st_none ks _ h2)
termination_by ks => sizeOf ks
end
theorem RpK.length : ∀ {us : List (D × V)} {ks : List (D × D)}, RpK K st B us ks → us.length = ks.length
  | _, _, .nil => rfl
  | _, _, .cons _ t => by simp [RpK.length t]
end

/-! ### the mirror's state -/
/-- an object of ours: a list; a dict (with tuples or with plain keys) -/
inductive Ob where
  | l (ds : List D)
  | d (tk : Bool) (ks : List (D × D))
def Ob.dat : Ob → D
  | .l ds => .list ds
  | .d tk ks => .dict ((.bool tk, .none) :: ks)
def ObR (K : PySem.W.Frag) (st : Option (Addr × Addr)) (B : Hp) : HO → Ob → Prop
  | .lst vs, .l ds => RpA K st B vs ds
  | .dT kvs, .d true ks => RpK K st B (kvs.map fun p => (tkD p.1, p.2)) ks
  | .dK kvs, .d false ks => RpK K st B (kvs.map fun p => (kkD p.1, p.2)) ks
  | _, _ => False
theorem ObR.mono {K : PySem.W.Frag} {st : Option (Addr × Addr)} {B B' : Hp} (e : Ext B B') {h : HO} {o : Ob} (r : ObR K st B h o) : ObR K st B' h o := by
  unfold ObR at r ⊢
  split at r
  · exact RpA.mono e _ _ r
  · exact RpK.mono e _ _ r
  · exact RpK.mono e _ _ r
  · exact r.elim
theorem ObR.rp {K : PySem.W.Frag} {st : Option (Addr × Addr)} {B : Hp} {h : HO} {o : Ob} {a : Addr} (r : ObR K st B h o) (hb : B a = some h) : Rp K st B (.ref a) o.dat := by
  unfold ObR at r
  split at r
  · exact .lst hb r
  · exact .dct hb r
  · exact .dck hb r
  · exact r.elim
theorem ObR.list {K : PySem.W.Frag} {st : Option (Addr × Addr)} {B : Hp} {h : HO} {ds : List D} (r : ObR K st B h (.l ds)) : ∃ vs, h = .lst vs ∧ RpA K st B vs ds := by
  unfold ObR at r
  split at r
  · rename_i e; cases e; exact ⟨_, rfl, r⟩
  · rename_i e; cases e
  · rename_i e; cases e
  · exact r.elim
inductive Sl where
  | un
  | val (d : D)
  | ow (o : Ob)
abbrev Sl.own (ds : List D) : Sl := .ow (.l ds)
structure MS where
  sl : List Sl
  dr : Dr
abbrev M (α : Type) := MS → Option (α × MS)

def SlOk (K : PySem.W.Frag) (c : C) (B : Hp) (σ : St) (H : Hp) (i : Nat) : Sl → Prop
  | .un => True
  | .val d => ∃ v, σ[i]? = some (some v) ∧ Rp K c.st B v d
  | .ow o => ∃ p h, σ[i]? = some (some (.ref p)) ∧ H p = some h ∧ B p = none ∧ c.H0 p = none ∧ ObR K c.st B h o
def DrOk (c : C) (B H : Hp) (dr : Dr) : Prop := ∀ x y, c.st = some (x, y) → x ≠ y ∧ H x = some (.lst [.ref y, .int dr.2]) ∧ H y = some (.lst (dr.1.map .int)) ∧ B x = none ∧ B y = none ∧ c.H0 x ≠ none ∧ c.H0 y ≠ none
def IsSt (c : C) (a : Addr) : Prop := ∃ x y, c.st = some (x, y) ∧ (a = x ∨ a = y)
structure Rel0 (c : C) (B H : Hp) (dr : Dr) : Prop where
  ext : Ext B H
  dr : DrOk c B H dr
  fr : ∀ a o, c.H0 a = some o → ¬ IsSt c a → H a = some o
  nw : ∀ a o, B a = some o → c.B0 a = some o ∨ c.H0 a = none
  b0 : Ext c.B0 B
structure Rel (K : PySem.W.Frag) (c : C) (B : Hp) (σ : St) (H : Hp) (μ : MS) : Prop where
  r0 : Rel0 c B H μ.dr
  len : σ.length = μ.sl.length
  sl : ∀ (i : Nat) (s : Sl), μ.sl[i]? = some s → SlOk K c B σ H i s
  sep : ∀ (i j : Nat) (di dj : Ob), i ≠ j → μ.sl[i]? = some (.ow di) → μ.sl[j]? = some (.ow dj) → σ[i]? ≠ σ[j]?

theorem IsSt.some {c : C} {B H : Hp} {dr : Dr} {a : Addr} (h : DrOk c B H dr) (s : IsSt c a) : (∃ o, H a = some o) ∧ B a = none ∧ c.H0 a ≠ none := by
  obtain ⟨x, y, e, s⟩ := s
  obtain ⟨_, h1, h2, h3, h4, h5, h6⟩ := h x y e
  rcases s with rfl | rfl
  · exact ⟨⟨_, h1⟩, h3, h5⟩
  · exact ⟨⟨_, h2⟩, h4, h6⟩
/-- fresh now: fresh at the entry -/
theorem Rel0.fresh {c : C} {B H : Hp} {dr : Dr} (r : Rel0 c B H dr) {p : Addr} (h : H p = none) : c.H0 p = none ∧ B p = none := by
  refine ⟨?_, r.ext.none h⟩
  cases q : c.H0 p with
  | none => rfl
  | some o =>
    by_cases s : IsSt c p
    · obtain ⟨⟨o', e⟩, _⟩ := s.some r.dr
      rw [h] at e; cases e
    · rw [r.fr p o q s] at h; cases h
/-- a new object, known from now on -/
theorem Rel0.know {c : C} {B H : Hp} {dr : Dr} (r : Rel0 c B H dr) {p : Addr} {o : HO} (h : H p = none) : Rel0 c (upd B p o) (upd H p o) dr := by
  obtain ⟨h0, hb⟩ := r.fresh h
  refine ⟨fun a u e => ?_, fun x y e => ?_, fun a u e s => ?_, fun a u e => ?_, r.b0.trans (Ext.new hb)⟩
  · by_cases ha : a = p
    · subst ha; rw [upd_same] at e ⊢; exact e
    · rw [upd_ne ha] at e ⊢; exact r.ext a u e
  · obtain ⟨h1, h2, h3, h4, h5, h6, h7⟩ := r.dr x y e
    have nx : x ≠ p := fun q => by subst q; exact h6 h0
    have ny : y ≠ p := fun q => by subst q; exact h7 h0
    rw [upd_ne nx, upd_ne ny, upd_ne nx, upd_ne ny]
    exact ⟨h1, h2, h3, h4, h5, h6, h7⟩
  · rw [upd_ne (ne_of_none e h0)]
    exact r.fr a u e s
  · by_cases ha : a = p
    · subst ha; exact .inr h0
    · rw [upd_ne ha] at e; exact r.nw a u e
/-- a new object, or a change of one that is neither known nor stood at the entry -/
theorem Rel0.hide {c : C} {B H : Hp} {dr : Dr} (r : Rel0 c B H dr) {p : Addr} {o : HO} (h0 : c.H0 p = none) (hb : B p = none) : Rel0 c B (upd H p o) dr := by
  refine ⟨fun a u e => ?_, fun x y e => ?_, fun a u e s => ?_, r.nw, r.b0⟩
  · rw [upd_ne (ne_of_none e hb)]; exact r.ext a u e
  · obtain ⟨h1, h2, h3, h4, h5, h6, h7⟩ := r.dr x y e
    have nx : x ≠ p := fun q => by subst q; exact h6 h0
    have ny : y ≠ p := fun q => by subst q; exact h7 h0
    rw [upd_ne nx, upd_ne ny]
    exact ⟨h1, h2, h3, h4, h5, h6, h7⟩
  · rw [upd_ne (ne_of_none e h0)]
    exact r.fr a u e s
/-- an object of ours that is no more changed is known from now on -/
theorem Rel0.freeze {c : C} {B H : Hp} {dr : Dr} (r : Rel0 c B H dr) {p : Addr} {o : HO} (h : H p = some o) (h0 : c.H0 p = none) (hb : B p = none) : Rel0 c (upd B p o) H dr := by
  refine ⟨fun a u e => ?_, fun x y e => ?_, r.fr, fun a u e => ?_, r.b0.trans (Ext.new hb)⟩
  · by_cases ha : a = p
    · subst ha; rw [upd_same] at e; rw [← e]; exact h
    · rw [upd_ne ha] at e; exact r.ext a u e
  · obtain ⟨h1, h2, h3, h4, h5, h6, h7⟩ := r.dr x y e
    have nx : x ≠ p := fun q => by subst q; exact h6 h0
    have ny : y ≠ p := fun q => by subst q; exact h7 h0
    rw [upd_ne nx, upd_ne ny]
    exact ⟨h1, h2, h3, h4, h5, h6, h7⟩
  · by_cases ha : a = p
    · subst ha; exact .inr h0
    · rw [upd_ne ha] at e; exact r.nw a u e

section
variable {K : PySem.W.Frag} {c : C} {B B' H H' : Hp} {σ : St} {μ : MS}
/-- the slots under a new base, where lists of ours stand as they stood -/
theorem Rel.move {dr : Dr} (r : Rel K c B σ H μ) (r0 : Rel0 c B' H' dr) (e : Ext B B')
    (own : ∀ (i : Nat) (ds : Ob) (p : Addr), μ.sl[i]? = some (.ow ds) → σ[i]? = some (some (.ref p)) → H' p = H p ∧ B' p = none) : Rel K c B' σ H' { μ with dr := dr } := by
  refine ⟨r0, r.len, fun i s hs => ?_, r.sep⟩
  have h := r.sl i s hs
  cases s with
  | un => trivial
  | val d =>
    obtain ⟨v, h1, h2⟩ := h
    exact ⟨v, h1, h2.mono e⟩
  | ow ds =>
    obtain ⟨p, vs, h1, h2, h3, h4, h5⟩ := h
    obtain ⟨o1, o2⟩ := own i ds p hs h1
    exact ⟨p, vs, h1, by rw [o1]; exact h2, o2, h4, h5.mono e⟩
theorem Rel.owAt (r : Rel K c B σ H μ) {i : Nat} {o : Ob} (h : μ.sl[i]? = some (.ow o)) : ∃ p h, σ[i]? = some (some (.ref p)) ∧ H p = some h ∧ B p = none ∧ c.H0 p = none ∧ ObR K c.st B h o := r.sl i _ h
theorem Rel.ownAt (r : Rel K c B σ H μ) {i : Nat} {ds : List D} (h : μ.sl[i]? = some (.own ds)) : ∃ p vs, σ[i]? = some (some (.ref p)) ∧ H p = some (.lst vs) ∧ B p = none ∧ c.H0 p = none ∧ RpA K c.st B vs ds := by
  obtain ⟨p, ho, h1, h2, h3, h4, h5⟩ := r.owAt h
  obtain ⟨vs, rfl, h6⟩ := h5.list
  exact ⟨p, vs, h1, h2, h3, h4, h6⟩
theorem Rel.valAt (r : Rel K c B σ H μ) {i : Nat} {d : D} (h : μ.sl[i]? = some (.val d)) : ∃ v, σ[i]? = some (some v) ∧ Rp K c.st B v d := r.sl i _ h
/-- a new object, known from now on -/
theorem Rel.know (r : Rel K c B σ H μ) {p : Addr} {o : HO} (h : H p = none) : Rel K c (upd B p o) σ (upd H p o) μ := by
  obtain ⟨h0, hb⟩ := r.r0.fresh h
  refine r.move (dr := μ.dr) (r.r0.know h) (Ext.new hb) fun i ds q h1 h2 => ?_
  obtain ⟨q', vs, e1, e2, e3, e4, e5⟩ := r.owAt h1
  rw [h2] at e1; cases e1
  have nq : q ≠ p := ne_of_none e2 h
  rw [upd_ne nq, upd_ne nq]
  exact ⟨rfl, e3⟩
/-- a new object that nobody knows -/
theorem Rel.hide (r : Rel K c B σ H μ) {p : Addr} {o : HO} (h : H p = none) : Rel K c B σ (upd H p o) μ := by
  obtain ⟨h0, hb⟩ := r.r0.fresh h
  refine r.move (dr := μ.dr) (r.r0.hide h0 hb) (Ext.refl _) fun i ds q h1 h2 => ?_
  obtain ⟨q', vs, e1, e2, e3, e4, e5⟩ := r.owAt h1
  rw [h2] at e1; cases e1
  rw [upd_ne (ne_of_none e2 h)]
  exact ⟨rfl, e3⟩
/-- an address that no slot of ours owns -/
def NoOwn (σ : St) (μ : MS) (p : Addr) : Prop := ∀ (i : Nat) (ds : Ob), μ.sl[i]? = some (.ow ds) → σ[i]? ≠ some (some (.ref p))
theorem Rel.noOwn (r : Rel K c B σ H μ) {p : Addr} (h : H p = none) : NoOwn σ μ p := fun i ds h1 h2 => by
  obtain ⟨q', vs, e1, e2, e3, e4, e5⟩ := r.owAt h1
  rw [h2] at e1; cases e1
  rw [h] at e2; cases e2
/-- a list that nobody owns changes -/
theorem Rel.chg (r : Rel K c B σ H μ) {p : Addr} {o : HO} (h0 : c.H0 p = none) (hb : B p = none) (n : NoOwn σ μ p) : Rel K c B σ (upd H p o) μ := by
  refine r.move (dr := μ.dr) (r.r0.hide h0 hb) (Ext.refl _) fun i ds q h1 h2 => ?_
  obtain ⟨q', vs, e1, e2, e3, e4, e5⟩ := r.owAt h1
  rw [h2] at e1; cases e1
  have nq : q ≠ p := fun z => by subst z; exact n i ds h1 h2
  rw [upd_ne nq]
  exact ⟨rfl, e3⟩
/-- .. is known from now on -/
theorem Rel.freeze (r : Rel K c B σ H μ) {p : Addr} {o : HO} (h : H p = some o) (h0 : c.H0 p = none) (hb : B p = none) (n : NoOwn σ μ p) : Rel K c (upd B p o) σ H μ := by
  refine r.move (dr := μ.dr) (r.r0.freeze h h0 hb) (Ext.new hb) fun i ds q h1 h2 => ?_
  obtain ⟨q', vs, e1, e2, e3, e4, e5⟩ := r.owAt h1
  rw [h2] at e1; cases e1
  have nq : q ≠ p := fun z => by subst z; exact n i ds h1 h2
  rw [upd_ne nq]
  exact ⟨rfl, e3⟩
def setS (μ : MS) (i : Nat) (s : Sl) : MS := { μ with sl := μ.sl.set i s }
/-- a slot is set -/
theorem Rel.put (r : Rel K c B σ H μ) {i : Nat} {v : Option V} {s : Sl} (h : i < μ.sl.length → SlOk K c B (σ.set i v) H i s)
    (hs : ∀ (ds : Ob) (j : Nat) (dj : Ob), s = .ow ds → j ≠ i → μ.sl[j]? = some (.ow dj) → σ[j]? ≠ some v) : Rel K c B (σ.set i v) H (setS μ i s) := by
  refine ⟨r.r0, by simp [setS, r.len], fun j t hj => ?_, fun j k dj dk njk hj hk => ?_⟩
  · by_cases hji : j = i
    · subst hji
      have hl : j < μ.sl.length := by
        have := (List.getElem?_eq_some_iff.mp hj).1
        simpa [setS] using this
      rw [show (setS μ j s).sl = μ.sl.set j s from rfl, List.getElem?_set_self hl] at hj
      cases hj
      exact h hl
    · rw [show (setS μ i s).sl = μ.sl.set i s from rfl, List.getElem?_set_ne (Ne.symm hji)] at hj
      have q := r.sl j t hj
      cases t with
      | un => trivial
      | val d =>
        obtain ⟨v', h1, h2⟩ := q
        exact ⟨v', by rw [List.getElem?_set_ne (Ne.symm hji)]; exact h1, h2⟩
      | ow ds =>
        obtain ⟨p, vs, h1, h2⟩ := q
        exact ⟨p, vs, by rw [List.getElem?_set_ne (Ne.symm hji)]; exact h1, h2⟩
  · by_cases hji : j = i
    · subst hji
      have hl : j < μ.sl.length := by
        have := (List.getElem?_eq_some_iff.mp hj).1
        simpa [setS] using this
      rw [show (setS μ j s).sl = μ.sl.set j s from rfl] at hj hk
      rw [List.getElem?_set_self hl] at hj
      rw [List.getElem?_set_ne njk] at hk
      cases hj
      rw [List.getElem?_set_self (by rw [r.len]; exact hl), List.getElem?_set_ne njk]
      exact (hs dj k dk rfl (Ne.symm njk) hk).symm
    · by_cases hki : k = i
      · subst hki
        have hl : k < μ.sl.length := by
          have := (List.getElem?_eq_some_iff.mp hk).1
          simpa [setS] using this
        rw [show (setS μ k s).sl = μ.sl.set k s from rfl] at hj hk
        rw [List.getElem?_set_self hl] at hk
        rw [List.getElem?_set_ne (Ne.symm njk)] at hj
        cases hk
        rw [List.getElem?_set_self (l := σ) (by rw [r.len]; exact hl), List.getElem?_set_ne (Ne.symm njk)]
        exact hs dk j dj rfl njk hj
      · rw [show (setS μ i s).sl = μ.sl.set i s from rfl] at hj hk
        rw [List.getElem?_set_ne (Ne.symm hji)] at hj
        rw [List.getElem?_set_ne (Ne.symm hki)] at hk
        rw [List.getElem?_set_ne (Ne.symm hji), List.getElem?_set_ne (Ne.symm hki)]
        exact r.sep j k dj dk njk hj hk
theorem Rel.putV (r : Rel K c B σ H μ) {i : Nat} {v : V} {d : D} (h : Rp K c.st B v d) : Rel K c B (σ.set i (some v)) H (setS μ i (.val d)) :=
  r.put (fun hl => ⟨v, by rw [List.getElem?_set_self (by rw [r.len]; exact hl)], h⟩) fun _ _ _ e => by cases e
theorem Rel.putOw (r : Rel K c B σ H μ) {i : Nat} {p : Addr} {h : HO} {o : Ob} (hh : H p = some h) (hb : B p = none) (h0 : c.H0 p = none) (ha : ObR K c.st B h o) (n : NoOwn σ μ p) :
    Rel K c B (σ.set i (some (.ref p))) H (setS μ i (.ow o)) :=
  r.put (fun hl => ⟨p, h, by rw [List.getElem?_set_self (by rw [r.len]; exact hl)], hh, hb, h0, ha⟩) fun _ j dj _ _ hj => n j dj hj
theorem Rel.putO (r : Rel K c B σ H μ) {i : Nat} {p : Addr} {vs : List V} {ds : List D} (h : H p = some (.lst vs)) (hb : B p = none) (h0 : c.H0 p = none) (ha : RpA K c.st B vs ds) (n : NoOwn σ μ p) :
    Rel K c B (σ.set i (some (.ref p))) H (setS μ i (.own ds)) := r.putOw h hb h0 (o := .l ds) ha n
/-- a slot's word alone changes (its value stays) -/
theorem Rel.same (r : Rel K c B σ H μ) {i : Nat} {s : Sl} (h : i < μ.sl.length → SlOk K c B σ H i s) (hs : ∀ ds, s ≠ .ow ds) : Rel K c B σ H (setS μ i s) := by
  refine ⟨r.r0, by simp [setS, r.len], fun j t hj => ?_, fun j k dj dk njk hj hk => ?_⟩
  · by_cases hji : j = i
    · subst hji
      have hl : j < μ.sl.length := by
        have := (List.getElem?_eq_some_iff.mp hj).1
        simpa [setS] using this
      rw [show (setS μ j s).sl = μ.sl.set j s from rfl, List.getElem?_set_self hl] at hj
      cases hj
      exact h hl
    · rw [show (setS μ i s).sl = μ.sl.set i s from rfl, List.getElem?_set_ne (Ne.symm hji)] at hj
      exact r.sl j t hj
  · have aux : ∀ (j : Nat) (dj : Ob), (setS μ i s).sl[j]? = some (.ow dj) → μ.sl[j]? = some (.ow dj) := fun j dj hj => by
      by_cases hji : j = i
      · subst hji
        have hl : j < μ.sl.length := by
          have := (List.getElem?_eq_some_iff.mp hj).1
          simpa [setS] using this
        rw [show (setS μ j s).sl = μ.sl.set j s from rfl, List.getElem?_set_self hl] at hj
        cases hj
        exact (hs dj rfl).elim
      · rw [show (setS μ i s).sl = μ.sl.set i s from rfl, List.getElem?_set_ne (Ne.symm hji)] at hj
        exact hj
    exact r.sep j k dj dk njk (aux j dj hj) (aux k dk hk)
/-- a list of ours in a slot changes -/
theorem Rel.owSet (r : Rel K c B σ H μ) {i : Nat} {ds ds' : Ob} {p : Addr} {vs' : HO} (h : μ.sl[i]? = some (.ow ds)) (hp : σ[i]? = some (some (.ref p))) (ha : ObR K c.st B vs' ds') :
    Rel K c B σ (upd H p vs') (setS μ i (.ow ds')) := by
  obtain ⟨q, vs, e1, e2, e3, e4, e5⟩ := r.owAt h
  rw [hp] at e1; cases e1
  have hl : i < μ.sl.length := (List.getElem?_eq_some_iff.mp h).1
  refine ⟨r.r0.hide e4 e3, by simp [setS, r.len], fun j t hj => ?_, fun j k dj dk njk hj hk => ?_⟩
  · by_cases hji : j = i
    · subst hji
      rw [show (setS μ j (.ow ds')).sl = μ.sl.set j (.ow ds') from rfl, List.getElem?_set_self hl] at hj
      cases hj
      exact ⟨p, vs', hp, upd_same, e3, e4, ha⟩
    · rw [show (setS μ i (.ow ds')).sl = μ.sl.set i (.ow ds') from rfl, List.getElem?_set_ne (Ne.symm hji)] at hj
      have q := r.sl j t hj
      cases t with
      | un => trivial
      | val d => exact q
      | ow dj =>
        obtain ⟨p', vs2, h1, h2, h3, h4, h5⟩ := q
        have np : p' ≠ p := fun z => by
          subst z
          exact r.sep j i dj ds hji hj h (h1.trans hp.symm)
        exact ⟨p', vs2, h1, by rw [upd_ne np]; exact h2, h3, h4, h5⟩
  · have aux : ∀ (j : Nat) (dj : Ob), (setS μ i (.ow ds')).sl[j]? = some (.ow dj) → ∃ dj', μ.sl[j]? = some (.ow dj') := fun j dj hj => by
      by_cases hji : j = i
      · subst hji; exact ⟨_, h⟩
      · rw [show (setS μ i (.ow ds')).sl = μ.sl.set i (.ow ds') from rfl, List.getElem?_set_ne (Ne.symm hji)] at hj
        exact ⟨_, hj⟩
    obtain ⟨dj', hj'⟩ := aux j dj hj
    obtain ⟨dk', hk'⟩ := aux k dk hk
    exact r.sep j k dj' dk' njk hj' hk'
theorem Rel.ownSet (r : Rel K c B σ H μ) {i : Nat} {ds ds' : List D} {p : Addr} {vs' : List V} (h : μ.sl[i]? = some (.own ds)) (hp : σ[i]? = some (some (.ref p))) (ha : RpA K c.st B vs' ds') :
    Rel K c B σ (upd H p (.lst vs')) (setS μ i (.own ds')) := r.owSet (ds' := .l ds') (vs' := .lst vs') h hp ha
/-- a list of ours in a slot is given away as a value -/
theorem Rel.owVal (r : Rel K c B σ H μ) {i : Nat} {ds : Ob} (h : μ.sl[i]? = some (.ow ds)) :
    ∃ p vs, σ[i]? = some (some (.ref p)) ∧ H p = some vs ∧ B p = none ∧ Ext B (upd B p vs) ∧ Rp K c.st (upd B p vs) (.ref p) ds.dat ∧ Rel K c (upd B p vs) σ H (setS μ i (.val ds.dat)) := by
  obtain ⟨p, vs, e1, e2, e3, e4, e5⟩ := r.owAt h
  have ex : Ext B (upd B p vs) := Ext.new e3
  have rp : Rp K c.st (upd B p vs) (.ref p) ds.dat := (e5.mono ex).rp upd_same
  refine ⟨p, vs, e1, e2, e3, ex, rp, ?_⟩
  have r1 : Rel K c B σ H (setS μ i .un) := r.same (fun _ => trivial) fun _ z => by cases z
  have n1 : NoOwn σ (setS μ i .un) p := fun j dj hj hs => by
    by_cases hji : j = i
    · subst hji
      have hl : j < μ.sl.length := (List.getElem?_eq_some_iff.mp h).1
      rw [show (setS μ j .un).sl = μ.sl.set j .un from rfl, List.getElem?_set_self hl] at hj
      cases hj
    · rw [show (setS μ i .un).sl = μ.sl.set i .un from rfl, List.getElem?_set_ne (Ne.symm hji)] at hj
      exact r.sep j i dj ds hji hj h (hs.trans e1.symm)
  have r2 := r1.freeze e2 e4 e3 n1
  have r3 := r2.same (i := i) (s := .val ds.dat) (fun _ => ⟨_, e1, rp⟩) (fun _ z => by cases z)
  have eq : setS (setS μ i .un) i (.val ds.dat) = setS μ i (.val ds.dat) := by
    unfold setS
    simp
  rw [eq] at r3
  exact r3
theorem Rel.ownVal (r : Rel K c B σ H μ) {i : Nat} {ds : List D} (h : μ.sl[i]? = some (.own ds)) :
    ∃ p vs, σ[i]? = some (some (.ref p)) ∧ H p = some (.lst vs) ∧ B p = none ∧ Ext B (upd B p (.lst vs)) ∧ Rp K c.st (upd B p (.lst vs)) (.ref p) (.list ds) ∧ Rel K c (upd B p (.lst vs)) σ H (setS μ i (.val (.list ds))) := by
  obtain ⟨p, ho, h1, h2, h3, h4, h5, h6⟩ := r.owVal h
  obtain ⟨p', vs, e1, e2, _⟩ := r.ownAt h
  rw [h1] at e1
  cases e1
  rw [h2] at e2
  cases e2
  exact ⟨p, vs, h1, h2, h3, h4, h5, h6⟩
end
end Mi
/-! Mi, second part: operands, expressions, tests. -/
namespace Mi
open PySem PySem.Spec PyProof.Rows L2

/-! ### what is wanted behind -/
def Post (K : PySem.W.Frag) (c : C) (B : Hp) (σ : St) (μ' : MS) (d : D) (Q : VK) : Prop := ∀ B' H' v, Ext B B' → Rel K c B' σ H' μ' → Rp K c.st B' v d → Q v H'
section
variable {K : PySem.W.Frag} {c : C} {B B1 H : Hp} {σ : St} {μ : MS} {d : D} {Q : VK}
theorem Post.go {v : V} (k : Post K c B σ μ d Q) (r : Rel K c B σ H μ) (h : Rp K c.st B v d) : Q v H := k B H v (Ext.refl _) r h
theorem Post.ext (k : Post K c B σ μ d Q) (e : Ext B B1) : Post K c B1 σ μ d Q := fun B' H' v a => k B' H' v (e.trans a)
theorem Post.tup {vs : List V} {ds : List D} (k : Post K c B σ μ (.tuple ds) Q) (r : Rel K c B σ H μ) (h : RpA K c.st B vs ds) {p : Addr} (hp : H p = none) : Q (.ref p) (upd H p (.tup vs)) := by
  have e : Ext B (upd B p (.tup vs)) := Ext.new (r.r0.fresh hp).2
  exact k _ _ _ e (r.know hp) (.tup (.inl upd_same) (h.mono e))
theorem Post.lst {vs : List V} {ds : List D} (k : Post K c B σ μ (.list ds) Q) (r : Rel K c B σ H μ) (h : RpA K c.st B vs ds) {p : Addr} (hp : H p = none) : Q (.ref p) (upd H p (.lst vs)) := by
  have e : Ext B (upd B p (.lst vs)) := Ext.new (r.r0.fresh hp).2
  exact k _ _ _ e (r.know hp) (.lst upd_same (h.mono e))
end

/-! ### a look at a value: known, or a list of ours as it stands -/
def Lk (K : PySem.W.Frag) (st : Option (Addr × Addr)) (B H : Hp) (v : V) (d : D) : Prop := Rp K st B v d ∨ (∃ p vs ds, v = .ref p ∧ d = .list ds ∧ H p = some (.lst vs) ∧ RpA K st B vs ds) ∨ ∃ p h tk ks, v = .ref p ∧ d = .dict ((.bool tk, .none) :: ks) ∧ H p = some h ∧ ObR K st B h (.d tk ks)
section
variable {K : PySem.W.Frag} {st : Option (Addr × Addr)} {B H : Hp} {x : V}
theorem Lk.int {i : Int} (h : Lk K st B H x (.int i)) : x = .int i := by
  rcases h with h | ⟨_, _, _, _, e, _⟩ | ⟨_, _, _, _, _, e, _⟩
  · cases h; rfl
  · cases e
  · cases e
theorem Lk.str {i : Str} (h : Lk K st B H x (.str i)) : x = .str i := by
  rcases h with h | ⟨_, _, _, _, e, _⟩ | ⟨_, _, _, _, _, e, _⟩
  · cases h; rfl
  · cases e
  · cases e
theorem Lk.bool {i : Bool} (h : Lk K st B H x (.bool i)) : x = .bl i := by
  rcases h with h | ⟨_, _, _, _, e, _⟩ | ⟨_, _, _, _, _, e, _⟩
  · cases h; rfl
  · cases e
  · cases e
theorem Lk.none (h : Lk K st B H x .none) : x = .non := by
  rcases h with h | ⟨_, _, _, _, e, _⟩ | ⟨_, _, _, _, _, e, _⟩
  · cases h; rfl
  · cases e
  · cases e
theorem Lk.list {ds : List D} (h : Lk K st B H x (.list ds)) (e : Ext B H) : ∃ p vs, x = .ref p ∧ H p = some (.lst vs) ∧ RpA K st B vs ds := by
  rcases h with h | ⟨p, vs, ds', e1, e2, e3, e4⟩ | ⟨p, vs, ds', _, e1, e2, _⟩
  · cases h with
    | lst h1 h2 => exact ⟨_, _, rfl, e _ _ h1, h2⟩
  · cases e2; exact ⟨p, vs, e1, e3, e4⟩
  · cases e2
theorem Lk.dict {tk : Bool} {ks : List (D × D)} (h : Lk K st B H x (.dict ((.bool tk, .none) :: ks))) (e : Ext B H) : ∃ p ho, x = .ref p ∧ H p = some ho ∧ ObR K st B ho (.d tk ks) := by
  rcases h with h | ⟨p, vs, ds', e1, e2, e3, e4⟩ | ⟨p, ho, tk', ks', e1, e2, e3, e4⟩
  · cases h with
    | dct h1 h2 => exact ⟨_, _, rfl, e _ _ h1, h2⟩
    | dck h1 h2 => exact ⟨_, _, rfl, e _ _ h1, h2⟩
  · cases e2
  · cases e2; exact ⟨p, ho, e1, e3, e4⟩
theorem Lk.tuple {ds : List D} (h : Lk K st B H x (.tuple ds)) (e : Ext B H) : ∃ p vs, x = .ref p ∧ SqT K H p vs ∧ TupAt K B p vs ds ∧ RpA K st B vs ds := by
  rcases h with h | ⟨p, vs, ds', e1, e2, e3, e4⟩ | ⟨p, vs, ds', _, e1, e2, _⟩
  · cases h with
    | tup h1 h2 => exact ⟨_, _, rfl, e.sqt h1.sqt, h1, h2⟩
  · cases e2
  · cases e2
theorem Lk.dp {d : D} (h : Lk K st B H x d) (e : Ext B H) (cl : d.canLay0 = true) : Dp K H x d := by
  rcases h with h | ⟨p, vs, ds, rfl, rfl, e3, e4⟩ | ⟨p, h, tk, ks, rfl, rfl, _⟩
  · exact h.dp e d x cl
  · exact .lst (SqL.of e3) (RpA.dp e ds vs e4 (by simpa [PyData.canLay0] using cl))
  · simp [PyData.canLay0] at cl
theorem Lk.of {d : D} (h : Rp K st B x d) : Lk K st B H x d := .inl h
end

/-! ### operands: a value, or a name's slot (read when the operation is done) -/
inductive O where
  | v (d : D)
  | s (i : Nat)
def look : O → MS → Option D
  | .v d, _ => some d
  | .s i, μ => match μ.sl[i]? with
    | some (.val d) => some d
    | some (.ow o) => some o.dat
    | _ => none
def OR (K : PySem.W.Frag) (st : Option (Addr × Addr)) (B : Hp) (σ : St) (v : V) : O → Prop
  | .v d => Rp K st B v d
  | .s i => σ[i]? = some (some v)
inductive ORA (K : PySem.W.Frag) (st : Option (Addr × Addr)) (B : Hp) (σ : St) : List V → List O → Prop
  | nil : ORA K st B σ [] []
  | cons {v : V} {vs : List V} {o : O} {os : List O} : OR K st B σ v o → ORA K st B σ vs os → ORA K st B σ (v :: vs) (o :: os)
inductive LkA (K : PySem.W.Frag) (st : Option (Addr × Addr)) (B H : Hp) : List V → List D → Prop
  | nil : LkA K st B H [] []
  | cons {v : V} {vs : List V} {d : D} {ds : List D} : Lk K st B H v d → LkA K st B H vs ds → LkA K st B H (v :: vs) (d :: ds)
def looks : List O → MS → Option (List D)
  | [], _ => some []
  | o :: os, μ => (look o μ).bind fun d => (looks os μ).bind fun ds => some (d :: ds)
section
variable {K : PySem.W.Frag} {c : C} {B B' H : Hp} {σ : St} {μ : MS}
theorem OR.mono {st : Option (Addr × Addr)} {v : V} {o : O} (e : Ext B B') (h : OR K st B σ v o) : OR K st B' σ v o := by
  cases o with
  | v d => exact Rp.mono e d v h
  | s i => exact h
theorem ORA.mono {st : Option (Addr × Addr)} (e : Ext B B') : ∀ {vs : List V} {os : List O}, ORA K st B σ vs os → ORA K st B' σ vs os
  | _, _, .nil => .nil
  | _, _, .cons h t => .cons (h.mono e) (ORA.mono e t)
theorem look_ok (r : Rel K c B σ H μ) {v : V} {o : O} {d : D} (h : OR K c.st B σ v o) (e : look o μ = some d) : Lk K c.st B H v d := by
  cases o with
  | v d' => cases e; exact .inl h
  | s i =>
    have h' : σ[i]? = some (some v) := h
    simp only [look] at e
    split at e
    · rename_i d' hs
      cases e
      obtain ⟨v', e1, e2⟩ := r.valAt hs
      rw [h'] at e1; cases e1
      exact .inl e2
    · rename_i ds hs
      cases e
      obtain ⟨p, ho, e1, e2, e3, e4, e5⟩ := r.owAt hs
      rw [h'] at e1; cases e1
      cases ds with
      | l ds =>
        obtain ⟨vs, rfl, e6⟩ := e5.list
        exact .inr (.inl ⟨p, vs, ds, rfl, rfl, e2, e6⟩)
      | d tk ks => exact .inr (.inr ⟨p, ho, tk, ks, rfl, rfl, e2, e5⟩)
    · cases e
theorem looks_ok (r : Rel K c B σ H μ) : ∀ {vs : List V} {os : List O} {ds : List D}, ORA K c.st B σ vs os → looks os μ = some ds → LkA K c.st B H vs ds
  | _, _, _, .nil, e => by cases e; exact .nil
  | _, _, _, .cons (o := o) (os := os) h t, e => by
    unfold looks at e
    cases h1 : look o μ with
    | none => rw [h1] at e; cases e
    | some d =>
      cases h2 : looks os μ with
      | none => rw [h1, h2] at e; cases e
      | some ds =>
        rw [h1, h2] at e; cases e
        exact .cons (look_ok r h h1) (looks_ok r t h2)
end

/-! ### the judgements -/
def OkE (K : PySem.W.Frag) (t : TE) (m : M D) : Prop := ∀ (c : C) (B : Hp) (σ : St) (H : Hp) (μ : MS) (d : D) (μ' : MS) (Q : VK), Rel K c B σ H μ → m μ = some (d, μ') → Post K c B σ μ' d Q → t σ H Q
def OkO (K : PySem.W.Frag) (t : TE) (m : M O) : Prop := ∀ (c : C) (B : Hp) (σ : St) (H : Hp) (μ : MS) (o : O) (μ' : MS) (Q : VK), Rel K c B σ H μ → m μ = some (o, μ') →
  (∀ B' H' v, Ext B B' → Rel K c B' σ H' μ' → OR K c.st B' σ v o → Q v H') → t σ H Q
/-- a new list that nobody knows -/
def OkF (K : PySem.W.Frag) (t : TE) (m : M (List D)) : Prop := ∀ (c : C) (B : Hp) (σ : St) (H : Hp) (μ : MS) (ds : List D) (μ' : MS) (Q : VK), Rel K c B σ H μ → m μ = some (ds, μ') →
  (∀ B' H' p vs, Ext B B' → Rel K c B' σ H' μ' → H' p = some (.lst vs) → B' p = none → c.H0 p = none → NoOwn σ μ' p → RpA K c.st B' vs ds → Q (.ref p) H') → t σ H Q
def OkT (K : PySem.W.Frag) (t : TT) (m : M Bool) : Prop := ∀ (c : C) (B : Hp) (σ : St) (H : Hp) (μ : MS) (b : Bool) (μ' : MS) (Q : Bool → Hp → Prop), Rel K c B σ H μ → m μ = some (b, μ') →
  (∀ B' H', Ext B B' → Rel K c B' σ H' μ' → Q b H') → t σ H Q
def OkA (K : PySem.W.Frag) (t : TA) (m : M (List O)) : Prop := ∀ (c : C) (B : Hp) (σ : St) (H : Hp) (μ : MS) (os : List O) (μ' : MS) (Q : List V → Hp → Prop), Rel K c B σ H μ → m μ = some (os, μ') →
  (∀ B' H' vs, Ext B B' → Rel K c B' σ H' μ' → ORA K c.st B' σ vs os → Q vs H') → t σ H Q
structure DE (X : Cx) (e : Expr) (m : M D) : Prop where
  ex : ∃ t, PE X e t ∧ OkE X.K t m
structure DO (X : Cx) (e : Expr) (m : M O) : Prop where
  ex : ∃ t, PE X e t ∧ OkO X.K t m
structure DF (X : Cx) (e : Expr) (m : M (List D)) : Prop where
  ex : ∃ t, PE X e t ∧ OkF X.K t m
structure DT (X : Cx) (e : Expr) (m : M Bool) : Prop where
  ex : ∃ t, PT X e t ∧ OkT X.K t m
structure DW (X : Cx) (e : Expr) (m : M Bool) : Prop where
  ex : ∃ t, PW X e t ∧ OkT X.K t m
structure DA (X : Cx) (es : List Expr) (m : M (List O)) : Prop where
  ex : ∃ t, PA X es t ∧ OkA X.K t m

/-! ### from one judgement to another -/
def oName (i : Nat) : M O := fun μ => (look (.s i) μ).bind fun _ => some (.s i, μ)
def oVal (m : M D) : M O := fun μ => (m μ).bind fun p => some (.v p.1, p.2)
/-- a name's list is given away as a value -/
def frz (m : M O) : M D := fun μ => (m μ).bind fun p => match p.1 with
  | .v d => some (d, p.2)
  | .s i => match p.2.sl[i]? with
    | some (.val d) => some (d, p.2)
    | some (.ow o) => some (o.dat, setS p.2 i (.val o.dat))
    | _ => none
def mVar (i : Nat) : M D := frz (oName i)
def eNew (m : M (List D)) : M D := fun μ => (m μ).bind fun p => some (.list p.1, p.2)
def mC (d : D) : M D := fun μ => some (d, μ)
section
variable {X : Cx} {e : Expr}
theorem o_name (i : Nat) {x : Str} {pos : Pos} (hN : X.N[i]? = some x := by rfl) (hv : Vis X.env.scope x := by first | exact Or.inl rfl | exact Or.inr (Or.inl rfl) | exact Or.inr (Or.inr rfl)) (hd : (x == ("__debug__" : Str)) = false := by decide)
    (hcd : (x == ("__classdict__" : Str)) = false := by decide) : DO X (.Name x pos) (oName i) := by
  refine ⟨_, pv i hN hv hd hcd, fun c B σ H μ o μ' Q r hm k => ?_⟩
  unfold oName at hm
  cases hl : look (.s i) μ with
  | none => rw [hl] at hm; cases hm
  | some d =>
    rw [hl] at hm; cases hm
    have hv : ∃ v, σ[i]? = some (some v) := by
      simp only [look] at hl
      split at hl
      · rename_i hs
        obtain ⟨v', e1, e2⟩ := r.valAt hs
        exact ⟨v', e1⟩
      · rename_i hs
        obtain ⟨p, vs, e1, e2, e3, e4, e5⟩ := r.owAt hs
        exact ⟨_, e1⟩
      · cases hl
    obtain ⟨v, hv⟩ := hv
    exact ⟨v, hv, k B H v (Ext.refl _) r hv⟩
theorem o_of {m : M D} (h : DE X e m) : DO X e (oVal m) := by
  obtain ⟨t, ht, ok⟩ := h.ex
  refine ⟨t, ht, fun c B σ H μ o μ' Q r hm k => ?_⟩
  unfold oVal at hm
  cases h1 : m μ with
  | none => rw [h1] at hm; cases hm
  | some p =>
    rw [h1] at hm; cases hm
    exact ok c B σ H μ p.1 p.2 Q r h1 fun B' H' v e r' hr => k B' H' v e r' hr
theorem e_of {m : M O} (h : DO X e m) : DE X e (frz m) := by
  obtain ⟨t, ht, ok⟩ := h.ex
  refine ⟨t, ht, fun c B σ H μ d μ' Q r hm k => ?_⟩
  unfold frz at hm
  cases h1 : m μ with
  | none => rw [h1] at hm; cases hm
  | some p =>
    rw [h1] at hm
    obtain ⟨o, μ1⟩ := p
    simp only [Option.bind_some] at hm
    refine ok c B σ H μ o μ1 Q r h1 fun B' H' v e r' hr => ?_
    cases o with
    | v d' => cases hm; exact k B' H' v e r' hr
    | s i =>
      simp only at hm
      split at hm
      · rename_i hs
        cases hm
        obtain ⟨v', e1, e2⟩ := r'.valAt hs
        have : σ[i]? = some (some v) := hr
        rw [this] at e1; cases e1
        exact k B' H' v e r' e2
      · rename_i ds hs
        cases hm
        obtain ⟨p, vs, e1, e2, e3, e4, e5, e6⟩ := r'.owVal hs
        have : σ[i]? = some (some v) := hr
        rw [this] at e1; cases e1
        exact k _ H' _ (e.trans e4) e6 e5
      · cases hm
theorem e_new {m : M (List D)} (h : DF X e m) : DE X e (eNew m) := by
  obtain ⟨t, ht, ok⟩ := h.ex
  refine ⟨t, ht, fun c B σ H μ d μ' Q r hm k => ?_⟩
  unfold eNew at hm
  cases h1 : m μ with
  | none => rw [h1] at hm; cases hm
  | some p =>
    rw [h1] at hm; cases hm
    refine ok c B σ H μ p.1 p.2 Q r h1 fun B' H' a vs e r' h2 h3 h4 h5 h6 => ?_
    have e2 : Ext B' (upd B' a (.lst vs)) := Ext.new h3
    exact k _ H' _ (e.trans e2) (r'.freeze h2 h4 h3 h5) (.lst upd_same (h6.mono e2))
theorem e_c {v : V} {d : D} (h : PE X e (tC v)) (hr : ∀ K st B, Rp K st B v d) : DE X e (mC d) :=
  ⟨_, h, fun c B σ H μ d' μ' Q r hm k => by cases hm; exact k.go r (hr _ _ _)⟩
theorem e_int {i j pos} : DE X (.Constant (.int i) j pos) (mC (.int i)) := e_c pe_int fun _ _ _ => .int _
theorem e_bl {b j pos} : DE X (.Constant (.bool b) j pos) (mC (.bool b)) := e_c pe_bl fun _ _ _ => .bl _
theorem e_non {j pos} : DE X (.Constant .none j pos) (mC .none) := e_c pe_non fun _ _ _ => .non
theorem e_str {x j pos} : DE X (.Constant (.str x) j pos) (mC (.str x)) := e_c pe_str fun _ _ _ => .str _
/-- a module's constant -/
theorem e_glob {x : Str} {v : V} {d : D} {u : Value} {pos : Pos} (hg : Gl X x) (hm : X.mg x = some u) (r : RelV v u) (hr : ∀ st B, Rp X.K st B v d) (hd : (x == ("__debug__" : Str)) = false := by decide) : DE X (.Name x pos) (mC d) :=
  ⟨_, pe_glob hg hm r hd, fun c B σ H μ d' μ' Q r hm k => by cases hm; exact k.go r (hr _ _)⟩
end

/-! ### argument lists -/
def aNil : M (List O) := fun μ => some ([], μ)
def aCons (m : M O) (n : M (List O)) : M (List O) := fun μ => (m μ).bind fun p => (n p.2).bind fun q => some (p.1 :: q.1, q.2)
section
variable {X : Cx} {e : Expr} {es : List Expr}
theorem a_nil : DA X [] aNil := ⟨_, pa_nil, fun c B σ H μ os μ' Q r hm k => by cases hm; exact k B H [] (Ext.refl _) r .nil⟩
theorem a_cons {m : M O} {n : M (List O)} (h : DO X e m) (hr : DA X es n) (hs : starEach (e :: es) X.env = (false, eval e X.env) :: starEach es X.env := by rfl) : DA X (e :: es) (aCons m n) := by
  obtain ⟨t, ht, ok⟩ := h.ex
  obtain ⟨t2, ht2, ok2⟩ := hr.ex
  refine ⟨_, pa_cons ht ht2 hs, fun c B σ H μ os μ' Q r hm k => ?_⟩
  unfold aCons at hm
  cases h1 : m μ with
  | none => rw [h1] at hm; cases hm
  | some p =>
    rw [h1] at hm
    cases h2 : n p.2 with
    | none => simp only [Option.bind_some, h2] at hm; cases hm
    | some q =>
      simp only [Option.bind_some, h2] at hm; cases hm
      refine ok c B σ H μ p.1 p.2 _ r h1 fun B' H' v e r' hr => ?_
      refine ok2 c B' σ H' p.2 q.1 q.2 _ r' h2 fun B'' H'' vs e' r'' hrs => ?_
      exact k B'' H'' (v :: vs) (e.trans e') r'' (.cons (hr.mono e') hrs)
end

/-! ### operations of two, of one, calls -/
def Op2 (K : PySem.W.Frag) (r : R2) (g : D → D → Option D) : Prop := ∀ (c : C) (B : Hp) (σ : St) (H : Hp) (μ : MS) (x y : V) (d e z : D) (Q : VK), Rel K c B σ H μ → Lk K c.st B H x d → Lk K c.st B H y e → g d e = some z → Post K c B σ μ z Q → r x y H Q
def m2 (g : D → D → Option D) (ma mb : M O) : M D := fun μ => (ma μ).bind fun p => (mb p.2).bind fun q => (look p.1 q.2).bind fun d => (look q.1 q.2).bind fun e => (g d e).bind fun z => some (z, q.2)
theorem m2_some {g : D → D → Option D} {ma mb : M O} {μ μ' : MS} {z : D} (h : m2 g ma mb μ = some (z, μ')) : ∃ o1 μ1 o2 d e, ma μ = some (o1, μ1) ∧ mb μ1 = some (o2, μ') ∧ look o1 μ' = some d ∧ look o2 μ' = some e ∧ g d e = some z := by
  unfold m2 at h
  simp only [Option.bind_eq_some_iff] at h
  obtain ⟨p, h1, q, h2, d, h3, e, h4, z', h5, h6⟩ := h
  cases h6
  exact ⟨p.1, p.2, q.1, d, e, h1, h2, h3, h4, h5⟩
section
variable {X : Cx} {a b : Expr} {pos : Pos}
theorem ok_op2 {r : R2} {g : D → D → Option D} {ta tb : TE} {ma mb : M O} (hr : Op2 X.K r g) (ha : OkO X.K ta ma) (hb : OkO X.K tb mb) : OkE X.K (tOp r ta tb) (m2 g ma mb) := by
  intro c B σ H μ z μ' Q rel hm k
  obtain ⟨o1, μ1, o2, d, e, h1, h2, h3, h4, h5⟩ := m2_some hm
  refine ha c B σ H μ o1 μ1 _ rel h1 fun B1 H1 x e1 r1 x1 => ?_
  refine hb c B1 σ H1 μ1 o2 μ' _ r1 h2 fun B2 H2 y e2 r2 y2 => ?_
  exact hr c B2 σ H2 μ' x y d e z Q r2 (look_ok r2 (x1.mono e2) h3) (look_ok r2 y2 h4) h5 (k.ext (e1.trans e2))
theorem e_op {op : Operator} {r : R2} {g : D → D → Option D} {ma mb : M O} (ho : OpR X (binaryOp op) r) (hr : Op2 X.K r g) (ha : DO X a ma) (hb : DO X b mb) : DE X (.BinOp a op b pos) (m2 g ma mb) := by
  obtain ⟨ta, pa, oa⟩ := ha.ex
  obtain ⟨tb, pb, ob⟩ := hb.ex
  exact ⟨_, pe_op ho pa pb, ok_op2 hr oa ob⟩
theorem e_cmp {op : CmpOp} {r : R2} {g : D → D → Option D} {ma mb : M O} (ho : OpR X (compareOp op) r) (hr : Op2 X.K r g) (ha : DO X a ma) (hb : DO X b mb) (hm : behindInMarks op b = false) : DE X (.Compare a [op] [b] pos) (m2 g ma mb) := by
  obtain ⟨ta, pa, oa⟩ := ha.ex
  obtain ⟨tb, pb, ob⟩ := hb.ex
  exact ⟨_, pe_cmpR ho pa pb hm, ok_op2 hr oa ob⟩
/-- the bool of a value that is one -/
def mB (m : M D) : M Bool := fun μ => (m μ).bind fun p => match p.1 with
  | .bool b => some (b, p.2)
  | _ => none
theorem mB_some {m : M D} {μ μ' : MS} {b : Bool} (h : mB m μ = some (b, μ')) : m μ = some (.bool b, μ') := by
  unfold mB at h
  simp only [Option.bind_eq_some_iff] at h
  obtain ⟨p, h1, h2⟩ := h
  obtain ⟨d, μ1⟩ := p
  split at h2
  · rename_i b' hb
    cases h2
    have hb' : d = .bool b := hb
    rw [h1, hb']
  · cases h2
theorem ok_test {t : TE} {m : M D} (h : OkE X.K t m) : OkT X.K (tTest t) (mB m) := by
  intro c B σ H μ b μ' Q rel hm k
  exact h c B σ H μ _ μ' _ rel (mB_some hm) fun B' H' v e r hv => by
    cases hv
    exact ⟨b, rfl, k B' H' e r⟩
theorem t_cmp {op : CmpOp} {r : R2} {g : D → D → Option D} {ma mb : M O} (ho : OpR X (compareOp op) r) (hr : Op2 X.K r g) (ha : DO X a ma) (hb : DO X b mb) (hm : behindInMarks op b = false) : DT X (.Compare a [op] [b] pos) (mB (m2 g ma mb)) := by
  obtain ⟨ta, pa, oa⟩ := ha.ex
  obtain ⟨tb, pb, ob⟩ := hb.ex
  exact ⟨_, pt_cmpR ho pa pb hm, ok_test (ok_op2 hr oa ob)⟩
/-- a op b op' c -/
def mChain (g g' : D → D → Option D) (ma mb mc : M O) : M D := fun μ => (ma μ).bind fun p => (mb p.2).bind fun q => (look p.1 q.2).bind fun d => (look q.1 q.2).bind fun e => (g d e).bind fun z => match z with
  | .bool true => (mc q.2).bind fun w => (look q.1 w.2).bind fun e' => (look w.1 w.2).bind fun f => (g' e' f).bind fun z' => some (z', w.2)
  | .bool false => some (.bool false, q.2)
  | _ => none
theorem ok_chain {r r' : R2} {g g' : D → D → Option D} {ta tb tc : TE} {ma mb mc : M O} (hr : Op2 X.K r g) (hr' : Op2 X.K r' g') (ha : OkO X.K ta ma) (hb : OkO X.K tb mb) (hc : OkO X.K tc mc) : OkE X.K (tChain r r' ta tb tc) (mChain g g' ma mb mc) := by
  intro c B σ H μ z μ' Q rel hm k
  unfold mChain at hm
  simp only [Option.bind_eq_some_iff] at hm
  obtain ⟨⟨o1, μ1⟩, h1, ⟨o2, μ2⟩, h2, d, h3, e, h4, z1, h5, h6⟩ := hm
  simp only at h2 h3 h4 h6
  refine ha c B σ H μ o1 μ1 _ rel h1 fun B1 H1 x e1 r1 x1 => ?_
  refine hb c B1 σ H1 μ1 o2 μ2 _ r1 h2 fun B2 H2 y e2 r2 y2 => ?_
  refine hr c B2 σ H2 μ2 x y d e z1 _ r2 (look_ok r2 (x1.mono e2) h3) (look_ok r2 y2 h4) h5 fun B3 H3 v e3 r3 hv => ?_
  split at h6
  · cases hv
    simp only [Option.bind_eq_some_iff] at h6
    obtain ⟨⟨o3, μ3⟩, h7, e', h8, f, h9, z', h10, h11⟩ := h6
    cases h11
    refine ⟨true, rfl, ?_⟩
    rw [if_pos rfl]
    refine hc c B3 σ H3 μ2 o3 _ _ r3 h7 fun B4 H4 w e4 r4 w4 => ?_
    exact hr' c B4 σ H4 _ y w e' f z Q r4 (look_ok r4 ((y2.mono e3).mono e4) h8) (look_ok r4 w4 h9) h10 (k.ext (((e1.trans e2).trans e3).trans e4))
  · cases hv
    cases h6
    refine ⟨false, rfl, ?_⟩
    rw [if_neg Bool.false_ne_true]
    exact k B3 H3 _ ((e1.trans e2).trans e3) r3 (.bl false)
  · cases h6
theorem e_chain {c : Expr} {op op' : CmpOp} {r r' : R2} {g g' : D → D → Option D} {ma mb mc : M O} (ho : OpR X (compareOp op) r) (hr : Op2 X.K r g) (ho' : OpR X (compareOp op') r') (hr' : Op2 X.K r' g') (ha : DO X a ma) (hb : DO X b mb) (hc : DO X c mc)
    (hm : lastMarks [op, op'] [b, c] = false := by with_unfolding_all rfl) : DE X (.Compare a [op, op'] [b, c] pos) (mChain g g' ma mb mc) := by
  obtain ⟨ta, pa, oa⟩ := ha.ex
  obtain ⟨tb, pb, ob⟩ := hb.ex
  obtain ⟨tc, pc, oc⟩ := hc.ex
  exact ⟨_, pe_chain ho ho' pa pb pc hm, ok_chain hr hr' oa ob oc⟩
theorem t_chain {c : Expr} {op op' : CmpOp} {r r' : R2} {g g' : D → D → Option D} {ma mb mc : M O} (ho : OpR X (compareOp op) r) (hr : Op2 X.K r g) (ho' : OpR X (compareOp op') r') (hr' : Op2 X.K r' g') (ha : DO X a ma) (hb : DO X b mb) (hc : DO X c mc)
    (hm : lastMarks [op, op'] [b, c] = false := by with_unfolding_all rfl) : DT X (.Compare a [op, op'] [b, c] pos) (mB (mChain g g' ma mb mc)) := by
  obtain ⟨ta, pa, oa⟩ := ha.ex
  obtain ⟨tb, pb, ob⟩ := hb.ex
  obtain ⟨tc, pc, oc⟩ := hc.ex
  exact ⟨_, pt_chain ho ho' pa pb pc hm, ok_test (ok_chain hr hr' oa ob oc)⟩
/-- subscripts -/
theorem e_ix {r : R2} {g : D → D → Option D} {ma mb : M O} (ho : IxR X r) (hr : Op2 X.K r g) (ha : DO X a ma) (hb : DO X b mb) (hs : PlainIx b) : DE X (.Subscript a b pos) (m2 g ma mb) := by
  obtain ⟨ta, pa, oa⟩ := ha.ex
  obtain ⟨tb, pb, ob⟩ := hb.ex
  exact ⟨_, pe_ix ho pa pb hs, ok_op2 hr oa ob⟩
/-- one operand -/
def Op1 (K : PySem.W.Frag) (r : V → Hp → VK → Prop) (g : D → Option D) : Prop := ∀ (c : C) (B : Hp) (σ : St) (H : Hp) (μ : MS) (x : V) (d z : D) (Q : VK), Rel K c B σ H μ → Lk K c.st B H x d → g d = some z → Post K c B σ μ z Q → r x H Q
def m1 (g : D → Option D) (ma : M O) : M D := fun μ => (ma μ).bind fun p => (look p.1 p.2).bind fun d => (g d).bind fun z => some (z, p.2)
theorem e_un {op : UnaryOp} {r : V → Hp → VK → Prop} {g : D → Option D} {ma : M O} (ho : UnR X (unaryOp op) r) (hr : Op1 X.K r g) (ha : DO X a ma) : DE X (.UnaryOp op a pos) (m1 g ma) := by
  obtain ⟨ta, pa, oa⟩ := ha.ex
  refine ⟨_, pe_un ho pa, fun c B σ H μ z μ' Q rel hm k => ?_⟩
  unfold m1 at hm
  simp only [Option.bind_eq_some_iff] at hm
  obtain ⟨⟨o, μ1⟩, h1, d, h2, z', h3, h4⟩ := hm
  cases h4
  refine oa c B σ H μ o _ _ rel h1 fun B1 H1 x e1 r1 x1 => ?_
  exact hr c B1 σ H1 _ x d z Q r1 (look_ok r1 x1 h2) h3 (k.ext e1)
/-- calls of what is known, by values -/
def CallG (K : PySem.W.Frag) (r : List V → Hp → VK → Prop) (g : List D → Option D) : Prop := ∀ (c : C) (B : Hp) (σ : St) (H : Hp) (μ : MS) (xs : List V) (ds : List D) (z : D) (Q : VK), Rel K c B σ H μ → LkA K c.st B H xs ds → g ds = some z → Post K c B σ μ z Q → r xs H Q
def CallF (K : PySem.W.Frag) (r : List V → Hp → VK → Prop) (g : List D → Option (List D)) : Prop := ∀ (c : C) (B : Hp) (σ : St) (H : Hp) (μ : MS) (xs : List V) (ds : List D) (z : List D) (Q : VK), Rel K c B σ H μ → LkA K c.st B H xs ds → g ds = some z →
  (∀ p vs, H p = none → RpA K c.st B vs z → Q (.ref p) (upd H p (.lst vs))) → r xs H Q
def mCall {α : Type} (g : List D → Option α) (ma : M (List O)) : M α := fun μ => (ma μ).bind fun p => (looks p.1 p.2).bind fun ds => (g ds).bind fun z => some (z, p.2)
theorem mCall_some {α : Type} {g : List D → Option α} {ma : M (List O)} {μ μ' : MS} {z : α} (h : mCall g ma μ = some (z, μ')) : ∃ os ds, ma μ = some (os, μ') ∧ looks os μ' = some ds ∧ g ds = some z := by
  unfold mCall at h
  simp only [Option.bind_eq_some_iff] at h
  obtain ⟨⟨os, μ1⟩, h1, ds, h2, z', h3, h4⟩ := h
  cases h4
  exact ⟨os, ds, h1, h2, h3⟩
theorem ok_call {r : List V → Hp → VK → Prop} {g : List D → Option D} {t : TA} {m : M (List O)} (hr : CallG X.K r g) (h : OkA X.K t m) : OkE X.K (tCB r t) (mCall g m) := by
  intro c B σ H μ z μ' Q rel hm k
  obtain ⟨os, ds, h1, h2, h3⟩ := mCall_some hm
  refine h c B σ H μ os μ' _ rel h1 fun B1 H1 vs e1 r1 o1 => ?_
  exact hr c B1 σ H1 μ' vs ds z Q r1 (looks_ok r1 o1 h2) h3 (k.ext e1)
theorem ok_callF {r : List V → Hp → VK → Prop} {g : List D → Option (List D)} {t : TA} {m : M (List O)} (hr : CallF X.K r g) (h : OkA X.K t m) : OkF X.K (tCB r t) (mCall g m) := by
  intro c B σ H μ z μ' Q rel hm k
  obtain ⟨os, ds, h1, h2, h3⟩ := mCall_some hm
  refine h c B σ H μ os μ' _ rel h1 fun B1 H1 vs e1 r1 o1 => ?_
  refine hr c B1 σ H1 μ' vs ds z Q r1 (looks_ok r1 o1 h2) h3 fun p ws hp hw => ?_
  obtain ⟨f0, fb⟩ := r1.r0.fresh hp
  exact k B1 _ p ws e1 (r1.hide hp) upd_same fb f0 (r1.noOwn hp) hw
variable {x : Str} {p : Pos} {e : Expr} {es : List Expr} {id T : String}
theorem e_callB {r : List V → Hp → VK → Prop} {g : List D → Option D} {m : M (List O)} (hc : CallR X (.builtin id) r) (hr : CallG X.K r g) (hg : Gl X x) (hm : X.mg x = none) (hv : bootBuiltins x = some (.builtin id)) (ha : DA X (e :: es) m) (hn : x ≠ "__name__" := by decide) (hdb : (x == ("__debug__" : Str)) = false := by decide)
    (he : starEach (e :: es) X.env = (false, eval e X.env) :: starEach es X.env := by rfl) (hpl : (backTo pos (starEach es X.env)).any (·.1) = false := by rfl) : DE X (.Call (.Name x p) (e :: es) [] pos) (mCall g m) := by
  obtain ⟨t, ht, ok⟩ := ha.ex
  exact ⟨_, pe_callB hc hg hm hv ht hn hdb he hpl, ok_call hr ok⟩
theorem e_callTy {r : List V → Hp → VK → Prop} {g : List D → Option D} {m : M (List O)} (hc : CallR X (.type T) r) (hr : CallG X.K r g) (hg : Gl X x) (hm : X.mg x = none) (hv : bootBuiltins x = some (.type T)) (ha : DA X (e :: es) m) (hn : x ≠ "__name__" := by decide) (hdb : (x == ("__debug__" : Str)) = false := by decide)
    (he : starEach (e :: es) X.env = (false, eval e X.env) :: starEach es X.env := by rfl) (hpl : (backTo pos (starEach es X.env)).any (·.1) = false := by rfl) : DE X (.Call (.Name x p) (e :: es) [] pos) (mCall g m) := by
  obtain ⟨t, ht, ok⟩ := ha.ex
  exact ⟨_, pe_callTy hc hg hm hv ht hn hdb he hpl, ok_call hr ok⟩
theorem f_callTy {r : List V → Hp → VK → Prop} {g : List D → Option (List D)} {m : M (List O)} (hc : CallR X (.type T) r) (hr : CallF X.K r g) (hg : Gl X x) (hm : X.mg x = none) (hv : bootBuiltins x = some (.type T)) (ha : DA X (e :: es) m) (hn : x ≠ "__name__" := by decide) (hdb : (x == ("__debug__" : Str)) = false := by decide)
    (he : starEach (e :: es) X.env = (false, eval e X.env) :: starEach es X.env := by rfl) (hpl : (backTo pos (starEach es X.env)).any (·.1) = false := by rfl) : DF X (.Call (.Name x p) (e :: es) [] pos) (mCall g m) := by
  obtain ⟨t, ht, ok⟩ := ha.ex
  exact ⟨_, pe_callTy hc hg hm hv ht hn hdb he hpl, ok_callF hr ok⟩
theorem f_callB {r : List V → Hp → VK → Prop} {g : List D → Option (List D)} {m : M (List O)} (hc : CallR X (.builtin id) r) (hr : CallF X.K r g) (hg : Gl X x) (hm : X.mg x = none) (hv : bootBuiltins x = some (.builtin id)) (ha : DA X (e :: es) m) (hn : x ≠ "__name__" := by decide) (hdb : (x == ("__debug__" : Str)) = false := by decide)
    (he : starEach (e :: es) X.env = (false, eval e X.env) :: starEach es X.env := by rfl) (hpl : (backTo pos (starEach es X.env)).any (·.1) = false := by rfl) : DF X (.Call (.Name x p) (e :: es) [] pos) (mCall g m) := by
  obtain ⟨t, ht, ok⟩ := ha.ex
  exact ⟨_, pe_callB hc hg hm hv ht hn hdb he hpl, ok_callF hr ok⟩
end

/-! ### truth, and, or, not, if -/
def truth : D → Option Bool
  | .none => some false
  | .bool b => some b
  | .int i => some (i != 0)
  | .str x => if x.length ≤ 16777216 then some ((x.length : Int) != 0) else none
  | .list ds => some (!ds.isEmpty)
  | .tuple ds => some (!ds.isEmpty)
  | .dict _ => none
theorem isEmpty_rpa {K : PySem.W.Frag} {st : Option (Addr × Addr)} {B : Hp} {vs : List V} {ds : List D} (h : RpA K st B vs ds) : vs.isEmpty = ds.isEmpty := by
  cases h <;> rfl
theorem truth_ok {K : PySem.W.Frag} {st : Option (Addr × Addr)} {B H : Hp} {x : V} {d : D} {b : Bool} (h : Lk K st B H x d) (e : Ext B H) (ht : truth d = some b) : TruV K x H b := by
  cases d with
  | none => rw [h.none]; cases ht; rfl
  | bool b' => rw [h.bool]; cases ht; rfl
  | int i => rw [h.int]; cases ht; rfl
  | str s =>
    rw [h.str]
    simp only [truth] at ht
    split at ht
    · cases ht
      refine ⟨?_, rfl⟩
      rw [sizeLine_eq]; assumption
    · cases ht
  | list ds =>
    obtain ⟨p, vs, rfl, h1, h2⟩ := h.list e
    cases ht
    exact .inl ⟨vs, SqL.of h1, by rw [isEmpty_rpa h2]⟩
  | tuple ds =>
    obtain ⟨p, vs, rfl, h1, _, h2⟩ := h.tuple e
    cases ht
    exact .inr (.inl ⟨vs, h1, by rw [isEmpty_rpa h2]⟩)
  | dict _ => cases ht
def mTruth (ma : M O) : M Bool := fun μ => (ma μ).bind fun p => (look p.1 p.2).bind fun d => (truth d).bind fun b => some (b, p.2)
theorem mTruth_some {ma : M O} {μ μ' : MS} {b : Bool} (h : mTruth ma μ = some (b, μ')) : ∃ o d, ma μ = some (o, μ') ∧ look o μ' = some d ∧ truth d = some b := by
  unfold mTruth at h
  simp only [Option.bind_eq_some_iff] at h
  obtain ⟨⟨o, μ1⟩, h1, d, h2, b', h3, h4⟩ := h
  cases h4
  exact ⟨o, d, h1, h2, h3⟩
def bAnd (m n : M Bool) : M Bool := fun μ => (m μ).bind fun p => if p.1 = true then n p.2 else some (false, p.2)
def bOr (m n : M Bool) : M Bool := fun μ => (m μ).bind fun p => if p.1 = true then some (true, p.2) else n p.2
def bNot (m : M Bool) : M Bool := fun μ => (m μ).bind fun p => some (!p.1, p.2)
def eIf (m : M Bool) (n k : M D) : M D := fun μ => (m μ).bind fun p => if p.1 = true then n p.2 else k p.2
def eAnd (m n : M D) : M D := fun μ => (m μ).bind fun p => (truth p.1).bind fun b => if b = true then n p.2 else some (p.1, p.2)
def eOr (m n : M D) : M D := fun μ => (m μ).bind fun p => (truth p.1).bind fun b => if b = true then some (p.1, p.2) else n p.2
def eNot (ma : M O) : M D := fun μ => (mTruth ma μ).bind fun p => some (.bool (!p.1), p.2)
section
variable {X : Cx} {a b c : Expr} {rest : List Expr} {pos : Pos}
theorem t_of {m : M O} (h : DO X a m) (he : ∀ whole, isTrue a X.env whole = (do let v ← whole; standAt a.pos; holding [v] (truthy v)) := by intro _; rfl) : DT X a (mTruth m) := by
  obtain ⟨t, ht, ok⟩ := h.ex
  refine ⟨_, pt_truth ht he, fun c B σ H μ b μ' Q rel hm k => ?_⟩
  obtain ⟨o, d, h1, h2, h3⟩ := mTruth_some hm
  refine ok c B σ H μ o μ' _ rel h1 fun B1 H1 x e1 r1 x1 => ?_
  exact ⟨b, truth_ok (look_ok r1 x1 h2) r1.r0.ext h3, k B1 H1 e1 r1⟩
theorem t_w {m : M Bool} (h : DW X a m) : DT X a m := by
  obtain ⟨t, ht, ok⟩ := h.ex
  exact ⟨t, ht.pt, ok⟩
theorem w_and1 {m : M Bool} (h : DT X a m) : DW X (.BoolOp .And [a] pos) m := by
  obtain ⟨t, ht, ok⟩ := h.ex
  exact ⟨t, pw_and1 ht, ok⟩
theorem w_or1 {m : M Bool} (h : DT X a m) : DW X (.BoolOp .Or [a] pos) m := by
  obtain ⟨t, ht, ok⟩ := h.ex
  exact ⟨t, pw_or1 ht, ok⟩
theorem w_and {m n : M Bool} (h : DT X a m) (h2 : DW X (.BoolOp .And (b :: rest) pos) n) : DW X (.BoolOp .And (a :: b :: rest) pos) (bAnd m n) := by
  obtain ⟨t, ht, ok⟩ := h.ex
  obtain ⟨t2, ht2, ok2⟩ := h2.ex
  refine ⟨_, pw_and ht ht2, fun c B σ H μ b μ' Q rel hm k => ?_⟩
  unfold bAnd at hm
  simp only [Option.bind_eq_some_iff] at hm
  obtain ⟨⟨b1, μ1⟩, h1, h3⟩ := hm
  refine ok c B σ H μ b1 μ1 _ rel h1 fun B1 H1 e1 r1 => ?_
  cases b1 with
  | true =>
    rw [if_pos rfl] at h3 ⊢
    exact ok2 c B1 σ H1 μ1 b μ' Q r1 h3 fun B2 H2 e2 r2 => k B2 H2 (e1.trans e2) r2
  | false =>
    rw [if_neg Bool.false_ne_true] at h3 ⊢
    cases h3
    exact k B1 H1 e1 r1
theorem w_or {m n : M Bool} (h : DT X a m) (h2 : DW X (.BoolOp .Or (b :: rest) pos) n) : DW X (.BoolOp .Or (a :: b :: rest) pos) (bOr m n) := by
  obtain ⟨t, ht, ok⟩ := h.ex
  obtain ⟨t2, ht2, ok2⟩ := h2.ex
  refine ⟨_, pw_or ht ht2, fun c B σ H μ b μ' Q rel hm k => ?_⟩
  unfold bOr at hm
  simp only [Option.bind_eq_some_iff] at hm
  obtain ⟨⟨b1, μ1⟩, h1, h3⟩ := hm
  refine ok c B σ H μ b1 μ1 _ rel h1 fun B1 H1 e1 r1 => ?_
  cases b1 with
  | true =>
    rw [if_pos rfl] at h3 ⊢
    cases h3
    exact k B1 H1 e1 r1
  | false =>
    rw [if_neg Bool.false_ne_true] at h3 ⊢
    exact ok2 c B1 σ H1 μ1 b μ' Q r1 h3 fun B2 H2 e2 r2 => k B2 H2 (e1.trans e2) r2
theorem t_not {m : M Bool} (h : DT X a m) : DT X (.UnaryOp .Not a pos) (bNot m) := by
  obtain ⟨t, ht, ok⟩ := h.ex
  refine ⟨_, pt_not ht, fun c B σ H μ b μ' Q rel hm k => ?_⟩
  unfold bNot at hm
  simp only [Option.bind_eq_some_iff] at hm
  obtain ⟨⟨b1, μ1⟩, h1, h3⟩ := hm
  cases h3
  exact ok c B σ H μ b1 μ1 _ rel h1 fun B1 H1 e1 r1 => k B1 H1 e1 r1
theorem e_if {m : M Bool} {n k : M D} (h : DT X c m) (ha : DE X a n) (hb : DE X b k) : DE X (.IfExp c a b pos) (eIf m n k) := by
  obtain ⟨t, ht, ok⟩ := h.ex
  obtain ⟨ta, pa, oa⟩ := ha.ex
  obtain ⟨tb, pb, ob⟩ := hb.ex
  refine ⟨_, pe_ifExp ht pa pb, fun c B σ H μ d μ' Q rel hm kk => ?_⟩
  unfold eIf at hm
  simp only [Option.bind_eq_some_iff] at hm
  obtain ⟨⟨b1, μ1⟩, h1, h3⟩ := hm
  refine ok c B σ H μ b1 μ1 _ rel h1 fun B1 H1 e1 r1 => ?_
  cases b1 with
  | true =>
    rw [if_pos rfl] at h3 ⊢
    exact oa c B1 σ H1 μ1 d μ' Q r1 h3 (kk.ext e1)
  | false =>
    rw [if_neg Bool.false_ne_true] at h3 ⊢
    exact ob c B1 σ H1 μ1 d μ' Q r1 h3 (kk.ext e1)
theorem e_one {op} {m : M D} (h : DE X a m) : DE X (.BoolOp op [a] pos) m := by
  obtain ⟨t, ht, ok⟩ := h.ex
  exact ⟨t, pe_one ht, ok⟩
theorem e_and {m n : M D} (h : DE X a m) (h2 : DE X (.BoolOp .And (b :: rest) pos) n) : DE X (.BoolOp .And (a :: b :: rest) pos) (eAnd m n) := by
  obtain ⟨t, ht, ok⟩ := h.ex
  obtain ⟨t2, ht2, ok2⟩ := h2.ex
  refine ⟨_, pe_andT ht ht2, fun c B σ H μ d μ' Q rel hm k => ?_⟩
  unfold eAnd at hm
  simp only [Option.bind_eq_some_iff] at hm
  obtain ⟨⟨d1, μ1⟩, h1, b1, h3, h4⟩ := hm
  refine ok c B σ H μ d1 μ1 _ rel h1 fun B1 H1 x e1 r1 x1 => ⟨b1, truth_ok (.of x1) r1.r0.ext h3, ?_⟩
  cases b1 with
  | true =>
    rw [if_pos rfl] at h4 ⊢
    exact ok2 c B1 σ H1 μ1 d μ' Q r1 h4 (k.ext e1)
  | false =>
    rw [if_neg Bool.false_ne_true] at h4 ⊢
    cases h4
    exact k B1 H1 x e1 r1 x1
theorem e_or {m n : M D} (h : DE X a m) (h2 : DE X (.BoolOp .Or (b :: rest) pos) n) : DE X (.BoolOp .Or (a :: b :: rest) pos) (eOr m n) := by
  obtain ⟨t, ht, ok⟩ := h.ex
  obtain ⟨t2, ht2, ok2⟩ := h2.ex
  refine ⟨_, pe_orT ht ht2, fun c B σ H μ d μ' Q rel hm k => ?_⟩
  unfold eOr at hm
  simp only [Option.bind_eq_some_iff] at hm
  obtain ⟨⟨d1, μ1⟩, h1, b1, h3, h4⟩ := hm
  refine ok c B σ H μ d1 μ1 _ rel h1 fun B1 H1 x e1 r1 x1 => ⟨b1, truth_ok (.of x1) r1.r0.ext h3, ?_⟩
  cases b1 with
  | true =>
    rw [if_pos rfl] at h4 ⊢
    cases h4
    exact k B1 H1 x e1 r1 x1
  | false =>
    rw [if_neg Bool.false_ne_true] at h4 ⊢
    exact ok2 c B1 σ H1 μ1 d μ' Q r1 h4 (k.ext e1)
theorem e_not {m : M O} (h : DO X a m) : DE X (.UnaryOp .Not a pos) (eNot m) := by
  obtain ⟨t, ht, ok⟩ := h.ex
  refine ⟨_, pe_notT ht, fun c B σ H μ d μ' Q rel hm k => ?_⟩
  unfold eNot at hm
  simp only [Option.bind_eq_some_iff] at hm
  obtain ⟨⟨b1, μ1⟩, h1, h3⟩ := hm
  cases h3
  obtain ⟨o, d1, h4, h5, h6⟩ := mTruth_some h1
  refine ok c B σ H μ o _ _ rel h4 fun B1 H1 x e1 r1 x1 => ?_
  exact ⟨b1, truth_ok (look_ok r1 x1 h5) r1.r0.ext h6, k B1 H1 _ e1 r1 (.bl _)⟩
end

/-! ### displays -/
def mTup (m : M (List D)) : M D := fun μ => (m μ).bind fun p => if p.1.length ≤ 16777216 then some (.tuple p.1, p.2) else none
def mDs : List (M D) → M (List D)
  | [] => fun μ => some ([], μ)
  | m :: ms => fun μ => (m μ).bind fun p => (mDs ms p.2).bind fun q => some (p.1 :: q.1, q.2)
/-- arguments as values -/
def OkV (K : PySem.W.Frag) (t : TA) (m : M (List D)) : Prop := ∀ (c : C) (B : Hp) (σ : St) (H : Hp) (μ : MS) (ds : List D) (μ' : MS) (Q : List V → Hp → Prop), Rel K c B σ H μ → m μ = some (ds, μ') →
  (∀ B' H' vs, Ext B B' → Rel K c B' σ H' μ' → RpA K c.st B' vs ds → Q vs H') → t σ H Q
structure DV (X : Cx) (es : List Expr) (m : M (List D)) : Prop where
  ex : ∃ t, PA X es t ∧ OkV X.K t m
section
variable {X : Cx} {e : Expr} {es : List Expr} {pos : Pos}
theorem v_nil : DV X [] (mDs []) := ⟨_, pa_nil, fun c B σ H μ os μ' Q r hm k => by cases hm; exact k B H [] (Ext.refl _) r .nil⟩
theorem v_cons {m : M D} {ms : List (M D)} (h : DE X e m) (hr : DV X es (mDs ms)) (hs : starEach (e :: es) X.env = (false, eval e X.env) :: starEach es X.env := by rfl) : DV X (e :: es) (mDs (m :: ms)) := by
  obtain ⟨t, ht, ok⟩ := h.ex
  obtain ⟨t2, ht2, ok2⟩ := hr.ex
  refine ⟨_, pa_cons ht ht2 hs, fun c B σ H μ os μ' Q r hm k => ?_⟩
  unfold mDs at hm
  simp only [Option.bind_eq_some_iff] at hm
  obtain ⟨⟨d, μ1⟩, h1, ⟨ds, μ2⟩, h2, h3⟩ := hm
  cases h3
  refine ok c B σ H μ d μ1 _ r h1 fun B' H' v e r' hr => ?_
  refine ok2 c B' σ H' μ1 ds _ _ r' h2 fun B'' H'' vs e' r'' hrs => ?_
  exact k B'' H'' (v :: vs) (e.trans e') r'' (.cons (hr.mono e') hrs)
theorem e_tup {x1} {m : M (List D)} (h : DV X es m) : DE X (.Tuple es x1 pos) (mTup m) := by
  obtain ⟨t, ht, ok⟩ := h.ex
  refine ⟨_, pe_tup ht, fun c B σ H μ d μ' Q rel hm k => ?_⟩
  unfold mTup at hm
  simp only [Option.bind_eq_some_iff] at hm
  obtain ⟨⟨ds, μ1⟩, h1, h3⟩ := hm
  split at h3
  · rename_i hl
    cases h3
    refine ok c B σ H μ ds _ _ rel h1 fun B1 H1 vs e1 r1 x1 => ⟨by rw [x1.length, sizeLine_eq]; exact hl, fun p hp => ?_⟩
    exact (k.ext e1).tup r1 x1 hp
  · cases h3
def mLst (m : M (List D)) : M (List D) := fun μ => (m μ).bind fun p => if p.1.length ≤ 16777216 then some (p.1, p.2) else none
theorem f_lst {m : M (List D)} (h : DV X es m) : DF X (.List es pos) (mLst m) := by
  obtain ⟨t, ht, ok⟩ := h.ex
  refine ⟨_, pe_lst ht, fun c B σ H μ d μ' Q rel hm k => ?_⟩
  unfold mLst at hm
  simp only [Option.bind_eq_some_iff] at hm
  obtain ⟨⟨ds, μ1⟩, h1, h3⟩ := hm
  split at h3
  · rename_i hl
    cases h3
    refine ok c B σ H μ _ _ _ rel h1 fun B1 H1 vs e1 r1 x1 => ⟨by rw [x1.length, sizeLine_eq]; exact hl, fun p hp => ?_⟩
    obtain ⟨f0, fb⟩ := r1.r0.fresh hp
    exact k B1 _ p vs e1 (r1.hide hp) upd_same fb f0 (r1.noOwn hp) x1
  · cases h3
end
end Mi
/-! Mi, third part: the operations on plain data and their rules. -/
namespace Mi
open PySem PySem.Spec PyProof.Rows L2

abbrev lineN : Nat := 16777216
/-! ### arithmetic -/
def addD : D → D → Option D
  | .int a, .int b => some (.int (a + b))
  | .int a, .bool b => some (.int (a + b2i b))
  | .str a, .str b => if a.length + b.length ≤ lineN then some (.str (a ++ b)) else none
  | .tuple a, .tuple b => if a.length + b.length ≤ lineN then some (.tuple (a ++ b)) else none
  | .list a, .list b => if a.length + b.length ≤ lineN then some (.list (a ++ b)) else none
  | _, _ => none
def catF : D → D → Option (List D)
  | .list a, .list b => if a.length + b.length ≤ lineN then some (a ++ b) else none
  | _, _ => none
def subD : D → D → Option D
  | .int a, .int b => some (.int (a - b))
  | _, _ => none
def mulD : D → D → Option D
  | .int a, .int b => if (Builtin.Int.intBits a : Int) + (Builtin.Int.intBits b : Int) ≤ 134217728 then some (.int (a * b)) else none
  | _, _ => none
def fdivD : D → D → Option D
  | .int a, .int b => if 0 < b ∧ b.natAbs.log2 < 9000 then some (.int (a / b)) else none
  | _, _ => none
def modD : D → D → Option D
  | .int a, .int b => if 0 < b then some (.int (a % b)) else none
  | _, _ => none
def powD : D → D → Option D
  | .int a, .int b => if 0 ≤ b ∧ b ≤ 1000000 ∧ a.natAbs < 2 ^ 64 then some (.int (a ^ b.toNat)) else none
  | _, _ => none
def shlD : D → D → Option D
  | .int a, .int b => if 0 ≤ b ∧ (Builtin.Int.intBits a : Int) + b ≤ 134217728 then some (.int (a * 2 ^ b.toNat)) else none
  | _, _ => none
def shrD : D → D → Option D
  | .int a, .int b => if 0 ≤ b then some (.int (a / 2 ^ b.toNat)) else none
  | _, _ => none
def negD : D → Option D
  | .int a => some (.int (-a))
  | _ => none
section
variable {X : Cx}
abbrev rAdd (K : PySem.W.Frag) : R2 := fun x y H Q => (rI0 fun i j => .int (i + j)) x y H Q ∨ (∃ i k, x = .int i ∧ y = .bl k ∧ Q (.int (i + b2i k)) H) ∨ (∃ i j, x = .str i ∧ y = .str j ∧ i.length + j.length ≤ sizeLine ∧ Q (.str (i ++ j)) H) ∨ rCatA K x y H Q ∨ rCat x y H Q
theorem op_addM : OpR X (binaryOp .Add) (rAdd X.K) := op_add.or (op_add_ib.or (op_add_str.or (op_catA.or op_cat)))
theorem g_add : Op2 X.K (rAdd X.K) addD := by
  intro c B σ H μ x y d e z Q r hx hy hz k
  unfold addD at hz
  split at hz
  · cases hz; exact .inl ⟨_, _, hx.int, hy.int, k.go r (.int _)⟩
  · cases hz
    refine .inr (.inl ⟨_, _, hx.int, hy.bool, ?_⟩)
    exact k.go r (.int _)
  · split at hz
    · rename_i hl
      cases hz
      exact .inr (.inr (.inl ⟨_, _, hx.str, hy.str, by rw [sizeLine_eq]; exact hl, k.go r (.str _)⟩))
    · cases hz
  · split at hz
    · rename_i hl
      cases hz
      obtain ⟨p, vs, rfl, h1, h1', h2⟩ := hx.tuple r.r0.ext
      obtain ⟨q, us, rfl, h3, h3', h4⟩ := hy.tuple r.r0.ext
      refine .inr (.inr (.inr (.inl ⟨p, q, vs, us, rfl, rfl, h1, h3, by rw [h2.length, h4.length, sizeLine_eq]; exact hl, fun e => ?_, fun _ e => ?_, fun _ _ a ha => ?_⟩)))
      · subst e; cases h2
        exact k.go r (.tup h3' h4)
      · subst e; cases h4
        rw [List.append_nil] at k
        exact k.go r (.tup h1' h2)
      · exact k.tup r (h2.append h4) ha
    · cases hz
  · split at hz
    · rename_i hl
      cases hz
      obtain ⟨p, vs, rfl, h1, h2⟩ := hx.list r.r0.ext
      obtain ⟨q, us, rfl, h3, h4⟩ := hy.list r.r0.ext
      exact .inr (.inr (.inr (.inr ⟨p, q, vs, us, rfl, rfl, h1, h3, by rw [h2.length, h4.length, sizeLine_eq]; exact hl, fun a ha => k.lst r (h2.append h4) ha⟩)))
    · cases hz
  · cases hz
theorem g_sub : Op2 X.K (rI0 fun i j => .int (i - j)) subD := by
  intro c B σ H μ x y d e z Q r hx hy hz k
  unfold subD at hz
  split at hz
  · cases hz; exact ⟨_, _, hx.int, hy.int, k.go r (.int _)⟩
  · cases hz
theorem g_mul : Op2 X.K (rI CMulX fun i j => .int (i * j)) mulD := by
  intro c B σ H μ x y d e z Q r hx hy hz k
  unfold mulD at hz
  split at hz
  · split at hz
    · rename_i hc
      cases hz; exact ⟨_, _, hx.int, hy.int, hc, k.go r (.int _)⟩
    · cases hz
  · cases hz
theorem g_fdiv : Op2 X.K (rI CDivW fun i j => .int (i / j)) fdivD := by
  intro c B σ H μ x y d e z Q r hx hy hz k
  unfold fdivD at hz
  split at hz
  · split at hz
    · rename_i hc
      cases hz; exact ⟨_, _, hx.int, hy.int, hc, k.go r (.int _)⟩
    · cases hz
  · cases hz
theorem g_mod : Op2 X.K (rI (fun _ j => 0 < j) fun i j => .int (i % j)) modD := by
  intro c B σ H μ x y d e z Q r hx hy hz k
  unfold modD at hz
  split at hz
  · split at hz
    · rename_i hc
      cases hz; exact ⟨_, _, hx.int, hy.int, hc, k.go r (.int _)⟩
    · cases hz
  · cases hz
theorem g_pow : Op2 X.K (rI CPow fun i j => .int (i ^ j.toNat)) powD := by
  intro c B σ H μ x y d e z Q r hx hy hz k
  unfold powD at hz
  split at hz
  · split at hz
    · rename_i hc
      cases hz; exact ⟨_, _, hx.int, hy.int, hc, k.go r (.int _)⟩
    · cases hz
  · cases hz
theorem g_shl : Op2 X.K (rI CShl fun i j => .int (i * 2 ^ j.toNat)) shlD := by
  intro c B σ H μ x y d e z Q r hx hy hz k
  unfold shlD at hz
  split at hz
  · split at hz
    · rename_i hc
      cases hz; exact ⟨_, _, hx.int, hy.int, hc, k.go r (.int _)⟩
    · cases hz
  · cases hz
theorem g_shr : Op2 X.K (rI (fun _ j => 0 ≤ j) fun i j => .int (i / 2 ^ j.toNat)) shrD := by
  intro c B σ H μ x y d e z Q r hx hy hz k
  unfold shrD at hz
  split at hz
  · split at hz
    · rename_i hc
      cases hz; exact ⟨_, _, hx.int, hy.int, hc, k.go r (.int _)⟩
    · cases hz
  · cases hz
theorem g_neg : Op1 X.K (rU fun i => .int (-i)) negD := by
  intro c B σ H μ x d z Q r hx hz k
  unfold negD at hz
  split at hz
  · cases hz; exact ⟨_, hx.int, k.go r (.int _)⟩
  · cases hz
variable {a b : Expr} {ma mb : M O} {pos : Pos}
theorem e_add (ha : DO X a ma) (hb : DO X b mb) : DE X (.BinOp a .Add b pos) (m2 addD ma mb) := e_op op_addM g_add ha hb
theorem e_sub (ha : DO X a ma) (hb : DO X b mb) : DE X (.BinOp a .Sub b pos) (m2 subD ma mb) := e_op op_sub g_sub ha hb
theorem e_mul (ha : DO X a ma) (hb : DO X b mb) : DE X (.BinOp a .Mult b pos) (m2 mulD ma mb) := e_op op_mulX g_mul ha hb
theorem e_fdiv (ha : DO X a ma) (hb : DO X b mb) : DE X (.BinOp a .FloorDiv b pos) (m2 fdivD ma mb) := e_op op_fdivW g_fdiv ha hb
theorem e_mod (ha : DO X a ma) (hb : DO X b mb) : DE X (.BinOp a .Mod b pos) (m2 modD ma mb) := e_op op_mod g_mod ha hb
theorem e_pow (ha : DO X a ma) (hb : DO X b mb) : DE X (.BinOp a .Pow b pos) (m2 powD ma mb) := e_op op_pow g_pow ha hb
theorem e_shl (ha : DO X a ma) (hb : DO X b mb) : DE X (.BinOp a .LShift b pos) (m2 shlD ma mb) := e_op op_shlW g_shl ha hb
theorem e_shr (ha : DO X a ma) (hb : DO X b mb) : DE X (.BinOp a .RShift b pos) (m2 shrD ma mb) := e_op op_shr g_shr ha hb
theorem e_neg (ha : DO X a ma) : DE X (.UnaryOp .USub a pos) (m1 negD ma) := e_un un_neg g_neg ha
/-- xs + ys of lists: a new one -/
def m2F (g : D → D → Option (List D)) (ma mb : M O) : M (List D) := fun μ => (ma μ).bind fun p => (mb p.2).bind fun q => (look p.1 q.2).bind fun d => (look q.1 q.2).bind fun e => (g d e).bind fun z => some (z, q.2)
theorem f_cat (ha : DO X a ma) (hb : DO X b mb) : DF X (.BinOp a .Add b pos) (m2F catF ma mb) := by
  obtain ⟨ta, pa, oa⟩ := ha.ex
  obtain ⟨tb, pb, ob⟩ := hb.ex
  refine ⟨_, pe_op op_cat pa pb, fun c B σ H μ z μ' Q rel hm k => ?_⟩
  unfold m2F at hm
  simp only [Option.bind_eq_some_iff] at hm
  obtain ⟨⟨o1, μ1⟩, h1, ⟨o2, μ2⟩, h2, d, h3, e, h4, z', h5, h6⟩ := hm
  cases h6
  refine oa c B σ H μ o1 μ1 _ rel h1 fun B1 H1 x e1 r1 x1 => ?_
  refine ob c B1 σ H1 μ1 o2 _ _ r1 h2 fun B2 H2 y e2 r2 y2 => ?_
  have hx := look_ok r2 (x1.mono e2) h3
  have hy := look_ok r2 y2 h4
  unfold catF at h5
  split at h5
  · split at h5
    · rename_i hl
      cases h5
      obtain ⟨p, vs, rfl, h7, h8⟩ := hx.list r2.r0.ext
      obtain ⟨q, us, rfl, h9, h10⟩ := hy.list r2.r0.ext
      refine ⟨p, q, vs, us, rfl, rfl, h7, h9, by rw [h8.length, h10.length, sizeLine_eq]; exact hl, fun a ha => ?_⟩
      obtain ⟨f0, fb⟩ := r2.r0.fresh ha
      exact k B2 _ a _ (e1.trans e2) (r2.hide ha) upd_same fb f0 (r2.noOwn ha) (h8.append h10)
    · cases h5
  · cases h5
end

/-! ### comparisons -/
def eqD (d e : D) : Option D := if (SeqAt.shaped d && SeqAt.shaped e) = true then some (.bool (PyData.eqv d e)) else none
def neD (d e : D) : Option D := if (SeqAt.shaped d && SeqAt.shaped e) = true then some (.bool (!PyData.eqv d e)) else none
def ltD : D → D → Option D
  | .int a, .int b => some (.bool (decide (a < b)))
  | .str a, .str b => some (.bool (decide (a.cps.toList < b.cps.toList)))
  | _, _ => none
def leD : D → D → Option D
  | .int a, .int b => some (.bool (decide (a ≤ b)))
  | .str a, .str b => some (.bool (!decide (b.cps.toList < a.cps.toList)))
  | _, _ => none
def gtD : D → D → Option D
  | .int a, .int b => some (.bool (decide (b < a)))
  | .str a, .str b => some (.bool (decide (b.cps.toList < a.cps.toList)))
  | _, _ => none
def geD : D → D → Option D
  | .int a, .int b => some (.bool (decide (b ≤ a)))
  | .str a, .str b => some (.bool (!decide (a.cps.toList < b.cps.toList)))
  | _, _ => none
def isNone : D → Bool
  | .none => true
  | _ => false
/-- x is None; True is True -/
def isD : D → D → Option D
  | d, .none => some (.bool (isNone d))
  | .bool a, .bool b => some (.bool (decide (a = b)))
  | _, _ => none
def isNotD : D → D → Option D
  | d, .none => some (.bool (!isNone d))
  | .bool a, .bool b => some (.bool (!decide (a = b)))
  | _, _ => none
def inD : D → D → Option D
  | .str a, .str b => some (.bool (!(Builtin.Str.occurrences b a 0 b.length 1).isEmpty))
  | d, .list ds => if (SeqAt.shaped d && SeqAt.shaped (.list ds)) = true then some (.bool (ds.any fun z => PyData.eqv z d)) else none
  | d, .tuple ds => if (flat d && ds.all flat) = true then some (.bool (ds.any fun z => PyData.eqv z d)) else none
  | _, _ => none
def notInD (d e : D) : Option D := (inD d e).bind fun z => match z with
  | .bool b => some (.bool (!b))
  | _ => none
theorem flat_V {K : PySem.W.Frag} {st : Option (Addr × Addr)} {B : Hp} {x : V} {d : D} (h : Rp K st B x d) (f : flat d = true) : flatV x = true := by
  cases h <;> first | rfl | cases f
theorem flat_eqV {K : PySem.W.Frag} {st : Option (Addr × Addr)} {B : Hp} {x y : V} {d e : D} (h : Rp K st B x d) (h' : Rp K st B y e) (f : flat d = true) (f' : flat e = true) : eqV y x = PyData.eqv e d := by
  cases h <;> first
    | (cases f; done)
    | (cases h' <;> first | (cases f'; done) | simp [eqV, PyData.eqv])
theorem flat_in {K : PySem.W.Frag} {st : Option (Addr × Addr)} {B : Hp} {x : V} {d : D} (h : Rp K st B x d) (f : flat d = true) : ∀ {vs : List V} {ds : List D}, RpA K st B vs ds → ds.all flat = true → vs.all flatV = true ∧ inV x vs = ds.any fun z => PyData.eqv z d
  | _, _, .nil, _ => ⟨rfl, rfl⟩
  | _, _, .cons (v := v) (d := e) r t, g => by
    rw [List.all_cons, Bool.and_eq_true] at g
    obtain ⟨h1, h2⟩ := flat_in h f t g.2
    refine ⟨by rw [List.all_cons, flat_V r g.1, h1]; rfl, ?_⟩
    unfold inV at h2 ⊢
    rw [List.any_cons, List.any_cons, h2, flat_eqV h r f g.1]
section
variable {X : Cx}
theorem g_eq : Op2 X.K (rEqD X.K) eqD := by
  intro c B σ H μ x y d e z Q r hx hy hz k
  unfold eqD at hz
  split at hz
  · rename_i hs
    rw [Bool.and_eq_true] at hs
    cases hz
    exact ⟨d, e, hx.dp r.r0.ext (SeqAt.canLay_of_shaped hs.1), hy.dp r.r0.ext (SeqAt.canLay_of_shaped hs.2), hs.1, hs.2, k.go r (.bl _)⟩
  · cases hz
theorem g_ne : Op2 X.K (rNeD X.K) neD := by
  intro c B σ H μ x y d e z Q r hx hy hz k
  unfold neD at hz
  split at hz
  · rename_i hs
    rw [Bool.and_eq_true] at hs
    cases hz
    exact ⟨d, e, hx.dp r.r0.ext (SeqAt.canLay_of_shaped hs.1), hy.dp r.r0.ext (SeqAt.canLay_of_shaped hs.2), hs.1, hs.2, k.go r (.bl _)⟩
  · cases hz
abbrev rOr (r r' : R2) : R2 := fun x y H Q => r x y H Q ∨ r' x y H Q
theorem g_lt : Op2 X.K (rOr (rI0 fun i j => .bl (decide (i < j))) (fun x y H Q => ∃ i j, x = .str i ∧ y = .str j ∧ Q (.bl (decide (i.cps.toList < j.cps.toList))) H)) ltD := by
  intro c B σ H μ x y d e z Q r hx hy hz k
  unfold ltD at hz
  split at hz
  · cases hz; exact .inl ⟨_, _, hx.int, hy.int, k.go r (.bl _)⟩
  · cases hz; exact .inr ⟨_, _, hx.str, hy.str, k.go r (.bl _)⟩
  · cases hz
theorem g_le : Op2 X.K (rOr (rI0 fun i j => .bl (decide (i ≤ j))) (fun x y H Q => ∃ i j, x = .str i ∧ y = .str j ∧ Q (.bl (!decide (j.cps.toList < i.cps.toList))) H)) leD := by
  intro c B σ H μ x y d e z Q r hx hy hz k
  unfold leD at hz
  split at hz
  · cases hz; exact .inl ⟨_, _, hx.int, hy.int, k.go r (.bl _)⟩
  · cases hz; exact .inr ⟨_, _, hx.str, hy.str, k.go r (.bl _)⟩
  · cases hz
theorem g_gt : Op2 X.K (rOr (rI0 fun i j => .bl (decide (j < i))) (fun x y H Q => ∃ i j, x = .str i ∧ y = .str j ∧ Q (.bl (decide (j.cps.toList < i.cps.toList))) H)) gtD := by
  intro c B σ H μ x y d e z Q r hx hy hz k
  unfold gtD at hz
  split at hz
  · cases hz; exact .inl ⟨_, _, hx.int, hy.int, k.go r (.bl _)⟩
  · cases hz; exact .inr ⟨_, _, hx.str, hy.str, k.go r (.bl _)⟩
  · cases hz
theorem g_ge : Op2 X.K (rOr (rI0 fun i j => .bl (decide (j ≤ i))) (fun x y H Q => ∃ i j, x = .str i ∧ y = .str j ∧ Q (.bl (!decide (i.cps.toList < j.cps.toList))) H)) geD := by
  intro c B σ H μ x y d e z Q r hx hy hz k
  unfold geD at hz
  split at hz
  · cases hz; exact .inl ⟨_, _, hx.int, hy.int, k.go r (.bl _)⟩
  · cases hz; exact .inr ⟨_, _, hx.str, hy.str, k.go r (.bl _)⟩
  · cases hz
theorem lk_none {K : PySem.W.Frag} {st : Option (Addr × Addr)} {B H : Hp} {x : V} {d : D} (h : Lk K st B H x d) : decide (x = .non) = isNone d := by
  rcases h with h | ⟨p, vs, ds, rfl, rfl, _⟩ | ⟨p, h, tk, ks, rfl, rfl, _⟩
  · cases h <;> simp [isNone]
  · simp [isNone]
  · simp [isNone]
theorem g_is : Op2 X.K (rOr (fun x y H Q => y = .non ∧ Q (.bl (decide (x = .non))) H) rIsB) isD := by
  intro c B σ H μ x y d e z Q r hx hy hz k
  unfold isD at hz
  split at hz
  · cases hz
    refine .inl ⟨hy.none, ?_⟩
    rw [lk_none hx]
    exact k.go r (.bl _)
  · cases hz; exact .inr ⟨_, _, hx.bool, hy.bool, k.go r (.bl _)⟩
  · cases hz
theorem g_isNot : Op2 X.K (rOr (fun x y H Q => y = .non ∧ Q (.bl (!decide (x = .non))) H) rNotB) isNotD := by
  intro c B σ H μ x y d e z Q r hx hy hz k
  unfold isNotD at hz
  split at hz
  · cases hz
    refine .inl ⟨hy.none, ?_⟩
    rw [lk_none hx]
    exact k.go r (.bl _)
  · cases hz; exact .inr ⟨_, _, hx.bool, hy.bool, k.go r (.bl _)⟩
  · cases hz
abbrev rInS : R2 := fun x y H Q => ∃ i j, x = .str i ∧ y = .str j ∧ Q (.bl (!(Builtin.Str.occurrences j i 0 j.length 1).isEmpty)) H
abbrev rNotInS : R2 := fun x y H Q => ∃ i j, x = .str i ∧ y = .str j ∧ Q (.bl (!(!(Builtin.Str.occurrences j i 0 j.length 1).isEmpty))) H
theorem lk_flat {K : PySem.W.Frag} {st : Option (Addr × Addr)} {B H : Hp} {x : V} {d : D} (h : Lk K st B H x d) (f : flat d = true) : Rp K st B x d := by
  rcases h with h | ⟨p, vs, ds, rfl, rfl, _⟩ | ⟨p, h, tk, ks, rfl, rfl, _⟩
  · exact h
  · cases f
  · cases f
theorem g_in : Op2 X.K (rOr rInS (rOr (rInD X.K) (rIn X.K false))) inD := by
  intro c B σ H μ x y d e z Q r hx hy hz k
  unfold inD at hz
  split at hz
  · cases hz; exact .inl ⟨_, _, hx.str, hy.str, k.go r (.bl _)⟩
  · split at hz
    · rename_i hs
      rw [Bool.and_eq_true] at hs
      cases hz
      exact .inr (.inl ⟨_, _, hx.dp r.r0.ext (SeqAt.canLay_of_shaped hs.1), hy.dp r.r0.ext (SeqAt.canLay_of_shaped hs.2), hs.1, hs.2, k.go r (.bl _)⟩)
    · cases hz
  · split at hz
    · rename_i hs
      rw [Bool.and_eq_true] at hs
      cases hz
      obtain ⟨p, vs, rfl, h1, h1', h2⟩ := hy.tuple r.r0.ext
      have hx' := lk_flat hx hs.1
      obtain ⟨h3, h4⟩ := flat_in hx' hs.1 h2 hs.2
      refine .inr (.inr ⟨p, vs, rfl, .inr h1, flat_V hx' hs.1, h3, ?_⟩)
      rw [if_neg Bool.false_ne_true, h4]
      exact k.go r (.bl _)
    · cases hz
  · cases hz
theorem g_notIn : Op2 X.K (rOr rNotInS (rOr (rNotInD X.K) (rIn X.K true))) notInD := by
  intro c B σ H μ x y d e z Q r hx hy hz k
  unfold notInD inD at hz
  split at hz
  · cases hz; exact .inl ⟨_, _, hx.str, hy.str, k.go r (.bl _)⟩
  · split at hz
    · rename_i hs
      rw [Bool.and_eq_true] at hs
      cases hz
      exact .inr (.inl ⟨_, _, hx.dp r.r0.ext (SeqAt.canLay_of_shaped hs.1), hy.dp r.r0.ext (SeqAt.canLay_of_shaped hs.2), hs.1, hs.2, k.go r (.bl _)⟩)
    · cases hz
  · split at hz
    · rename_i hs
      rw [Bool.and_eq_true] at hs
      cases hz
      obtain ⟨p, vs, rfl, h1, h1', h2⟩ := hy.tuple r.r0.ext
      have hx' := lk_flat hx hs.1
      obtain ⟨h3, h4⟩ := flat_in hx' hs.1 h2 hs.2
      refine .inr (.inr ⟨p, vs, rfl, .inr h1, flat_V hx' hs.1, h3, ?_⟩)
      rw [if_pos rfl, h4]
      exact k.go r (.bl _)
    · cases hz
  · cases hz
/-- a comparison's rule and mirror, by the operator -/
structure CmpR (X : Cx) (op : CmpOp) (g : D → D → Option D) : Prop where
  ex : ∃ r, OpR X (compareOp op) r ∧ Op2 X.K r g
theorem c_eq (hu : X.A.units + 64 < cLine) : CmpR X .Eq eqD := ⟨_, op_eqD hu, g_eq⟩
theorem c_ne (hu : X.A.units + 64 < cLine) : CmpR X .NotEq neD := ⟨_, op_neD hu, g_ne⟩
theorem c_lt : CmpR X .Lt ltD := ⟨_, OpR.or op_lt op_lt_str, g_lt⟩
theorem c_le : CmpR X .LtE leD := ⟨_, OpR.or op_le op_le_str, g_le⟩
theorem c_gt : CmpR X .Gt gtD := ⟨_, OpR.or op_gt op_gt_str, g_gt⟩
theorem c_ge : CmpR X .GtE geD := ⟨_, OpR.or op_ge op_ge_str, g_ge⟩
theorem c_is : CmpR X .Is isD := ⟨_, OpR.or op_isN op_isBl, g_is⟩
theorem c_isNot : CmpR X .IsNot isNotD := ⟨_, OpR.or op_notN op_notBl, g_isNot⟩
theorem c_in (hu : X.A.units + 65 < cLine) : CmpR X .In inD := ⟨_, OpR.or op_in_str (OpR.or (op_inD hu) op_in_seq), g_in⟩
theorem c_notIn (hu : X.A.units + 65 < cLine) : CmpR X .NotIn notInD := ⟨_, OpR.or op_notin_str (OpR.or (op_notInD hu) op_notIn_seq), g_notIn⟩
variable {a b c : Expr} {ma mb mc : M O} {pos : Pos} {op op' : CmpOp} {g g' : D → D → Option D}
theorem e_cm (h : CmpR X op g) (ha : DO X a ma) (hb : DO X b mb) (hm : behindInMarks op b = false := by first | exact nomark _ | rfl | with_unfolding_all rfl) : DE X (.Compare a [op] [b] pos) (m2 g ma mb) := by
  obtain ⟨r, h1, h2⟩ := h.ex
  exact e_cmp h1 h2 ha hb hm
theorem t_cm (h : CmpR X op g) (ha : DO X a ma) (hb : DO X b mb) (hm : behindInMarks op b = false := by first | exact nomark _ | rfl | with_unfolding_all rfl) : DT X (.Compare a [op] [b] pos) (mB (m2 g ma mb)) := by
  obtain ⟨r, h1, h2⟩ := h.ex
  exact t_cmp h1 h2 ha hb hm
theorem e_cm2 (h : CmpR X op g) (h' : CmpR X op' g') (ha : DO X a ma) (hb : DO X b mb) (hc : DO X c mc) (hm : lastMarks [op, op'] [b, c] = false := by with_unfolding_all rfl) : DE X (.Compare a [op, op'] [b, c] pos) (mChain g g' ma mb mc) := by
  obtain ⟨r, h1, h2⟩ := h.ex
  obtain ⟨r', h1', h2'⟩ := h'.ex
  exact e_chain h1 h2 h1' h2' ha hb hc hm
theorem t_cm2 (h : CmpR X op g) (h' : CmpR X op' g') (ha : DO X a ma) (hb : DO X b mb) (hc : DO X c mc) (hm : lastMarks [op, op'] [b, c] = false := by with_unfolding_all rfl) : DT X (.Compare a [op, op'] [b, c] pos) (mB (mChain g g' ma mb mc)) := by
  obtain ⟨r, h1, h2⟩ := h.ex
  obtain ⟨r', h1', h2'⟩ := h'.ex
  exact t_chain h1 h2 h1' h2' ha hb hc hm
end

/-! ### items, slices -/
def ixD : D → D → Option D
  | .list ds, .int i => atI ds i
  | .tuple ds, .int i => atI ds i
  | .str x, .int i => if x.length ≤ lineN then (atI x.cps.toList i).bind fun c => some (.str ⟨#[c]⟩) else none
  | _, _ => none
theorem atI_len {α β : Type} {xs : List α} {ys : List β} (h : xs.length = ys.length) (i : Int) : ixN xs.length i = ixN ys.length i := by rw [h]
theorem atI_rp {K : PySem.W.Frag} {st : Option (Addr × Addr)} {B : Hp} {vs : List V} {ds : List D} {i : Int} {d : D} (r : RpA K st B vs ds) (h : atI ds i = some d) : ∃ v, atI vs i = some v ∧ Rp K st B v d := by
  unfold atI at h ⊢
  rw [r.length]
  cases q : ixN ds.length i with
  | none => rw [q] at h; cases h
  | some j =>
    rw [q] at h
    exact r.get h
def slD : D → Option Int → Option Int → Option D
  | .tuple ds, lo, hi => some (.tuple ((ds.drop (HT.sIx ds.length 0 lo)).take (HT.sIx ds.length ds.length hi - HT.sIx ds.length 0 lo)))
  | .str x, lo, hi => if x.length ≤ lineN then some (.str (cutS x lo hi)) else none
  | _, _, _ => none
def slF : D → Option Int → Option Int → Option (List D)
  | .list ds, lo, hi => some ((ds.drop (HT.sIx ds.length 0 lo)).take (HT.sIx ds.length ds.length hi - HT.sIx ds.length 0 lo))
  | _, _, _ => none
theorem cut_rp {K : PySem.W.Frag} {st : Option (Addr × Addr)} {B : Hp} {vs : List V} {ds : List D} (r : RpA K st B vs ds) (lo hi : Option Int) :
    RpA K st B (cutV vs lo hi) ((ds.drop (HT.sIx ds.length 0 lo)).take (HT.sIx ds.length ds.length hi - HT.sIx ds.length 0 lo)) := by
  unfold cutV
  rw [r.length]
  exact (r.drop _).take _
def OkP (K : PySem.W.Frag) (t : TO) (m : M (Option Int)) : Prop := ∀ (c : C) (B : Hp) (σ : St) (H : Hp) (μ : MS) (o : Option Int) (μ' : MS) (Q : Option Int → Hp → Prop), Rel K c B σ H μ → m μ = some (o, μ') →
  (∀ B' H', Ext B B' → Rel K c B' σ H' μ' → Q o H') → t σ H Q
/-- a part of a slice -/
structure DP (X : Cx) (e : Option Expr) (m : M (Option Int)) : Prop where
  ex : ∃ t, PO X e t ∧ OkP X.K t m
def pNone : M (Option Int) := fun μ => some (none, μ)
def pSome (m : M D) : M (Option Int) := fun μ => (m μ).bind fun p => match p.1 with
  | .int i => some (some i, p.2)
  | _ => none
section
variable {X : Cx} {a b e : Expr} {ma mb : M O} {pos p2 : Pos} {lo hi : Option Expr} {ml mh : M (Option Int)}
theorem g_ix : Op2 X.K (rIx X.K) ixD := by
  intro c B σ H μ x y d e z Q r hx hy hz k
  unfold ixD at hz
  split at hz
  · obtain ⟨p, vs, rfl, h1, h2⟩ := hx.list r.r0.ext
    obtain ⟨v, h3, h4⟩ := atI_rp h2 hz
    exact .inl ⟨p, vs, _, v, rfl, hy.int, SqL.of h1, h3, k.go r h4⟩
  · obtain ⟨p, vs, rfl, h1, h1', h2⟩ := hx.tuple r.r0.ext
    obtain ⟨v, h3, h4⟩ := atI_rp h2 hz
    exact .inr (.inl ⟨p, vs, _, v, rfl, hy.int, h1, h3, k.go r h4⟩)
  · split at hz
    · rename_i hl
      simp only [Option.bind_eq_some_iff] at hz
      obtain ⟨c', h1, h2⟩ := hz
      cases h2
      exact .inr (.inr ⟨_, _, c', hx.str, hy.int, by rw [sizeLine_eq]; exact hl, h1, k.go r (.str _)⟩)
    · cases hz
  · cases hz
theorem e_at (ha : DO X a ma) (hb : DO X b mb) (hs : PlainIx b := by intro _ _; rfl) : DE X (.Subscript a b pos) (m2 ixD ma mb) := e_ix ix_seq g_ix ha hb hs
theorem p_none : DP X none pNone := ⟨_, po_none, fun c B σ H μ o μ' Q rel hm k => by cases hm; exact k B H (Ext.refl _) rel⟩
theorem p_some {m : M D} (h : DE X e m) : DP X (some e) (pSome m) := by
  obtain ⟨t, ht, ok⟩ := h.ex
  refine ⟨_, po_some ht, fun c B σ H μ o μ' Q rel hm k => ?_⟩
  unfold pSome at hm
  simp only [Option.bind_eq_some_iff] at hm
  obtain ⟨⟨d, μ1⟩, h1, h2⟩ := hm
  refine ok c B σ H μ d μ1 _ rel h1 fun B1 H1 x e1 r1 x1 => ?_
  split at h2
  · rename_i i hd
    cases h2
    have hd' : d = .int i := hd
    subst hd'
    cases x1
    exact ⟨i, rfl, k B1 H1 e1 r1⟩
  · cases h2
def mSl {α : Type} (g : D → Option Int → Option Int → Option α) (ma : M O) (ml mh : M (Option Int)) : M α := fun μ => (ma μ).bind fun p => (ml p.2).bind fun l => (mh l.2).bind fun h => (look p.1 h.2).bind fun d => (g d l.1 h.1).bind fun z => some (z, h.2)
theorem SlR.or {r r' : V → Option Int → Option Int → Hp → VK → Prop} (h : SlR X r) (h' : SlR X r') : SlR X (fun x lo hi H Q => r x lo hi H Q ∨ r' x lo hi H Q) := by
  intro pins s σ H x v vl vu lo hi sl Q I rx hs pl pu q
  rcases q with q | q
  · exact h pins s σ H x v vl vu lo hi sl Q I rx hs pl pu q
  · exact h' pins s σ H x v vl vu lo hi sl Q I rx hs pl pu q
theorem e_slice (ha : DO X a ma) (hl : DP X lo ml) (hh : DP X hi mh) : DE X (.Subscript a (.Slice lo hi none p2) pos) (mSl slD ma ml mh) := by
  obtain ⟨ta, pa, oa⟩ := ha.ex
  obtain ⟨tl, pl, ol⟩ := hl.ex
  obtain ⟨th, ph, oh⟩ := hh.ex
  refine ⟨_, pe_slice (SlR.or sl_tupA sl_str) pa pl ph, fun c B σ H μ z μ' Q rel hm k => ?_⟩
  unfold mSl at hm
  simp only [Option.bind_eq_some_iff] at hm
  obtain ⟨⟨o1, μ1⟩, h1, ⟨l, μ2⟩, h2, ⟨h, μ3⟩, h3, d, h4, z', h5, h6⟩ := hm
  cases h6
  refine oa c B σ H μ o1 μ1 _ rel h1 fun B1 H1 x e1 r1 x1 => ?_
  refine ol c B1 σ H1 μ1 l μ2 _ r1 h2 fun B2 H2 e2 r2 => ?_
  refine oh c B2 σ H2 μ2 h _ _ r2 h3 fun B3 H3 e3 r3 => ?_
  have hx := look_ok r3 ((x1.mono e2).mono e3) h4
  have k' := k.ext ((e1.trans e2).trans e3)
  unfold slD at h5
  split at h5
  · cases h5
    obtain ⟨p, vs, rfl, h7, h7', h8⟩ := hx.tuple r3.r0.ext
    refine .inl ⟨p, vs, rfl, h7, fun hw => ?_, fun hw q hq => ?_⟩
    · rw [h8.length] at hw
      rw [hw.1, hw.2, List.drop_zero, Nat.sub_zero, List.take_length] at k'
      exact k'.go r3 (.tup h7' h8)
    · exact k'.tup r3 (cut_rp h8 l h) hq
  · split at h5
    · rename_i hl
      cases h5
      exact .inr ⟨_, hx.str, by rw [sizeLine_eq]; exact hl, k'.go r3 (.str _)⟩
    · cases h5
  · cases h5
theorem f_slice (ha : DO X a ma) (hl : DP X lo ml) (hh : DP X hi mh) : DF X (.Subscript a (.Slice lo hi none p2) pos) (mSl slF ma ml mh) := by
  obtain ⟨ta, pa, oa⟩ := ha.ex
  obtain ⟨tl, pl, ol⟩ := hl.ex
  obtain ⟨th, ph, oh⟩ := hh.ex
  refine ⟨_, pe_slice sl_list pa pl ph, fun c B σ H μ z μ' Q rel hm k => ?_⟩
  unfold mSl at hm
  simp only [Option.bind_eq_some_iff] at hm
  obtain ⟨⟨o1, μ1⟩, h1, ⟨l, μ2⟩, h2, ⟨h, μ3⟩, h3, d, h4, z', h5, h6⟩ := hm
  cases h6
  refine oa c B σ H μ o1 μ1 _ rel h1 fun B1 H1 x e1 r1 x1 => ?_
  refine ol c B1 σ H1 μ1 l μ2 _ r1 h2 fun B2 H2 e2 r2 => ?_
  refine oh c B2 σ H2 μ2 h _ _ r2 h3 fun B3 H3 e3 r3 => ?_
  have hx := look_ok r3 ((x1.mono e2).mono e3) h4
  unfold slF at h5
  split at h5
  · cases h5
    obtain ⟨p, vs, rfl, h7, h8⟩ := hx.list r3.r0.ext
    refine ⟨p, vs, rfl, SqL.of h7, fun a ha => ?_⟩
    obtain ⟨f0, fb⟩ := r3.r0.fresh ha
    exact k B3 _ a _ ((e1.trans e2).trans e3) (r3.hide ha) upd_same fb f0 (r3.noOwn ha) (cut_rp h8 l h)
  · cases h5
/-- s of unknown kind: a list's slice is known at once -/
def slA : D → Option Int → Option Int → Option D
  | .list ds, lo, hi => (slF (.list ds) lo hi).bind fun z => some (.list z)
  | d, lo, hi => slD d lo hi
theorem e_sliceA (ha : DO X a ma) (hl : DP X lo ml) (hh : DP X hi mh) : DE X (.Subscript a (.Slice lo hi none p2) pos) (mSl slA ma ml mh) := by
  obtain ⟨ta, pa, oa⟩ := ha.ex
  obtain ⟨tl, pl, ol⟩ := hl.ex
  obtain ⟨th, ph, oh⟩ := hh.ex
  refine ⟨_, pe_slice (SlR.or sl_list (SlR.or sl_tupA sl_str)) pa pl ph, fun c B σ H μ z μ' Q rel hm k => ?_⟩
  unfold mSl at hm
  simp only [Option.bind_eq_some_iff] at hm
  obtain ⟨⟨o1, μ1⟩, h1, ⟨l, μ2⟩, h2, ⟨h, μ3⟩, h3, d, h4, z', h5, h6⟩ := hm
  cases h6
  refine oa c B σ H μ o1 μ1 _ rel h1 fun B1 H1 x e1 r1 x1 => ?_
  refine ol c B1 σ H1 μ1 l μ2 _ r1 h2 fun B2 H2 e2 r2 => ?_
  refine oh c B2 σ H2 μ2 h _ _ r2 h3 fun B3 H3 e3 r3 => ?_
  have hx := look_ok r3 ((x1.mono e2).mono e3) h4
  have k' := k.ext ((e1.trans e2).trans e3)
  unfold slA at h5
  split at h5
  · simp only [slF, Option.bind_some] at h5
    cases h5
    obtain ⟨p, vs, rfl, h7, h8⟩ := hx.list r3.r0.ext
    exact .inl ⟨p, vs, rfl, SqL.of h7, fun a ha => k'.lst r3 (cut_rp h8 l h) ha⟩
  · refine .inr ?_
    unfold slD at h5
    split at h5
    · cases h5
      obtain ⟨p, vs, rfl, h7, h7', h8⟩ := hx.tuple r3.r0.ext
      refine .inl ⟨p, vs, rfl, h7, fun hw => ?_, fun hw q hq => ?_⟩
      · rw [h8.length] at hw
        rw [hw.1, hw.2, List.drop_zero, Nat.sub_zero, List.take_length] at k'
        exact k'.go r3 (.tup h7' h8)
      · exact k'.tup r3 (cut_rp h8 l h) hq
    · split at h5
      · rename_i hl
        cases h5
        exact .inr ⟨_, hx.str, by rw [sizeLine_eq]; exact hl, k'.go r3 (.str _)⟩
      · cases h5
    · cases h5
end
end Mi
/-! Mi, fourth part: statements, loops, comprehensions, defs. -/
namespace Mi
open PySem PySem.Spec PyProof.Rows L2

/-! ### statements -/
inductive SR where
  | nx (μ : MS)
  | rt (d : D) (dr : Dr)
  | bk (μ : MS)
  | ct (μ : MS)
  | bad
abbrev MT := MS → SR
def After (K : PySem.W.Frag) (c : C) (B : Hp) (r : SR) (E : Ends) : Prop :=
  match r with
  | .nx μ => ∀ B' σ' H', Ext B B' → Rel K c B' σ' H' μ → E.nx σ' H'
  | .rt d dr => ∀ B' H' v, Ext B B' → Rel0 c B' H' dr → Rp K c.st B' v d → E.rt v H'
  | .bk μ => ∀ B' σ' H', Ext B B' → Rel K c B' σ' H' μ → E.bk σ' H'
  | .ct μ => ∀ B' σ' H', Ext B B' → Rel K c B' σ' H' μ → E.ct σ' H'
  | .bad => False
def OkS (K : PySem.W.Frag) (t : TS) (s : MT) : Prop := ∀ (c : C) (B : Hp) (σ : St) (H : Hp) (μ : MS) (E : Ends), Rel K c B σ H μ → After K c B (s μ) E → t E σ H
structure DS (X : Cx) (st : Stmt) (s : MT) : Prop where
  ex : ∃ t, PS X st t ∧ OkS X.K t s
structure DSs (X : Cx) (st : List Stmt) (s : MT) : Prop where
  ex : ∃ t, PSs X st t ∧ OkS X.K t s
theorem After.ext {K : PySem.W.Frag} {c : C} {B B1 : Hp} {r : SR} {E : Ends} (h : After K c B r E) (e : Ext B B1) : After K c B1 r E := by
  cases r with
  | nx μ => exact fun B' σ' H' a => h B' σ' H' (e.trans a)
  | rt d dr => exact fun B' H' v a => h B' H' v (e.trans a)
  | bk μ => exact fun B' σ' H' a => h B' σ' H' (e.trans a)
  | ct μ => exact fun B' σ' H' a => h B' σ' H' (e.trans a)
  | bad => exact h
def sNil : MT := fun μ => .nx μ
def sSeq (s t : MT) : MT := fun μ => match s μ with
  | .nx μ' => t μ'
  | r => r
def sIf (m : M Bool) (s t : MT) : MT := fun μ => match m μ with
  | some (true, μ') => s μ'
  | some (false, μ') => t μ'
  | none => .bad
def sRet (m : M D) : MT := fun μ => match m μ with
  | some (d, μ') => .rt d μ'.dr
  | none => .bad
def sRetN : MT := fun μ => .rt .none μ.dr
def sDrop (m : M D) : MT := fun μ => match m μ with
  | some (_, μ') => .nx μ'
  | none => .bad
def sSet (i : Nat) (m : M D) : MT := fun μ => match m μ with
  | some (d, μ') => .nx (setS μ' i (.val d))
  | none => .bad
def sNew (i : Nat) (m : M (List D)) : MT := fun μ => match m μ with
  | some (ds, μ') => .nx (setS μ' i (.own ds))
  | none => .bad
def sAug (g : D → D → Option D) (i : Nat) (m : M D) : MT := fun μ => match μ.sl[i]? with
  | some (.val x) => (match m μ with
    | some (y, μ') => (match g x y with
      | some z => .nx (setS μ' i (.val z))
      | none => .bad)
    | none => .bad)
  | _ => .bad
def sBreak : MT := fun μ => .bk μ
def sCont : MT := fun μ => .ct μ
section
variable {X : Cx} {st : Stmt} {rest : List Stmt} {s t : MT} {e : Expr} {m : M D} {pos : Pos}
theorem ss_nil : DSs X [] sNil := ⟨_, pss_nil, fun c B σ H μ E r a => a B σ H (Ext.refl _) r⟩
theorem ok_seq {t1 t2 : TS} (h1 : OkS X.K t1 s) (h2 : OkS X.K t2 t) : OkS X.K (tSeq t1 t2) (sSeq s t) := by
  intro c B σ H μ E r a
  refine h1 c B σ H μ _ r ?_
  unfold sSeq at a
  cases q : s μ with
  | nx μ' =>
    rw [q] at a
    exact fun B' σ' H' e r' => h2 c B' σ' H' μ' E r' (a.ext e)
  | rt d dr => rw [q] at a; exact a
  | bk μ' => rw [q] at a; exact a
  | ct μ' => rw [q] at a; exact a
  | bad => rw [q] at a; exact a
theorem ss_cons (h1 : DS X st s) (h2 : DSs X rest t) : DSs X (st :: rest) (sSeq s t) := by
  obtain ⟨t1, p1, o1⟩ := h1.ex
  obtain ⟨t2, p2, o2⟩ := h2.ex
  exact ⟨_, pss_cons p1 p2, ok_seq o1 o2⟩
theorem ss_one (h : DS X st s) : DSs X [st] s := by
  obtain ⟨t, p, o⟩ := h.ex
  exact ⟨_, pss_one p, o⟩
theorem s_pass : DS X (.Pass pos) sNil := ⟨_, ps_pass, fun c B σ H μ E r a => a B σ H (Ext.refl _) r⟩
theorem s_break : DS X (.Break pos) sBreak := ⟨_, ps_break, fun c B σ H μ E r a => a B σ H (Ext.refl _) r⟩
theorem s_cont : DS X (.Continue pos) sCont := ⟨_, ps_continue, fun c B σ H μ E r a => a B σ H (Ext.refl _) r⟩
theorem s_doc {x j pos'} : DS X (.Expr (.Constant (.str x) j pos) pos') sNil := ⟨_, ps_doc, fun c B σ H μ E r a => a B σ H (Ext.refl _) r⟩
theorem s_expr (he : DE X e m) (hs : swapsWith e none pos.line X.env = pure false := by rfl) : DS X (.Expr e pos) (sDrop m) := by
  obtain ⟨t, p, o⟩ := he.ex
  refine ⟨_, ps_expr p hs, fun c B σ H μ E r a => ?_⟩
  unfold sDrop at a
  split at a
  · rename_i d μ' hm
    exact o c B σ H μ d μ' _ r hm fun B' H' v e' r' _ => a B' σ H' e' r'
  · exact a.elim
theorem s_ret (he : DE X e m) : DS X (.Return (some e) pos) (sRet m) := by
  obtain ⟨t, p, o⟩ := he.ex
  refine ⟨_, ps_ret p, fun c B σ H μ E r a => ?_⟩
  unfold sRet at a
  split at a
  · rename_i d μ' hm
    exact o c B σ H μ d μ' _ r hm fun B' H' v e' r' hv => a B' H' v e' r'.r0 hv
  · exact a.elim
theorem s_retN : DS X (.Return none pos) sRetN := ⟨_, ps_retN, fun c B σ H μ E r a => a B H _ (Ext.refl _) r.r0 .non⟩
theorem s_if {cnd : Expr} {a b : List Stmt} {mc : M Bool} (hc : DT X cnd mc) (ha : DSs X a s) (hb : DSs X b t) : DS X (.If cnd a b pos) (sIf mc s t) := by
  obtain ⟨tc, pc, oc⟩ := hc.ex
  obtain ⟨ta, pa, oa⟩ := ha.ex
  obtain ⟨tb, pb, ob⟩ := hb.ex
  refine ⟨_, ps_if pc pa pb, fun c B σ H μ E r h => ?_⟩
  unfold sIf at h
  split at h
  · rename_i μ' hm
    refine oc c B σ H μ _ μ' _ r hm fun B' H' e' r' => ?_
    rw [if_pos rfl]
    exact oa c B' σ H' μ' E r' (h.ext e')
  · rename_i μ' hm
    refine oc c B σ H μ _ μ' _ r hm fun B' H' e' r' => ?_
    rw [if_neg Bool.false_ne_true]
    exact ob c B' σ H' μ' E r' (h.ext e')
  · exact h.elim
theorem s_set {i : Nat} {x : Str} {pos' : Pos} (hN : X.N.Nodup) (he : DE X e m) (hi : X.N[i]? = some x := by rfl) (hx : Loc X.env.scope x := by first | exact Or.inl rfl | exact Or.inr rfl) (hs : swapsWith e (some (.Name x pos')) pos.line X.env = pure false := by rfl) (hf : X.fn x = true ∨ X.env.scope.names.lookup x = some .local := by first | exact .inl rfl | exact .inr rfl | assumption) :
    DS X (.Assign [.Name x pos'] e pos) (sSet i m) := by
  obtain ⟨t, p, o⟩ := he.ex
  refine ⟨_, ps_set (i := i) hN hi hx p hs hf, fun c B σ H μ E r a => ?_⟩
  unfold sSet at a
  split at a
  · rename_i d μ' hm
    exact o c B σ H μ d μ' _ r hm fun B' H' v e' r' hv => a B' _ H' e' (r'.putV hv)
  · exact a.elim
theorem s_new {i : Nat} {x : Str} {pos' : Pos} {mf : M (List D)} (hN : X.N.Nodup) (he : DF X e mf) (hi : X.N[i]? = some x := by rfl) (hx : Loc X.env.scope x := by first | exact Or.inl rfl | exact Or.inr rfl) (hs : swapsWith e (some (.Name x pos')) pos.line X.env = pure false := by rfl) (hf : X.fn x = true ∨ X.env.scope.names.lookup x = some .local := by first | exact .inl rfl | exact .inr rfl | assumption) :
    DS X (.Assign [.Name x pos'] e pos) (sNew i mf) := by
  obtain ⟨t, p, o⟩ := he.ex
  refine ⟨_, ps_set (i := i) hN hi hx p hs hf, fun c B σ H μ E r a => ?_⟩
  unfold sNew at a
  split at a
  · rename_i ds μ' hm
    exact o c B σ H μ ds μ' _ r hm fun B' H' q vs e' r' h2 h3 h4 h5 h6 => a B' _ H' e' (r'.putO h2 h3 h4 h6 h5)
  · exact a.elim
theorem s_aug {i : Nat} {x : Str} {op : Operator} {g : D → D → Option D} {f : Int → Int → Int} {pos' : Pos} (hN : X.N.Nodup) (he : DE X e m) (ho : PIp X op (ipI f)) (hg : ∀ a b z, g a b = some z → ∃ i j, a = .int i ∧ b = .int j ∧ z = .int (f i j)) (hi : X.N[i]? = some x := by rfl) (hx : Loc X.env.scope x := by first | exact Or.inl rfl | exact Or.inr rfl) (hf : X.fn x = true ∨ X.env.scope.names.lookup x = some .local := by first | exact .inl rfl | exact .inr rfl | assumption) :
    DS X (.AugAssign (.Name x pos') op e pos) (sAug g i m) := by
  obtain ⟨t, p, o⟩ := he.ex
  refine ⟨_, ps_aug (i := i) hN hi hx p ho hf, fun c B σ H μ E r a => ?_⟩
  unfold sAug at a
  split at a
  · rename_i d hd
    split at a
    · rename_i y μ' hm
      split at a
      · rename_i z hz
        obtain ⟨v, e1, e2⟩ := r.valAt hd
        obtain ⟨i1, j1, rfl, rfl, rfl⟩ := hg _ _ _ hz
        cases e2
        refine ⟨_, e1, o c B σ H μ _ μ' _ r hm fun B' H' w e' r' hw => ?_⟩
        cases hw
        exact ⟨_, _, rfl, rfl, a B' _ H' e' (r'.putV (.int _))⟩
      · exact a.elim
    · exact a.elim
  · exact a.elim
def addI : D → D → Option D
  | .int a, .int b => some (.int (a + b))
  | _, _ => none
theorem s_augAdd {i : Nat} {x : Str} {pos' : Pos} (hN : X.N.Nodup) (he : DE X e m) (hi : X.N[i]? = some x := by rfl) (hx : Loc X.env.scope x := by first | exact Or.inl rfl | exact Or.inr rfl) (hf : X.fn x = true ∨ X.env.scope.names.lookup x = some .local := by first | exact .inl rfl | exact .inr rfl | assumption) :
    DS X (.AugAssign (.Name x pos') .Add e pos) (sAug addI i m) := s_aug hN he ip_add (fun a b z h => by
      unfold addI at h
      split at h
      · cases h; exact ⟨_, _, rfl, rfl, rfl⟩
      · cases h) hi hx hf
theorem s_augSub {i : Nat} {x : Str} {pos' : Pos} (hN : X.N.Nodup) (he : DE X e m) (hi : X.N[i]? = some x := by rfl) (hx : Loc X.env.scope x := by first | exact Or.inl rfl | exact Or.inr rfl) (hf : X.fn x = true ∨ X.env.scope.names.lookup x = some .local := by first | exact .inl rfl | exact .inr rfl | assumption) :
    DS X (.AugAssign (.Name x pos') .Sub e pos) (sAug subD i m) := s_aug hN he ip_sub (fun a b z h => by
      unfold subD at h
      split at h
      · cases h; exact ⟨_, _, rfl, rfl, rfl⟩
      · cases h) hi hx hf
end

/-! ### while -/
def whileF (m : M Bool) (s : MT) : Nat → MT
  | 0 => fun _ => .bad
  | n + 1 => fun μ => match m μ with
    | some (true, μ1) => (match s μ1 with
      | .nx μ2 => whileF m s n μ2
      | .ct μ2 => whileF m s n μ2
      | .bk μ2 => .nx μ2
      | .rt d dr => .rt d dr
      | .bad => .bad)
    | some (false, μ1) => .nx μ1
    | none => .bad
def fuel : Nat := 1099511627776
def sWhile (m : M Bool) (s : MT) : MT := whileF m s fuel
section
variable {X : Cx} {pos : Pos}
theorem s_while {cnd : Expr} {body : List Stmt} {m : M Bool} {s : MT} (hp : PassesOwn (model X.prog X.w) X.A X.env X.xe) (hc : DT X cnd m) (hb : DSs X body s) : DS X (.While cnd body [] pos) (sWhile m s) := by
  obtain ⟨tc, pc, oc⟩ := hc.ex
  obtain ⟨tb, pb, ob⟩ := hb.ex
  refine ⟨_, ps_while hp pc pb, fun c B σ H μ E r a => ?_⟩
  refine ⟨fun n σ' H' => ∃ B' μ', Ext B B' ∧ Rel X.K c B' σ' H' μ' ∧ After X.K c B' (whileF m s n μ') E, ⟨fuel, B, μ, Ext.refl _, r, a⟩, ?_⟩
  rintro n σ1 H1 ⟨B1, μ1, e1, r1, a1⟩
  cases n with
  | zero => exact a1.elim
  | succ n =>
    unfold whileF at a1
    split at a1
    · rename_i μ2 hm
      refine oc c B1 σ1 H1 μ1 _ μ2 _ r1 hm fun B2 H2 e2 r2 => ?_
      rw [if_pos rfl]
      refine ⟨fun σ' H' => ∃ B' μ', Ext B B' ∧ Rel X.K c B' σ' H' μ' ∧ After X.K c B' (whileF m s n μ') E, fun σ' H' h => ⟨n, Nat.lt_succ_self n, h⟩, ?_⟩
      refine ob c B2 σ1 H2 μ2 _ r2 ?_
      cases q : s μ2 with
      | nx μ3 => rw [q] at a1; exact fun B3 σ3 H3 e3 r3 => ⟨B3, μ3, (e1.trans e2).trans e3, r3, a1.ext (e2.trans e3)⟩
      | ct μ3 => rw [q] at a1; exact fun B3 σ3 H3 e3 r3 => ⟨B3, μ3, (e1.trans e2).trans e3, r3, a1.ext (e2.trans e3)⟩
      | bk μ3 => rw [q] at a1; exact fun B3 σ3 H3 e3 r3 => a1 B3 σ3 H3 (e2.trans e3) r3
      | rt d dr => rw [q] at a1; exact fun B3 H3 v e3 r3 hv => a1 B3 H3 v (e2.trans e3) r3 hv
      | bad => rw [q] at a1; exact a1
    · rename_i μ2 hm
      refine oc c B1 σ1 H1 μ1 _ μ2 _ r1 hm fun B2 H2 e2 r2 => ?_
      rw [if_neg Bool.false_ne_true]
      exact a1 B2 σ1 H2 e2 r2
    · exact a1.elim
end

/-! ### what is walked -/
def Walk (K : PySem.W.Frag) (st : Option (Addr × Addr)) (ds : List D) (J : It) (B0 : Hp) : Prop := ∀ (c : C) (B : Hp) (σ : St) (H : Hp) (μ : MS), c.st = st → Ext B0 B → Rel K c B σ H μ →
  (∀ (i : Nat) (d : D), ds[i]? = some d → J.go i H ∧ ∀ x H', J.yld i H x H' → ∃ B', Ext B B' ∧ Rel K c B' σ H' μ ∧ Rp K st B' x d) ∧ J.stop ds.length H
def OkI (K : PySem.W.Frag) (w : TI) (m : M (List D)) : Prop := ∀ (c : C) (B : Hp) (σ : St) (H : Hp) (μ : MS) (ds : List D) (μ' : MS) (R : It → Hp → Prop), Rel K c B σ H μ → m μ = some (ds, μ') →
  (∀ B' H' J, Ext B B' → Rel K c B' σ H' μ' → Walk K c.st ds J B' → R J H') → w σ H R
structure DI (X : Cx) (tg e : Expr) (m : M (List D)) : Prop where
  ex : ∃ w, PI X tg e w ∧ OkI X.K w m
def chars (x : Str) : List D := x.cps.toList.map fun c => .str ⟨#[c]⟩
/-- a list's, a tuple's items, a text's signs -/
def items : D → Option (List D)
  | .list ds => some ds
  | .tuple ds => some ds
  | .str x => some (chars x)
  | _ => none
def mSeq (m : M D) : M (List D) := fun μ => (m μ).bind fun p => (items p.1).bind fun ds => some (ds, p.2)
section
variable {K : PySem.W.Frag} {st : Option (Addr × Addr)} {B0 : Hp}
theorem walk_list {a : Addr} {vs : List V} {ds : List D} (h : B0 a = some (.lst vs)) (r : RpA K st B0 vs ds) : Walk K st ds (Itl K a) B0 := by
  intro c B σ H μ hs e rel
  have hH : SqL K H a vs := SqL.of (rel.r0.ext _ _ (e _ _ h))
  refine ⟨fun i d hi => ?_, ⟨vs, hH, by rw [r.length]; exact Nat.le_refl _⟩⟩
  obtain ⟨v, h1, h2⟩ := r.get hi
  refine ⟨⟨vs, v, hH, h1⟩, fun x H' y => ?_⟩
  obtain ⟨rfl, y⟩ := y
  have := y vs hH
  rw [h1] at this; cases this
  exact ⟨B, Ext.refl _, rel, h2.mono e⟩
theorem walk_tup {a : Addr} {vs : List V} {ds : List D} (h : SqT K B0 a vs) (r : RpA K st B0 vs ds) : Walk K st ds (Itt K a) B0 := by
  intro c B σ H μ hs e rel
  have hH : SqT K H a vs := (e.trans rel.r0.ext).sqt h
  refine ⟨fun i d hi => ?_, ⟨vs, hH, by rw [r.length]; exact Nat.le_refl _⟩⟩
  obtain ⟨v, h1, h2⟩ := r.get hi
  refine ⟨⟨vs, v, hH, h1⟩, fun x H' y => ?_⟩
  obtain ⟨rfl, y⟩ := y
  have := y vs hH
  rw [h1] at this; cases this
  exact ⟨B, Ext.refl _, rel, h2.mono e⟩
theorem walk_str (x : Str) : Walk K st (chars x) (Its x) B0 := by
  intro c B σ H μ hs e rel
  refine ⟨fun i d hi => ?_, by show x.cps.size ≤ (chars x).length; simp [chars]⟩
  unfold chars at hi
  rw [List.getElem?_map] at hi
  cases q : x.cps.toList[i]? with
  | none => rw [q] at hi; cases hi
  | some c' =>
    rw [q] at hi; cases hi
    have hlt : i < x.cps.size := by
      have := (List.getElem?_eq_some_iff.mp q).1
      simpa using this
    refine ⟨hlt, fun v H' y => ?_⟩
    obtain ⟨rfl, c2, h1, rfl⟩ := y
    have : x.cps.toList[i]? = x.cps[i]? := by simp
    rw [this, h1] at q; cases q
    exact ⟨B, Ext.refl _, rel, .str _⟩
def intsR (lo : Int) (n : Nat) : List D := (List.range n).map fun i => .int (lo + (i : Nat))
theorem walk_range (lo : Int) (n : Nat) : Walk K st (intsR lo n) (Itr lo n) B0 := by
  intro c B σ H μ hs e rel
  refine ⟨fun i d hi => ?_, by show n ≤ (intsR lo n).length; simp [intsR]⟩
  unfold intsR at hi
  rw [List.getElem?_map] at hi
  have hlt : i < n := by
    by_cases h : i < n
    · exact h
    · rw [List.getElem?_eq_none (by simp; omega)] at hi; cases hi
  rw [List.getElem?_range hlt] at hi
  cases hi
  refine ⟨hlt, fun v H' y => ?_⟩
  obtain ⟨rfl, rfl⟩ := y
  exact ⟨B, Ext.refl _, rel, .int _⟩
def intsC (lo st : Int) (n : Nat) : List D := (List.range n).map fun i => .int (lo + (i : Nat) * st)
theorem walk_rangeC (lo s : Int) (n : Nat) : Walk K st (intsC lo s n) (Itc lo s n) B0 := by
  intro c B σ H μ hs e rel
  refine ⟨fun i d hi => ?_, by show n ≤ (intsC lo s n).length; simp [intsC]⟩
  unfold intsC at hi
  rw [List.getElem?_map] at hi
  have hlt : i < n := by
    by_cases h : i < n
    · exact h
    · rw [List.getElem?_eq_none (by simp; omega)] at hi; cases hi
  rw [List.getElem?_range hlt] at hi
  cases hi
  refine ⟨hlt, fun v H' y => ?_⟩
  obtain ⟨rfl, rfl⟩ := y
  exact ⟨B, Ext.refl _, rel, .int _⟩
end
section
variable {X : Cx} {tg e : Expr} {m : M D}
theorem PI.or {w w' : TI} (h : PI X tg e w) (h' : PI X tg e w') : PI X tg e (fun σ H R => w σ H R ∨ w' σ H R) :=
  ⟨fun pins s σ H R I hw => hw.elim (h.run pins s σ H R I) (h'.run pins s σ H R I)⟩
theorem i_seq (he : DE X e m) : DI X tg e (mSeq m) := by
  obtain ⟨t, p, o⟩ := he.ex
  refine ⟨_, PI.or (pi_list p) (PI.or (pi_tup p) (pi_str p)), fun c B σ H μ ds μ' R r hm k => ?_⟩
  unfold mSeq at hm
  simp only [Option.bind_eq_some_iff] at hm
  obtain ⟨⟨d, μ1⟩, h1, ds', h2, h3⟩ := hm
  cases h3
  unfold items at h2
  split at h2
  · rename_i xs hd
    cases h2
    have hd' : d = .list _ := hd
    subst hd'
    refine .inl (o c B σ H μ _ _ _ r h1 fun B' H' v e' r' hv => ?_)
    cases hv with
    | lst h3 h4 => exact ⟨_, rfl, ⟨_, SqL.of (r'.r0.ext _ _ h3)⟩, k B' H' _ e' r' (walk_list h3 h4)⟩
  · rename_i xs hd
    cases h2
    have hd' : d = .tuple _ := hd
    subst hd'
    refine .inr (.inl (o c B σ H μ _ _ _ r h1 fun B' H' v e' r' hv => ?_))
    cases hv with
    | tup h3 h4 => exact ⟨_, rfl, ⟨_, r'.r0.ext.sqt h3.sqt⟩, k B' H' _ e' r' (walk_tup h3.sqt h4)⟩
  · rename_i xs hd
    cases h2
    have hd' : d = .str _ := hd
    subst hd'
    refine .inr (.inr (o c B σ H μ _ _ _ r h1 fun B' H' v e' r' hv => ?_))
    cases hv
    exact ⟨_, rfl, k B' H' _ e' r' (walk_str _)⟩
  · cases h2
def rng1 : List D → Option (List D)
  | [.int j] => if -(2 ^ 62) ≤ j ∧ j < 2 ^ 62 then some (intsR 0 j.toNat) else none
  | _ => none
def rng2 : List D → Option (List D)
  | [.int i, .int j] => if -(2 ^ 62) ≤ i ∧ i < 2 ^ 62 ∧ -(2 ^ 62) ≤ j ∧ j < 2 ^ 62 then some (intsR i (j - i).toNat) else none
  | _ => none
theorem lka1 {K : PySem.W.Frag} {st : Option (Addr × Addr)} {B H : Hp} {vs : List V} {d : D} (h : LkA K st B H vs [d]) : ∃ x, vs = [x] ∧ Lk K st B H x d := by
  cases h with
  | cons h t => cases t; exact ⟨_, rfl, h⟩
theorem lka2 {K : PySem.W.Frag} {st : Option (Addr × Addr)} {B H : Hp} {vs : List V} {d e : D} (h : LkA K st B H vs [d, e]) : ∃ x y, vs = [x, y] ∧ Lk K st B H x d ∧ Lk K st B H y e := by
  cases h with
  | cons h t =>
    obtain ⟨y, rfl, h2⟩ := lka1 t
    exact ⟨_, y, rfl, h, h2⟩
theorem lka3 {K : PySem.W.Frag} {st : Option (Addr × Addr)} {B H : Hp} {vs : List V} {d e f : D} (h : LkA K st B H vs [d, e, f]) : ∃ x y z, vs = [x, y, z] ∧ Lk K st B H x d ∧ Lk K st B H y e ∧ Lk K st B H z f := by
  cases h with
  | cons h t =>
    obtain ⟨y, z, rfl, h2, h3⟩ := lka2 t
    exact ⟨_, y, z, rfl, h, h2, h3⟩
theorem i_range1 {a : Expr} {ma : M (List O)} {p pos : Pos} (hm : X.mg "range" = none) (ha : DA X [a] ma) (hg : Gl X "range" := by rfl) (hs : starEach [a] X.env = [(false, eval a X.env)] := by rfl) : DI X tg (.Call (.Name "range" p) [a] [] pos) (mCall rng1 ma) := by
  obtain ⟨t, pt, o⟩ := ha.ex
  refine ⟨_, pi_range1 hg hm pt hs, fun c B σ H μ ds μ' R r hmm k => ?_⟩
  obtain ⟨os, xs, h1, h2, h3⟩ := mCall_some hmm
  refine o c B σ H μ os μ' _ r h1 fun B' H' vs e' r' hv => ?_
  have hl := looks_ok r' hv h2
  unfold rng1 at h3
  split at h3
  · split at h3
    · rename_i hc
      cases h3
      obtain ⟨x, rfl, hx⟩ := lka1 hl
      exact ⟨_, by rw [hx.int], hc.1, hc.2, k B' H' _ e' r' (walk_range _ _)⟩
    · cases h3
  · cases h3
theorem i_range2 {a b : Expr} {ma : M (List O)} {p pos : Pos} (hm : X.mg "range" = none) (ha : DA X [a, b] ma) (hg : Gl X "range" := by rfl) (hs : starEach [a, b] X.env = [(false, eval a X.env), (false, eval b X.env)] := by rfl) (hs2 : starEach [b] X.env = [(false, eval b X.env)] := by rfl) : DI X tg (.Call (.Name "range" p) [a, b] [] pos) (mCall rng2 ma) := by
  obtain ⟨t, pt, o⟩ := ha.ex
  refine ⟨_, pi_range2 hg hm pt hs hs2, fun c B σ H μ ds μ' R r hmm k => ?_⟩
  obtain ⟨os, xs, h1, h2, h3⟩ := mCall_some hmm
  refine o c B σ H μ os μ' _ r h1 fun B' H' vs e' r' hv => ?_
  have hl := looks_ok r' hv h2
  unfold rng2 at h3
  split at h3
  · split at h3
    · rename_i hc
      cases h3
      obtain ⟨x, y, rfl, hx, hy⟩ := lka2 hl
      exact ⟨_, _, by rw [hx.int, hy.int], hc, k B' H' _ e' r' (walk_range _ _)⟩
    · cases h3
  · cases h3
end

/-! ### targets -/
def OkG (K : PySem.W.Frag) (g : TG) (m : D → MS → Option MS) (is : List Nat) : Prop := ∀ (c : C) (B : Hp) (σ : St) (H : Hp) (μ : MS) (v : V) (d : D) (μ' : MS) (Q : St → Hp → Prop), Rel K c B σ H μ → Rp K c.st B v d → m d μ = some μ' →
  (∀ σ', Rel K c B σ' H μ' → (∀ vs : List Nat, (∀ i ∈ is, i ∈ vs) → wipe σ' vs = wipe σ vs) → Q σ' H) → g v σ H Q
structure DG (X : Cx) (tg : Expr) (m : D → MS → Option MS) (is : List Nat) : Prop where
  ex : ∃ g, PG X tg g ∧ OkG X.K g m is
def OkGs (K : PySem.W.Frag) (g : TGs) (m : List D → MS → Option MS) (is : List Nat) : Prop := ∀ (c : C) (B : Hp) (σ : St) (H : Hp) (μ : MS) (vs : List V) (ds : List D) (μ' : MS) (Q : St → Hp → Prop), Rel K c B σ H μ → RpA K c.st B vs ds → m ds μ = some μ' →
  (∀ σ', Rel K c B σ' H μ' → (∀ vs : List Nat, (∀ i ∈ is, i ∈ vs) → wipe σ' vs = wipe σ vs) → Q σ' H) → g vs σ H Q
structure DGs (X : Cx) (tgs : List Expr) (m : List D → MS → Option MS) (is : List Nat) : Prop where
  ex : ∃ g, PGs X tgs g ∧ OkGs X.K g m is
def gN (i : Nat) : D → MS → Option MS := fun d μ => some (setS μ i (.val d))
def gsNil : List D → MS → Option MS
  | [], μ => some μ
  | _ :: _, _ => none
def gsCons (m : D → MS → Option MS) (n : List D → MS → Option MS) : List D → MS → Option MS
  | [], _ => none
  | d :: ds, μ => (m d μ).bind fun μ' => n ds μ'
def gT (n : Nat) (m : List D → MS → Option MS) : D → MS → Option MS
  | .tuple ds, μ => if ds.length = n then m ds μ else none
  | _, _ => none
theorem wipe_set {i : Nat} {x : Option V} {σ : St} : ∀ {vs : List Nat}, i ∈ vs → wipe (σ.set i x) vs = wipe σ vs
  | [], h => by cases h
  | v :: vs, h => by
    unfold wipe
    by_cases hv : i ∈ vs
    · rw [wipe_set hv]
    · have : v = i := by
        rcases List.mem_cons.mp h with e | e
        · exact e.symm
        · exact absurd e hv
      subst this
      have aux : ∀ {us : List Nat}, v ∉ us → wipe (σ.set v x) us = (wipe σ us).set v x := by
        intro us
        induction us with
        | nil => intro _; rfl
        | cons u us ih =>
          intro hu
          unfold wipe
          rw [ih (fun q => hu (List.mem_cons_of_mem _ q)), List.set_comm]
          exact fun q => hu (by rw [q]; exact List.mem_cons_self)
      rw [aux hv, List.set_set]
section
variable {X : Cx} {pos : Pos}
theorem g_name (i : Nat) {x : Str} (hN : X.N.Nodup) (hi : X.N[i]? = some x := by rfl) (hx : Loc X.env.scope x := by first | exact Or.inl rfl | exact Or.inr rfl) (hf : X.fn x = true ∨ X.env.scope.names.lookup x = some .local := by first | exact .inl rfl | exact .inr rfl | assumption) : DG X (.Name x pos) (gN i) [i] :=
  ⟨_, pg_name hN hi hx hf, fun c B σ H μ v d μ' Q r hv hm k => by
    cases hm
    exact k _ (r.putV hv) fun vs hs => wipe_set (hs i (by simp))⟩
theorem gs_nil : DGs X [] gsNil [] := ⟨_, pgs_nil, fun c B σ H μ vs ds μ' Q r hv hm k => by
  cases hv with
  | nil => cases hm; exact ⟨rfl, k σ r fun _ _ => rfl⟩
  | cons _ _ => cases hm⟩
theorem gs_cons {e : Expr} {es : List Expr} {m : D → MS → Option MS} {n : List D → MS → Option MS} {is js : List Nat} (h1 : DG X e m is) (h2 : DGs X es n js)
    (hs : (assignEach (e :: es) X.env).map (·.2) = assign e X.env :: (assignEach es X.env).map (·.2) := by rfl) : DGs X (e :: es) (gsCons m n) (is ++ js) := by
  obtain ⟨g1, p1, o1⟩ := h1.ex
  obtain ⟨g2, p2, o2⟩ := h2.ex
  refine ⟨_, pgs_cons p1 p2 hs, fun c B σ H μ vs ds μ' Q r hv hm k => ?_⟩
  cases hv with
  | nil => cases hm
  | cons hv1 hv2 =>
    simp only [gsCons, Option.bind_eq_some_iff] at hm
    obtain ⟨μ1, h3, h4⟩ := hm
    refine ⟨_, _, rfl, o1 c B σ H μ _ _ μ1 _ r hv1 h3 fun σ' r' w' => ?_⟩
    refine o2 c B σ' H μ1 _ _ μ' _ r' hv2 h4 fun σ'' r'' w'' => ?_
    exact k σ'' r'' fun vs hs' => (w'' vs fun i hi => hs' i (List.mem_append_right _ hi)).trans (w' vs fun i hi => hs' i (List.mem_append_left _ hi))
theorem g_tup {es : List Expr} {k : Nat} {m : List D → MS → Option MS} {n : Nat} {is : List Nat} (hc : X.calm = true) (h : DGs X es m is)
    (hn : (assignEach es X.env).length = n := by rfl) (hst : (assignEach es X.env).findIdx? (·.1) = none := by rfl) : DG X (.Tuple es k pos) (gT n m) is := by
  obtain ⟨g, p, o⟩ := h.ex
  refine ⟨_, pg_tup hc p hn hst, fun c B σ H μ v d μ' Q r hv hm kk => ?_⟩
  unfold gT at hm
  split at hm
  · split at hm
    · rename_i hl
      cases hv with
      | tup h3 h4 => exact ⟨_, _, rfl, r.r0.ext.sqt h3.sqt, by rw [h4.length]; exact hl, o c B σ H μ _ _ μ' Q r h4 hm kk⟩
    · cases hm
  · cases hm
/-- a, b = a value that is unpacked -/
def sUnp (g : D → MS → Option MS) (m : M D) : MT := fun μ => match m μ with
  | some (d, μ') => (match g d μ' with
    | some μ2 => .nx μ2
    | none => .bad)
  | none => .bad
theorem s_asg {tg e : Expr} {m : M D} {g : D → MS → Option MS} {is : List Nat} (he : DE X e m) (hg : DG X tg g is) (hs : swapsWithSole [tg] e pos.line X.env = pure false := by rfl) (hw : swappedStores [tg] e X.env = pure none := by rfl)
    (h1 : (assignEach [tg] X.env).map (·.2) = [assign tg X.env] := by rfl) : DS X (.Assign [tg] e pos) (sUnp g m) := by
  obtain ⟨t, p, o⟩ := he.ex
  obtain ⟨g', p', o'⟩ := hg.ex
  refine ⟨_, ps_asg p p' hs hw h1, fun c B σ H μ E r a => ?_⟩
  unfold sUnp at a
  split at a
  · rename_i d μ' hm
    split at a
    · rename_i μ2 hg'
      exact o c B σ H μ d μ' _ r hm fun B' H' v e' r' hv => o' c B' σ H' μ' v d μ2 _ r' hv hg' fun σ' r'' _ => a B' σ' H' e' r''
    · exact a.elim
  · exact a.elim
end

/-! ### for -/
def loopF (g : D → MS → Option MS) (s : MT) : List D → MT
  | [] => fun μ => .nx μ
  | d :: ds => fun μ => match g d μ with
    | some μ1 => (match s μ1 with
      | .nx μ2 => loopF g s ds μ2
      | .ct μ2 => loopF g s ds μ2
      | .bk μ2 => .nx μ2
      | .rt d dr => .rt d dr
      | .bad => .bad)
    | none => .bad
def sFor (m : M (List D)) (g : D → MS → Option MS) (s : MT) : MT := fun μ => match m μ with
  | some (ds, μ') => loopF g s ds μ'
  | none => .bad
section
variable {X : Cx} {pos : Pos}
theorem s_for {tg iter : Expr} {body : List Stmt} {m : M (List D)} {g : D → MS → Option MS} {is : List Nat} {s : MT} (hp : PassesOwn (model X.prog X.w) X.A X.env X.xe) (hc : X.calm = true) (hi : DI X tg iter m) (hg : DG X tg g is) (hb : DSs X body s)
    (hs : ∀ x, foldedSetIterable iter X.env x = pure x := by intro _; rfl) : DS X (.For tg iter body [] pos) (sFor m g s) := by
  obtain ⟨w, pw, ow⟩ := hi.ex
  obtain ⟨g', pg, og⟩ := hg.ex
  obtain ⟨tb, pb, ob⟩ := hb.ex
  refine ⟨_, ps_for hp hc pw pg pb hs, fun c B σ H μ E r a => ?_⟩
  unfold sFor at a
  split at a
  · rename_i ds μ' hm
    refine ow c B σ H μ ds μ' _ r hm fun B1 H1 J e1 r1 wk => ?_
    refine ⟨fun i n σ' H' => n = ds.length - i ∧ i ≤ ds.length ∧ ∃ B' μ2, Ext B1 B' ∧ Rel X.K c B' σ' H' μ2 ∧ After X.K c B' (loopF g s (ds.drop i) μ2) E, ⟨ds.length, by simp, Nat.zero_le _, B1, μ', Ext.refl _, r1, by rw [List.drop_zero]; exact a.ext e1⟩, ?_⟩
    rintro i n σ2 H2 ⟨rfl, hi2, B2, μ2, e2, r2, a2⟩
    obtain ⟨w1, w2⟩ := wk c B2 σ2 H2 μ2 rfl e2 r2
    by_cases hlt : i < ds.length
    · obtain ⟨d, hd⟩ : ∃ d, ds[i]? = some d := ⟨ds[i], by simp [hlt]⟩
      have hdr : ds.drop i = d :: ds.drop (i + 1) := by
        rw [List.drop_eq_getElem_cons hlt]
        congr 1
        simpa [hlt] using hd
      rw [hdr] at a2
      simp only [loopF] at a2
      obtain ⟨go, yl⟩ := w1 i d hd
      refine .inr ⟨go, fun σ' H' => i + 1 ≤ ds.length ∧ ∃ B' μ2, Ext B1 B' ∧ Rel X.K c B' σ' H' μ2 ∧ After X.K c B' (loopF g s (ds.drop (i + 1)) μ2) E, fun σ' H' h => ⟨ds.length - (i + 1), by omega, rfl, h.1, h.2⟩, fun x H' hy => ?_⟩
      obtain ⟨B3, e3, r3, hx⟩ := yl x H' hy
      split at a2
      · rename_i μ3 hg3
        refine og c B3 σ2 H' μ2 x d μ3 _ r3 hx hg3 fun σ4 r4 _ => ?_
        refine ob c B3 σ4 H' μ3 _ r4 ?_
        cases q : s μ3 with
        | nx μ5 => rw [q] at a2; exact fun B5 σ5 H5 e5 r5 => ⟨hlt, B5, μ5, (e2.trans e3).trans e5, r5, a2.ext (e3.trans e5)⟩
        | ct μ5 => rw [q] at a2; exact fun B5 σ5 H5 e5 r5 => ⟨hlt, B5, μ5, (e2.trans e3).trans e5, r5, a2.ext (e3.trans e5)⟩
        | bk μ5 => rw [q] at a2; exact fun B5 σ5 H5 e5 r5 => a2 B5 σ5 H5 (e3.trans e5) r5
        | rt d dr => rw [q] at a2; exact fun B5 H5 v e5 r5 hv => a2 B5 H5 v (e3.trans e5) r5 hv
        | bad => rw [q] at a2; exact a2
      · exact a2.elim
    · have hi3 : i = ds.length := by omega
      subst hi3
      rw [List.drop_length] at a2
      exact .inl ⟨w2, a2 B2 σ2 H2 (Ext.refl _) r2⟩
  · exact a.elim
end
end Mi
/-! Mi, fifth part: comprehensions, lists of our own, calls of defs. -/
namespace Mi
open PySem PySem.Spec PyProof.Rows L2

/-! ### an object that is ours and must stay -/
def C.pin (c : C) (p : Addr) (o : HO) : C := { c with H0 := upd c.H0 p o }
section
variable {K : PySem.W.Frag} {c : C} {B H : Hp} {σ : St} {μ : MS} {p : Addr} {o : HO}
theorem Rel0.noSt {dr : Dr} (r : Rel0 c B H dr) (h0 : c.H0 p = none) : ¬ IsSt c p := fun s => (s.some r.dr).2.2 h0
theorem Rel.pin (r : Rel K c B σ H μ) (h : H p = some o) (hb : B p = none) (h0 : c.H0 p = none) (n : NoOwn σ μ p) : Rel K (c.pin p o) B σ H μ := by
  refine ⟨⟨r.r0.ext, fun x y e => ?_, fun a u e s => ?_, fun a u e => ?_, r.r0.b0⟩, r.len, fun i s hs => ?_, r.sep⟩
  · obtain ⟨h1, h2, h3, h4, h5, h6, h7⟩ := r.r0.dr x y e
    refine ⟨h1, h2, h3, h4, h5, ?_, ?_⟩
    · show upd c.H0 p o x ≠ none
      have : x ≠ p := fun z => by subst z; exact h6 h0
      rw [upd_ne this]; exact h6
    · show upd c.H0 p o y ≠ none
      have : y ≠ p := fun z => by subst z; exact h7 h0
      rw [upd_ne this]; exact h7
  · have e' : upd c.H0 p o a = some u := e
    by_cases ha : a = p
    · subst ha; rw [upd_same] at e'; cases e'; exact h
    · rw [upd_ne ha] at e'; exact r.r0.fr a u e' s
  · rcases r.r0.nw a u e with q | q
    · exact .inl q
    · refine .inr ?_
      show upd c.H0 p o a = none
      have : a ≠ p := fun z => by subst z; rw [hb] at e; cases e
      rw [upd_ne this]; exact q
  · have q := r.sl i s hs
    cases s with
    | un => trivial
    | val d => exact q
    | ow ds =>
      obtain ⟨a, vs, h1, h2, h3, h4, h5⟩ := q
      refine ⟨a, vs, h1, h2, h3, ?_, h5⟩
      show upd c.H0 p o a = none
      have : a ≠ p := fun z => by subst z; exact n i ds hs h1
      rw [upd_ne this]; exact h4
theorem Rel.unpin (r : Rel K (c.pin p o) B σ H μ) (h0 : c.H0 p = none) (hb0 : c.B0 p = none) (ns : ¬ IsSt c p) : Rel K c B σ H μ ∧ H p = some o ∧ B p = none ∧ NoOwn σ μ p := by
  have e0 : (c.pin p o).H0 p = some o := by show upd c.H0 p o p = some o; rw [upd_same]
  have hp : H p = some o := r.r0.fr p o e0 ns
  have back : ∀ a, (c.pin p o).H0 a = none → c.H0 a = none ∧ a ≠ p := fun a e => by
    have e' : upd c.H0 p o a = none := e
    have na : a ≠ p := fun z => by subst z; rw [upd_same] at e'; cases e'
    rw [upd_ne na] at e'
    exact ⟨e', na⟩
  refine ⟨⟨⟨r.r0.ext, fun x y e => ?_, fun a u e s => ?_, fun a u e => ?_, r.r0.b0⟩, r.len, fun i s hs => ?_, r.sep⟩, hp, ?_, fun i ds hi hs => ?_⟩
  · obtain ⟨h1, h2, h3, h4, h5, h6, h7⟩ := r.r0.dr x y e
    have nx : x ≠ p := fun z => by subst z; exact ns ⟨_, _, e, .inl rfl⟩
    have ny : y ≠ p := fun z => by subst z; exact ns ⟨_, _, e, .inr rfl⟩
    have h6' : upd c.H0 p o x ≠ none := h6
    have h7' : upd c.H0 p o y ≠ none := h7
    rw [upd_ne nx] at h6'
    rw [upd_ne ny] at h7'
    exact ⟨h1, h2, h3, h4, h5, h6', h7'⟩
  · refine r.r0.fr a u ?_ s
    show upd c.H0 p o a = some u
    rw [upd_ne (ne_of_none e h0)]; exact e
  · rcases r.r0.nw a u e with q | q
    · exact .inl q
    · exact .inr (back a q).1
  · have q := r.sl i s hs
    cases s with
    | un => trivial
    | val d => exact q
    | ow ds =>
      obtain ⟨a, vs, h1, h2, h3, h4, h5⟩ := q
      exact ⟨a, vs, h1, h2, h3, (back a h4).1, h5⟩
  · cases q : B p with
    | none => rfl
    | some u =>
      rcases r.r0.nw p u q with z | z
      · have z' : c.B0 p = some u := z
        rw [hb0] at z'; cases z'
      · exact absurd rfl (back p z).2
  · obtain ⟨a, vs, h1, h2, h3, h4, h5⟩ := r.owAt hi
    rw [hs] at h1; cases h1
    exact (back _ h4).2 rfl
end

/-! ### a comprehension's own slots -/
def wipeS (μ : MS) (vs : List Nat) : MS := { μ with sl := vs.foldr (fun v l => l.set v .un) μ.sl }
theorem wipeS_cons (μ : MS) (v : Nat) (vs : List Nat) : wipeS μ (v :: vs) = setS (wipeS μ vs) v .un := rfl
section
variable {K : PySem.W.Frag} {c : C} {B H : Hp} {σ : St} {μ : MS}
theorem Rel.wipe (r : Rel K c B σ H μ) : ∀ vs : List Nat, Rel K c B (wipe σ vs) H (wipeS μ vs)
  | [] => r
  | v :: vs => by
    rw [wipeS_cons]
    exact (Rel.wipe r vs).put (fun _ => trivial) fun _ _ _ e => by cases e
theorem wipe_idem (σ : St) : ∀ vs : List Nat, wipe (wipe σ vs) vs = wipe σ vs := fun vs => by
  have aux : ∀ us : List Nat, (∀ u ∈ us, u ∈ vs) → wipe (wipe σ us) vs = wipe σ vs := by
    intro us
    induction us with
    | nil => intro _; rfl
    | cons u us ih =>
      intro h
      show wipe ((wipe σ us).set u none) vs = _
      rw [wipe_set (h u List.mem_cons_self)]
      exact ih fun x hx => h x (List.mem_cons_of_mem _ hx)
  exact aux vs fun _ h => h
theorem wipe_get {i : Nat} : ∀ {vs : List Nat}, i ∉ vs → (L2.wipe σ vs)[i]? = σ[i]?
  | [], _ => rfl
  | v :: vs, h => by
    show ((L2.wipe σ vs).set v none)[i]? = _
    rw [List.getElem?_set_ne (fun e => h (by rw [e]; exact List.mem_cons_self))]
    exact wipe_get fun q => h (List.mem_cons_of_mem _ q)
theorem wipeS_get {i : Nat} {s : Sl} : ∀ {vs : List Nat}, i ∈ vs → (wipeS μ vs).sl[i]? = some s → s = .un
  | [], h, _ => by cases h
  | v :: vs, h, e => by
    rw [wipeS_cons] at e
    have e' : ((wipeS μ vs).sl.set v .un)[i]? = some s := e
    by_cases hv : v = i
    · subst hv
      have hl : v < (wipeS μ vs).sl.length := by
        have := (List.getElem?_eq_some_iff.mp e').1
        simpa using this
      rw [List.getElem?_set_self hl] at e'
      exact (Option.some.inj e').symm
    · rw [List.getElem?_set_ne hv] at e'
      rcases List.mem_cons.mp h with q | q
      · exact absurd q.symm hv
      · exact wipeS_get q e'
/-- the slots' values behind a comprehension are those ahead of it -/
theorem Rel.unwipe {vs : List Nat} (r : Rel K c B (L2.wipe σ vs) H (wipeS μ vs)) : Rel K c B σ H (wipeS μ vs) := by
  refine ⟨r.r0, by rw [← r.len, wipe_length], fun i s hs => ?_, fun i j di dj nij hi hj => ?_⟩
  · by_cases hi : i ∈ vs
    · rw [wipeS_get hi hs]; trivial
    · have q := r.sl i s hs
      cases s with
      | un => trivial
      | val d =>
        obtain ⟨v, h1, h2⟩ := q
        exact ⟨v, by rw [← wipe_get hi]; exact h1, h2⟩
      | ow ds =>
        obtain ⟨p, vs', h1, h2⟩ := q
        exact ⟨p, vs', by rw [← wipe_get hi]; exact h1, h2⟩
  · have ni : i ∉ vs := fun h => by have := wipeS_get h hi; cases this
    have nj : j ∉ vs := fun h => by have := wipeS_get h hj; cases this
    have := r.sep i j di dj nij hi hj
    rw [wipe_get ni, wipe_get nj] at this
    exact this
end

/-- the values that the comprehension's names had ahead of it (lists of ours are forgotten) -/
def restS (μ0 : MS) : List Nat → MS → MS
  | [], μ => μ
  | v :: vs, μ => match μ0.sl[v]? with
    | some (.val d) => restS μ0 vs (setS μ v (.val d))
    | _ => restS μ0 vs μ
theorem Rel.rest {K : PySem.W.Frag} {c : C} {B0 B H0 H : Hp} {σ : St} {μ0 : MS} (r0 : Rel K c B0 σ H0 μ0) (e : Ext B0 B) : ∀ {vs : List Nat} {μ : MS}, Rel K c B σ H μ → Rel K c B σ H (restS μ0 vs μ)
  | [], μ, r => r
  | v :: vs, μ, r => by
    unfold restS
    split
    · rename_i d hd
      obtain ⟨x, h1, h2⟩ := r0.valAt hd
      exact Rel.rest r0 e (r.same (fun _ => ⟨x, h1, h2.mono e⟩) fun _ z => by cases z)
    · exact Rel.rest r0 e r
theorem NoOwn.rest {σ : St} {p : Addr} {μ0 : MS} : ∀ {vs : List Nat} {μ : MS}, NoOwn σ μ p → NoOwn σ (restS μ0 vs μ) p
  | [], μ, r => r
  | v :: vs, μ, r => by
    unfold restS
    split
    · rename_i d hd
      refine NoOwn.rest fun i di hi => ?_
      by_cases hv : v = i
      · subst hv
        have hl : v < μ.sl.length := by
          have := (List.getElem?_eq_some_iff.mp hi).1
          simpa [setS] using this
        rw [show (setS μ v (.val d)).sl = μ.sl.set v (.val d) from rfl, List.getElem?_set_self hl] at hi
        cases hi
      · rw [show (setS μ v (.val d)).sl = μ.sl.set v (.val d) from rfl, List.getElem?_set_ne hv] at hi
        exact r i di hi
    · exact NoOwn.rest r
/-! ### [e for x in xs if t] -/
def tYesM : M Bool := fun μ => some (true, μ)
def loopC (g : D → MS → Option MS) (t : M Bool) (m : M D) (vs : List Nat) : List D → List D → MS → Option (List D × MS)
  | [], acc, μ => some (acc, μ)
  | d :: ds, acc, μ => (g d μ).bind fun μ1 => (t μ1).bind fun p => if p.1 = true then (m p.2).bind fun q => if acc.length < lineN then loopC g t m vs ds (acc ++ [q.1]) (wipeS q.2 vs) else none else loopC g t m vs ds acc (wipeS p.2 vs)
def mLc (mi : M (List D)) (g : D → MS → Option MS) (t : M Bool) (m : M D) (vs : List Nat) : M (List D) := fun μ => (mi μ).bind fun p => (loopC g t m vs p.1 [] (wipeS p.2 vs)).bind fun q => some (q.1, restS p.2 vs q.2)
/-- readings made of mirrors -/
def tE (K : PySem.W.Frag) (m : M D) : TE := fun σ H Q => ∃ c B μ d μ', Rel K c B σ H μ ∧ m μ = some (d, μ') ∧ Post K c B σ μ' d Q
def tT (K : PySem.W.Frag) (m : M Bool) : TT := fun σ H Q => ∃ c B μ b μ', Rel K c B σ H μ ∧ m μ = some (b, μ') ∧ ∀ B' H', Ext B B' → Rel K c B' σ H' μ' → Q b H'
def tG (K : PySem.W.Frag) (m : D → MS → Option MS) (is : List Nat) : TG := fun v σ H Q => ∃ c B μ d μ', Rel K c B σ H μ ∧ Rp K c.st B v d ∧ m d μ = some μ' ∧ ∀ σ', Rel K c B σ' H μ' → (∀ vs : List Nat, (∀ i ∈ is, i ∈ vs) → L2.wipe σ' vs = L2.wipe σ vs) → Q σ' H
def tI (K : PySem.W.Frag) (m : M (List D)) : TI := fun σ H R => ∃ c B μ ds μ', Rel K c B σ H μ ∧ m μ = some (ds, μ') ∧ ∀ B' H' J, Ext B B' → Rel K c B' σ H' μ' → Walk K c.st ds J B' → R J H'
section
variable {X : Cx} {e tg : Expr}
theorem DE.pe {m : M D} (h : DE X e m) : PE X e (tE X.K m) := by
  obtain ⟨t, p, o⟩ := h.ex
  exact ⟨fun pins s σ H Q I ⟨c, B, μ, d, μ', r, hm, k⟩ => p.run pins s σ H Q I (o c B σ H μ d μ' Q r hm k)⟩
theorem DT.pt {m : M Bool} (h : DT X e m) : PT X e (tT X.K m) := by
  obtain ⟨t, p, o⟩ := h.ex
  exact ⟨fun pins s σ H Q I ⟨c, B, μ, d, μ', r, hm, k⟩ => p.run pins s σ H Q I (o c B σ H μ d μ' Q r hm k)⟩
theorem DG.pg {m : D → MS → Option MS} {is : List Nat} (h : DG X tg m is) : PG X tg (tG X.K m is) := by
  obtain ⟨g, p, o⟩ := h.ex
  exact ⟨fun pins s σ H v u Q I rv ⟨c, B, μ, d, μ', r, hv, hm, k⟩ => p.run pins s σ H v u Q I rv (o c B σ H μ v d μ' Q r hv hm k)⟩
theorem DI.pi {m : M (List D)} (h : DI X tg e m) : PI X tg e (tI X.K m) := by
  obtain ⟨w, p, o⟩ := h.ex
  exact ⟨fun pins s σ H R I ⟨c, B, μ, d, μ', r, hm, k⟩ => p.run pins s σ H R I (o c B σ H μ d μ' R r hm k)⟩
/-- tests of a clause -/
structure DTs (X : Cx) (ifs : List Expr) (m : M Bool) : Prop where
  ex : ∃ t, PTs X ifs t ∧ OkT X.K t m
theorem ts_nil : DTs X [] tYesM := ⟨_, pts_nil, fun c B σ H μ b μ' Q r hm k => by cases hm; exact k B H (Ext.refl _) r⟩
theorem ts_one {m : M Bool} (h : DT X e m) : DTs X [e] m := by
  obtain ⟨t, p, o⟩ := h.ex
  exact ⟨t, pts_one p, o⟩
theorem DTs.pts {ifs : List Expr} {m : M Bool} (h : DTs X ifs m) : PTs X ifs (tT X.K m) := by
  obtain ⟨t, p, o⟩ := h.ex
  exact ⟨fun pins s σ H Q I ⟨c, B, μ, d, μ', r, hm, k⟩ => p.run pins s σ H Q I (o c B σ H μ d μ' Q r hm k)⟩
end
theorem ok_lc {K : PySem.W.Frag} {mi : M (List D)} {g : D → MS → Option MS} {t : M Bool} {m : M D} {vs is : List Nat} (hs : ∀ i ∈ is, i ∈ vs) :
    OkF K (tLc (tI K mi) (tG K g is) (tT K t) (tE K m) vs) (mLc mi g t m vs) := by
  intro c B σ H μ out μ' Q r hm k
  unfold mLc at hm
  simp only [Option.bind_eq_some_iff] at hm
  obtain ⟨⟨ds, μ1⟩, h1, ⟨out', μ9⟩, h2, h9⟩ := hm
  have h9' : out' = out ∧ restS μ1 vs μ9 = μ' := by
    have := Option.some.inj h9
    exact ⟨congrArg Prod.fst this, congrArg Prod.snd this⟩
  obtain ⟨e9, e9'⟩ := h9'
  subst e9
  refine ⟨c, B, μ, ds, μ1, r, h1, fun B1 H1 J e1 r1 wk Dl hD => ?_⟩
  obtain ⟨f0, fb⟩ := r1.r0.fresh hD
  have fb0 : c.B0 Dl = none := r1.r0.b0.none fb
  have ns : ¬ IsSt c Dl := r1.r0.noSt f0
  have start : Rel K (c.pin Dl (.lst [])) B1 (L2.wipe σ vs) (upd H1 Dl (.lst [])) (wipeS μ1 vs) := by
    have q := (r1.hide (o := .lst []) hD)
    exact (q.pin upd_same fb f0 (r1.noOwn hD)).wipe vs
  refine ⟨fun i n H' => n = ds.length - i ∧ i ≤ ds.length ∧ ∃ B2 μ2 acc vacc, Ext B1 B2 ∧ Rel K (c.pin Dl (.lst vacc)) B2 (L2.wipe σ vs) H' (wipeS μ2 vs) ∧ RpA K c.st B2 vacc acc ∧ loopC g t m vs (ds.drop i) acc (wipeS μ2 vs) = some (out', μ9),
    ⟨ds.length, by simp, Nat.zero_le _, B1, μ1, [], [], Ext.refl _, start, .nil, by rw [List.drop_zero]; exact h2⟩, ?_⟩
  rintro i n H2 ⟨rfl, hi2, B2, μ2, acc, vacc, e2, r2, ra, a2⟩
  obtain ⟨w1, w2⟩ := wk (c.pin Dl (.lst vacc)) B2 _ H2 (wipeS μ2 vs) rfl e2 r2
  by_cases hlt : i < ds.length
  · obtain ⟨d, hd⟩ : ∃ d, ds[i]? = some d := ⟨ds[i], by simp [hlt]⟩
    have hdr : ds.drop i = d :: ds.drop (i + 1) := by
      rw [List.drop_eq_getElem_cons hlt]
      congr 1
      simpa [hlt] using hd
    rw [hdr] at a2
    simp only [loopC, Option.bind_eq_some_iff] at a2
    obtain ⟨μ3, g3, ⟨b, μ4⟩, t4, a4⟩ := a2
    obtain ⟨go, yl⟩ := w1 i d hd
    refine .inr ⟨go, fun H' => i + 1 ≤ ds.length ∧ ∃ B2 μ2 acc vacc, Ext B1 B2 ∧ Rel K (c.pin Dl (.lst vacc)) B2 (L2.wipe σ vs) H' (wipeS μ2 vs) ∧ RpA K c.st B2 vacc acc ∧ loopC g t m vs (ds.drop (i + 1)) acc (wipeS μ2 vs) = some (out', μ9),
      fun H' h => ⟨ds.length - (i + 1), by omega, rfl, h.1, h.2⟩, fun x H' hy => ?_⟩
    obtain ⟨B3, e3, r3, hx⟩ := yl x H' hy
    refine ⟨c.pin Dl (.lst vacc), B3, wipeS μ2 vs, d, μ3, r3, hx, g3, fun σ4 r4 w4 => ⟨?_, ?_⟩⟩
    · rw [w4 vs hs, wipe_idem]
    refine ⟨c.pin Dl (.lst vacc), B3, μ3, b, μ4, r4, t4, fun B5 H5 e5 r5 => ?_⟩
    have wσ : L2.wipe σ4 vs = L2.wipe σ vs := by rw [w4 vs hs, wipe_idem]
    cases b with
    | false =>
      rw [if_neg Bool.false_ne_true] at a4
      refine iteF ?_
      refine ⟨hlt, B5, μ4, acc, vacc, (e2.trans e3).trans e5, ?_, ra.mono (e3.trans e5) acc vacc, a4⟩
      rw [← wσ]
      exact r5.wipe vs
    | true =>
      rw [if_pos rfl] at a4
      refine iteT ?_
      simp only [Option.bind_eq_some_iff] at a4
      obtain ⟨⟨z, μ6⟩, m6, a6⟩ := a4
      split at a6
      · rename_i hl
        refine ⟨c.pin Dl (.lst vacc), B5, μ4, z, μ6, r5, m6, fun B7 H7 v e7 r7 hv => ?_⟩
        obtain ⟨u1, u2, u3, u4⟩ := r7.unpin f0 fb0 ns
        have ra' := ra.mono ((e3.trans e5).trans e7) acc vacc
        refine ⟨vacc, u2, by rw [ra'.length, sizeLine_eq]; exact hl, hlt, B7, μ6, acc ++ [z], vacc ++ [v], ((e2.trans e3).trans e5).trans e7, ?_, ra'.append (.cons hv .nil), a6⟩
        rw [← wσ]
        exact ((u1.chg f0 u3 u4).pin upd_same u3 f0 u4).wipe vs
      · cases a6
  · have hi3 : i = ds.length := by omega
    subst hi3
    rw [List.drop_length] at a2
    simp only [loopC] at a2
    cases a2
    obtain ⟨u1, u2, u3, u4⟩ := r2.unpin f0 fb0 ns
    rw [← e9'] at k
    refine .inl ⟨w2, k B2 H2 Dl vacc (e1.trans e2) (Rel.rest r1 e2 u1.unwipe) u2 u3 f0 (NoOwn.rest fun i di hi hs' => ?_) ra⟩
    have ni : i ∉ vs := fun h => by have := wipeS_get h hi; cases this
    refine u4 i di hi ?_
    rw [wipe_get ni]; exact hs'
section
variable {X : Cx}
theorem f_lc {elt tg iter : Expr} {ifs : List Expr} {scope : Scope} {own : List (Str × Nat)} {pos : Pos} {mi : M (List D)} {g : D → MS → Option MS} {is : List Nat} {t : M Bool} {m : M D} (hc : X.calm = true) (hN : X.N.Nodup) (hi : DI X tg iter mi) (ok : BlkOk X.N X.env.scope scope own) (his : ∀ i ∈ is, i ∈ own.map (·.2))
    (hg : ∀ (s : Shared) (H : Hp) (C : Addr) (cl : List (Str × Addr)) (fp : List Addr), DG (X.blk s H scope (compEnvC scope cl C X.env) fp) tg g is) (ht : ∀ (s : Shared) (H : Hp) (C : Addr) (cl : List (Str × Addr)) (fp : List Addr), DTs (X.blk s H scope (compEnvC scope cl C X.env) fp) ifs t)
    (he : ∀ (s : Shared) (H : Hp) (C : Addr) (cl : List (Str × Addr)) (fp : List Addr), DE (X.blk s H scope (compEnvC scope cl C X.env) fp) elt m) (hs : ∀ x, foldedSetIterable iter X.env x = pure x := by intro _; rfl) :
    DF X (.ListComp elt [⟨tg, iter, ifs, 0⟩] scope pos) (mLc mi g t m (own.map (·.2))) :=
  ⟨_, pe_lc (g := tG X.K g is) (tt := tT X.K t) (te := tE X.K m) hc hN hi.pi ok (fun s H C cl fp => (hg s H C cl fp).pg) (fun s H C cl fp => (ht s H C cl fp).pts) (fun s H C cl fp => (he s H C cl fp).pe) hs, ok_lc his⟩
theorem s_lc {i : Nat} {y : Str} {py : Pos} {elt tg iter : Expr} {ifs : List Expr} {scope : Scope} {own : List (Str × Nat)} {pos spos : Pos} {mi : M (List D)} {g : D → MS → Option MS} {is : List Nat} {t : M Bool} {m : M D} (hc : X.calm = true) (hN : X.N.Nodup)
    (hi : DI X tg iter mi) (ok : BlkOk X.N X.env.scope scope own) (his : ∀ i ∈ is, i ∈ own.map (·.2))
    (hg : ∀ (s : Shared) (H : Hp) (C : Addr) (cl : List (Str × Addr)) (fp : List Addr), DG (X.blk s H scope (compEnvC scope cl C X.env) fp) tg g is) (ht : ∀ (s : Shared) (H : Hp) (C : Addr) (cl : List (Str × Addr)) (fp : List Addr), DTs (X.blk s H scope (compEnvC scope cl C X.env) fp) ifs t)
    (he : ∀ (s : Shared) (H : Hp) (C : Addr) (cl : List (Str × Addr)) (fp : List Addr), DE (X.blk s H scope (compEnvC scope cl C X.env) fp) elt m) (hy : X.N[i]? = some y := by rfl) (hyl : X.env.scope.names.lookup y = some .local := by rfl)
    (hsw : swapsWith (.ListComp elt [⟨tg, iter, ifs, 0⟩] scope pos) (some (.Name y py)) spos.line X.env = pure true := by exact sw_true rfl rfl rfl (by decide +kernel)) (hs : ∀ x, foldedSetIterable iter X.env x = pure x := by intro _; rfl) :
    DS X (.Assign [.Name y py] (.ListComp elt [⟨tg, iter, ifs, 0⟩] scope pos) spos) (sNew i (mLc mi g t m (own.map (·.2)))) := by
  refine ⟨_, ps_setLc (g := tG X.K g is) (tt := tT X.K t) (te := tE X.K m) hc hN hy hyl hsw hi.pi ok (fun s H C cl fp => (hg s H C cl fp).pg) (fun s H C cl fp => (ht s H C cl fp).pts) (fun s H C cl fp => (he s H C cl fp).pe) hs, fun c B σ H μ E r a => ?_⟩
  unfold sNew at a
  split at a
  · rename_i ds μ' hm
    exact ok_lc his c B σ H μ ds μ' _ r hm fun B' H' q vs e' r' h2 h3 h4 h5 h6 => a B' _ H' e' (r'.putO h2 h3 h4 h6 h5)
  · exact a.elim
end

/-! ### lists of our own, changed -/
/-- the slot i must hold a list of ours -/
def owned (μ : MS) (i : Nat) : Option (List D) := match μ.sl[i]? with
  | some (.ow (.l ds)) => some ds
  | _ => none
theorem owned_some {μ : MS} {i : Nat} {ds : List D} (h : owned μ i = some ds) : μ.sl[i]? = some (.own ds) := by
  unfold owned at h
  split at h
  · rename_i q; cases h; exact q
  · cases h
def mApp (i : Nat) (m : M D) : M D := fun μ => (owned μ i).bind fun _ => (m μ).bind fun p => (owned p.2 i).bind fun ds => if ds.length < lineN then some (.none, setS p.2 i (.own (ds ++ [p.1]))) else none
def mExt (i : Nat) (m : M O) : M D := fun μ => (owned μ i).bind fun _ => (m μ).bind fun p => (owned p.2 i).bind fun ds => (look p.1 p.2).bind fun e => match e with
  | .list es => if ds.length + es.length ≤ lineN then some (.none, setS p.2 i (.own (ds ++ es))) else none
  | _ => none
def mPop (i : Nat) : M D := fun μ => (owned μ i).bind fun ds => (ds[ds.length - 1]?).bind fun d => some (d, setS μ i (.own ds.dropLast))
def mPopAt (i : Nat) (m : M D) : M D := fun μ => (owned μ i).bind fun _ => (m μ).bind fun p => (owned p.2 i).bind fun ds => match p.1 with
  | .int j => if -(2 ^ 63) ≤ j ∧ j < 2 ^ 63 then (seqIndex? j ds.length).bind fun k => (ds[k]?).bind fun d => some (d, setS p.2 i (.own (ds.eraseIdx k))) else none
  | _ => none
section
variable {X : Cx} {x : Str} {px apos cpos : Pos} {e : Expr}
theorem Rel.tyL {K : PySem.W.Frag} {c : C} {B H : Hp} {σ : St} {μ : MS} {i : Nat} {ds : List D} (r : Rel K c B σ H μ) (h : owned μ i = some ds) : ∃ p vs, σ[i]? = some (some (.ref p)) ∧ H p = some (.lst vs) ∧ RpA K c.st B vs ds ∧ tyV K "list" (.ref p) H := by
  obtain ⟨p, vs, h1, h2, h3, h4, h5⟩ := r.ownAt (owned_some h)
  exact ⟨p, vs, h1, h2, h5, .inl ⟨rfl, vs, SqL.of h2⟩⟩
theorem e_append {m : M D} (i : Nat) (he : DE X e m) (hN : X.N[i]? = some x := by rfl) (hv : Vis X.env.scope x := by first | exact Or.inl rfl | exact Or.inr (Or.inl rfl) | exact Or.inr (Or.inr rfl)) (hd : (x == ("__debug__" : Str)) = false := by decide)
    (hcd : (x == ("__classdict__" : Str)) = false := by decide) (hbase : attributeBase (.Name x px) "append" X.env (eval (.Name x px) X.env) = eval (.Name x px) X.env := by rfl)
    (hfew : ((backTo cpos (starEach [e] X.env)).all (fun x => !x.1) && (backToKw cpos (keywordEach [] X.env)).all (fun x => x.1.isSome) && decide ([e].length + ([] : List Keyword).length + (if ([] : List Keyword).isEmpty then 0 else 1) < 30)) = true := by rfl)
    (hline : (apos.endLine == cpos.line) = true := by rfl) (hs : starEach [e] X.env = (false, eval e X.env) :: starEach [] X.env := by rfl) (hplain : (backTo cpos (starEach [] X.env)).any (·.1) = false := by rfl) :
    DE X (.Call (.Attribute (.Name x px) "append" apos) [e] [] cpos) (mApp i m) := by
  obtain ⟨t, p, o⟩ := he.ex
  refine ⟨_, pe_bm PySem.F.plainAttrs_list PySem.F.slot_list_append PySem.F.type_list_append mt_append (pv i hN hv hd hcd) (pa_cons p pa_nil hs) hbase hfew hline hs hplain, fun c B σ H μ d μ' Q r hm k => ?_⟩
  unfold mApp at hm
  simp only [Option.bind_eq_some_iff] at hm
  obtain ⟨ds0, h0, ⟨d1, μ1⟩, h1, ds, h2, h3⟩ := hm
  split at h3
  · rename_i hl
    cases h3
    obtain ⟨q, vs, s1, s2, s3, s4⟩ := r.tyL h0
    refine ⟨_, s1, s4, o c B σ H μ d1 μ1 _ r h1 fun B' H' v e' r' hv => ?_⟩
    obtain ⟨q', vs', t1, t2, t3, t4⟩ := r'.tyL h2
    rw [s1] at t1; cases t1
    refine ⟨_, vs', v, rfl, rfl, t2, by rw [t3.length, sizeLine_eq]; exact hl, ?_⟩
    exact (k.ext e').go (r'.ownSet (owned_some h2) s1 (t3.append (.cons hv .nil))) .non
  · cases h3
theorem e_extend {m : M O} (i : Nat) (he : DO X e m) (hN : X.N[i]? = some x := by rfl) (hv : Vis X.env.scope x := by first | exact Or.inl rfl | exact Or.inr (Or.inl rfl) | exact Or.inr (Or.inr rfl)) (hd : (x == ("__debug__" : Str)) = false := by decide)
    (hcd : (x == ("__classdict__" : Str)) = false := by decide) (hbase : attributeBase (.Name x px) "extend" X.env (eval (.Name x px) X.env) = eval (.Name x px) X.env := by rfl)
    (hfew : ((backTo cpos (starEach [e] X.env)).all (fun x => !x.1) && (backToKw cpos (keywordEach [] X.env)).all (fun x => x.1.isSome) && decide ([e].length + ([] : List Keyword).length + (if ([] : List Keyword).isEmpty then 0 else 1) < 30)) = true := by rfl)
    (hline : (apos.endLine == cpos.line) = true := by rfl) (hs : starEach [e] X.env = (false, eval e X.env) :: starEach [] X.env := by rfl) (hplain : (backTo cpos (starEach [] X.env)).any (·.1) = false := by rfl) :
    DE X (.Call (.Attribute (.Name x px) "extend" apos) [e] [] cpos) (mExt i m) := by
  obtain ⟨t, p, o⟩ := he.ex
  refine ⟨_, pe_bm PySem.F.plainAttrs_list PySem.F.slot_list_extend PySem.F.type_list_extend mt_extend (pv i hN hv hd hcd) (pa_cons p pa_nil hs) hbase hfew hline hs hplain, fun c B σ H μ d μ' Q r hm k => ?_⟩
  unfold mExt at hm
  simp only [Option.bind_eq_some_iff] at hm
  obtain ⟨ds0, h0, ⟨d1, μ1⟩, h1, ds, h2, e1, h3, h4⟩ := hm
  split at h4
  · split at h4
    · rename_i es hl
      cases h4
      obtain ⟨q, vs, s1, s2, s3, s4⟩ := r.tyL h0
      refine ⟨_, s1, s4, o c B σ H μ d1 μ1 _ r h1 fun B' H' v e' r' hv => ?_⟩
      obtain ⟨q', vs', t1, t2, t3, t4⟩ := r'.tyL h2
      rw [s1] at t1; cases t1
      obtain ⟨b, us, rfl, u1, u2⟩ := (look_ok r' hv h3).list r'.r0.ext
      refine ⟨_, b, vs', us, rfl, rfl, t2, u1, by rw [t3.length, u2.length, sizeLine_eq]; exact hl, ?_⟩
      exact (k.ext e').go (r'.ownSet (owned_some h2) s1 (t3.append u2)) .non
    · cases h4
  · cases h4
theorem e_pop (i : Nat) (hN : X.N[i]? = some x := by rfl) (hv : Vis X.env.scope x := by first | exact Or.inl rfl | exact Or.inr (Or.inl rfl) | exact Or.inr (Or.inr rfl)) (hd : (x == ("__debug__" : Str)) = false := by decide)
    (hcd : (x == ("__classdict__" : Str)) = false := by decide) (hbase : attributeBase (.Name x px) "pop" X.env (eval (.Name x px) X.env) = eval (.Name x px) X.env := by rfl) (hline : (apos.endLine == cpos.line) = true := by rfl) :
    DE X (.Call (.Attribute (.Name x px) "pop" apos) [] [] cpos) (mPop i) := by
  refine ⟨_, pe_bm0 PySem.F.plainAttrs_list PySem.F.slot_list_pop PySem.F.type_list_pop mt_pop (pv i hN hv hd hcd) hbase hline, fun c B σ H μ d μ' Q r hm k => ?_⟩
  unfold mPop at hm
  simp only [Option.bind_eq_some_iff] at hm
  obtain ⟨ds, h0, d1, h1, h3⟩ := hm
  cases h3
  obtain ⟨q, vs, s1, s2, s3, s4⟩ := r.tyL h0
  obtain ⟨v, g1, g2⟩ := s3.get h1
  refine ⟨_, s1, s4, q, vs, v, rfl, rfl, s2, by rw [s3.length]; exact g1, ?_⟩
  exact k.go (r.ownSet (owned_some h0) s1 s3.dropLast) g2
theorem e_popAt {m : M D} (i : Nat) (he : DE X e m) (hN : X.N[i]? = some x := by rfl) (hv : Vis X.env.scope x := by first | exact Or.inl rfl | exact Or.inr (Or.inl rfl) | exact Or.inr (Or.inr rfl)) (hd : (x == ("__debug__" : Str)) = false := by decide)
    (hcd : (x == ("__classdict__" : Str)) = false := by decide) (hbase : attributeBase (.Name x px) "pop" X.env (eval (.Name x px) X.env) = eval (.Name x px) X.env := by rfl)
    (hfew : ((backTo cpos (starEach [e] X.env)).all (fun x => !x.1) && (backToKw cpos (keywordEach [] X.env)).all (fun x => x.1.isSome) && decide ([e].length + ([] : List Keyword).length + (if ([] : List Keyword).isEmpty then 0 else 1) < 30)) = true := by rfl)
    (hline : (apos.endLine == cpos.line) = true := by rfl) (hs : starEach [e] X.env = (false, eval e X.env) :: starEach [] X.env := by rfl) (hplain : (backTo cpos (starEach [] X.env)).any (·.1) = false := by rfl) :
    DE X (.Call (.Attribute (.Name x px) "pop" apos) [e] [] cpos) (mPopAt i m) := by
  obtain ⟨t, p, o⟩ := he.ex
  refine ⟨_, pe_bm PySem.F.plainAttrs_list PySem.F.slot_list_pop PySem.F.type_list_pop mt_popAt (pv i hN hv hd hcd) (pa_cons p pa_nil hs) hbase hfew hline hs hplain, fun c B σ H μ d μ' Q r hm k => ?_⟩
  unfold mPopAt at hm
  simp only [Option.bind_eq_some_iff] at hm
  obtain ⟨ds0, h0, ⟨d1, μ1⟩, h1, ds, h2, h3⟩ := hm
  split at h3
  · split at h3
    · rename_i j hd1 hj
      simp only [Option.bind_eq_some_iff] at h3
      obtain ⟨n, h4, z, h5, h6⟩ := h3
      cases h6
      have hd1' : d1 = .int j := hd1
      subst hd1'
      obtain ⟨q, vs, s1, s2, s3, s4⟩ := r.tyL h0
      refine ⟨_, s1, s4, o c B σ H μ _ μ1 _ r h1 fun B' H' v e' r' hv => ?_⟩
      cases hv
      obtain ⟨q', vs', t1, t2, t3, t4⟩ := r'.tyL h2
      rw [s1] at t1; cases t1
      obtain ⟨v, g1, g2⟩ := t3.get h5
      refine ⟨_, vs', j, n, v, rfl, rfl, t2, hj.1, hj.2, by rw [t3.length]; exact h4, g1, ?_⟩
      exact (k.ext e').go (r'.ownSet (owned_some h2) s1 (t3.erase n)) g2
    · cases h3
  · cases h3
end

/-! ### calls of defs -/
abbrev FM := List D → Dr → Option (D × Dr)
/-- what a def promises: it tells its mirror's value -/
def spM (K : PySem.W.Frag) (n : Nat) (f : FM) : Sp := fun vs H Q _ => vs.length = n ∧ ∃ (st : Option (Addr × Addr)) (B : Hp) (ds : List D) (dr : Dr) (d : D) (dr' : Dr), Rel0 ⟨st, H, B⟩ B H dr ∧ RpA K st B vs ds ∧ f ds dr = some (d, dr') ∧
  ∀ B' H' v, Ext B B' → Rel0 ⟨st, H, B⟩ B' H' dr' → Rp K st B' v d → Q v H'
def frz1 (μ : MS) : O → MS
  | .v _ => μ
  | .s i => match μ.sl[i]? with
    | some (.ow o) => setS μ i (.val o.dat)
    | _ => μ
def frzA : List O → MS → MS
  | [], μ => μ
  | o :: os, μ => frzA os (frz1 μ o)
def mCallU (f : FM) (ma : M (List O)) : M D := fun μ => (ma μ).bind fun p => (looks p.1 p.2).bind fun ds => (f ds p.2.dr).bind fun z => some (z.1, if flat z.1 = true then { p.2 with dr := z.2 } else { frzA p.1 p.2 with dr := z.2 })
section
variable {K : PySem.W.Frag} {c : C} {B H : Hp} {σ : St}
theorem frz1_look {μ : MS} {o o' : O} : look o' (frz1 μ o) = look o' μ := by
  cases o with
  | v d => rfl
  | s i =>
    unfold frz1
    simp only
    split
    · rename_i ds hs
      cases o' with
      | v d => rfl
      | s j =>
        unfold look setS
        by_cases hij : i = j
        · subst hij
          have hl : i < μ.sl.length := (List.getElem?_eq_some_iff.mp hs).1
          simp only [List.getElem?_set_self hl, hs]
        · simp only [List.getElem?_set_ne hij]
    · rfl
theorem frz1_looks {μ : MS} {o : O} : ∀ os : List O, looks os (frz1 μ o) = looks os μ
  | [] => rfl
  | o' :: os => by simp only [looks, frz1_look, frz1_looks os]
theorem frz1_dr {μ : MS} {o : O} : (frz1 μ o).dr = μ.dr := by
  cases o with
  | v d => rfl
  | s i =>
    unfold frz1
    simp only
    split <;> rfl
theorem frzA_dr : ∀ (os : List O) (μ : MS), (frzA os μ).dr = μ.dr
  | [], μ => rfl
  | o :: os, μ => by rw [frzA, frzA_dr os, frz1_dr]
/-- the lists of ours among the operands are known from now on -/
theorem frz1_ok {μ : MS} (r : Rel K c B σ H μ) {v : V} {o : O} {d : D} (h : OR K c.st B σ v o) (hl : look o μ = some d) :
    ∃ B', Ext B B' ∧ Rel K c B' σ H (frz1 μ o) ∧ Rp K c.st B' v d := by
  cases o with
  | v d' => cases hl; exact ⟨B, Ext.refl _, r, h⟩
  | s i =>
    have h' : σ[i]? = some (some v) := h
    simp only [look] at hl
    unfold frz1
    simp only
    split at hl
    · rename_i d' hs
      cases hl
      obtain ⟨v', e1, e2⟩ := r.valAt hs
      rw [h'] at e1; cases e1
      simp only [hs]
      exact ⟨B, Ext.refl _, r, e2⟩
    · rename_i ds hs
      cases hl
      obtain ⟨p, vs, e1, e2, e3, e4, e5, e6⟩ := r.owVal hs
      rw [h'] at e1; cases e1
      simp only [hs]
      exact ⟨_, e4, e6, e5⟩
    · cases hl
theorem frzA_ok : ∀ {os : List O} {vs : List V} {ds : List D} {B : Hp} {μ : MS}, Rel K c B σ H μ → ORA K c.st B σ vs os → looks os μ = some ds → ∃ B', Ext B B' ∧ Rel K c B' σ H (frzA os μ) ∧ RpA K c.st B' vs ds
  | _, _, _, B, μ, r, .nil, e => by cases e; exact ⟨B, Ext.refl _, r, .nil⟩
  | _, _, _, B, μ, r, .cons (o := o) (os := os) h t, e => by
    simp only [looks, Option.bind_eq_some_iff] at e
    obtain ⟨d, h1, ds, h2, h3⟩ := e
    cases h3
    obtain ⟨B1, e1, r1, p1⟩ := frz1_ok r h h1
    obtain ⟨B2, e2, r2, p2⟩ := frzA_ok r1 (t.mono e1) ((frz1_looks os).trans h2)
    exact ⟨B2, e1.trans e2, r2, .cons (p1.mono e2) p2⟩
end
section
variable {X : Cx} {CX : CXT} {k : Nat} {f : Addr} {fd : FuncData} {ps : List Str} {x : Str} {p pos : Pos} {e : Expr} {es : List Expr} {m : M (List O)} {fm : FM} {E : XK}
theorem ok_callU {n : Nat} {t : TA} (h : OkA X.K t m) (hl : ∀ μ os μ', m μ = some (os, μ') → os.length = n) : OkE X.K (tCall (spM X.K n fm) [] E t) (mCallU fm m) := by
  intro c B σ H μ d μ' Q r hm kk
  unfold mCallU at hm
  simp only [Option.bind_eq_some_iff] at hm
  obtain ⟨⟨os, μ1⟩, h1, ds, h2, ⟨d1, dr1⟩, h3, h4⟩ := hm
  cases h4
  refine h c B σ H μ os μ1 _ r h1 fun B1 H1 vs e1 r1 hv => ?_
  obtain ⟨B2, e2, r2, hvs⟩ := frzA_ok r1 hv h2
  have lenV : vs.length = n := by
    have a1 : ∀ {vs : List V} {os : List O}, ORA X.K c.st B1 σ vs os → vs.length = os.length := by
      intro vs os h
      induction h with
      | nil => rfl
      | cons _ _ ih => simp [ih]
    rw [a1 hv]; exact hl _ _ _ h1
  rw [show vs ++ ([] : List V) = vs from List.append_nil vs]
  have dr2 : Rel0 ⟨c.st, H1, B2⟩ B2 H1 μ1.dr := by
    have q := r2.r0
    rw [frzA_dr] at q
    refine ⟨q.ext, fun a b e => ?_, fun a o e _ => e, fun a o e => .inl e, Ext.refl _⟩
    obtain ⟨z1, z2, z3, z4, z5, z6, z7⟩ := q.dr a b e
    exact ⟨z1, z2, z3, z4, z5, (fun z => by rw [show H1 a = none from z] at z2; cases z2), (fun z => by rw [show H1 b = none from z] at z3; cases z3)⟩
  refine ⟨lenV, c.st, B2, ds, μ1.dr, d1, dr1, dr2, hvs, h3, fun B3 H3 v e3 r3 hv3 => ?_⟩
  -- back to the caller
  have noSt : ∀ a, (∃ o, H1 a = some o) → B2 a = none → B3 a = none := fun a ⟨o, ho⟩ hb => by
    cases q : B3 a with
    | none => rfl
    | some u =>
      rcases r3.nw a u q with z | z
      · have z' : B2 a = some u := z
        rw [hb] at z'; cases z'
      · have z' : H1 a = none := z
        rw [ho] at z'; cases z'
  have isSt : ∀ a, IsSt ⟨c.st, H1, B2⟩ a → IsSt c a := fun a s => s
  have r0' : Rel0 c B3 H3 dr1 := by
    refine ⟨r3.ext, fun a b e => ?_, fun a o e s => ?_, fun a o e => ?_, (r2.r0.b0).trans e3⟩
    · obtain ⟨z1, z2, z3, z4, z5, z6, z7⟩ := r3.dr a b e
      obtain ⟨y1, y2, y3, y4, y5, y6, y7⟩ := r1.r0.dr a b e
      exact ⟨z1, z2, z3, z4, z5, y6, y7⟩
    · exact r3.fr a o (r1.r0.fr a o e s) fun z => s (isSt a z)
    · rcases r3.nw a o e with z | z
      · exact r2.r0.nw a o z
      · exact .inr (r1.r0.fresh z).1
  have own1 : ∀ {μ2 : MS} {B' : Hp}, Rel X.K c B' σ H1 μ2 → (Ext B' B2) → ∀ (i : Nat) (ds : Ob) (q : Addr), μ2.sl[i]? = some (.ow ds) → σ[i]? = some (some (.ref q)) → H3 q = H1 q := fun {μ2 B'} rr _ i ds q hi hs => by
    obtain ⟨q', ws, f1, f2, f3, f4, f5⟩ := rr.owAt hi
    rw [hs] at f1; cases f1
    rw [f2]
    exact r3.fr q _ f2 fun z => by
      obtain ⟨_, _, zz⟩ := (isSt q z).some rr.r0.dr
      exact zz f4
  by_cases hf : flat d1 = true
  · rw [if_pos hf] at kk
    refine kk B1 H3 v e1 ?_ (hv3.flat_any hf)
    refine r1.move ⟨(e2.trans e3).trans r3.ext, fun a b e => ?_, r0'.fr, r1.r0.nw, r1.r0.b0⟩ (Ext.refl _) fun i ds q hi hs => ⟨own1 r1 e2 i ds q hi hs, ?_⟩
    · obtain ⟨z1, z2, z3, z4, z5, z6, z7⟩ := r0'.dr a b e
      exact ⟨z1, z2, z3, (e2.trans e3).none z4, (e2.trans e3).none z5, z6, z7⟩
    · obtain ⟨q', ws, f1, f2, f3, f4, f5⟩ := r1.owAt hi
      rw [hs] at f1; cases f1
      exact f3
  · rw [if_neg hf] at kk
    refine kk B3 H3 v ((e1.trans e2).trans e3) ?_ hv3
    refine r2.move r0' e3 fun i ds q hi hs => ⟨own1 r2 (Ext.refl _) i ds q hi hs, ?_⟩
    obtain ⟨q', ws, f1, f2, f3, f4, f5⟩ := r2.owAt hi
    rw [hs] at f1; cases f1
    exact noSt q ⟨_, f2⟩ f3
def lenOf (es : List Expr) : Nat := es.length
theorem aNil_len : ∀ (μ : MS) (os : List O) (μ' : MS), aNil μ = some (os, μ') → os.length = 0 := fun μ os μ' h => by cases h; rfl
theorem aCons_len {a : M O} {n : M (List O)} {k : Nat} (h : ∀ (μ : MS) (os : List O) (μ' : MS), n μ = some (os, μ') → os.length = k) : ∀ (μ : MS) (os : List O) (μ' : MS), aCons a n μ = some (os, μ') → os.length = k + 1 := fun μ os μ' hm => by
  unfold aCons at hm
  simp only [Option.bind_eq_some_iff] at hm
  obtain ⟨⟨o, μ1⟩, h1, ⟨os2, μ2⟩, h2, h3⟩ := hm
  cases h3
  simp [h _ _ _ h2]
/-- f(e, ..) -/
theorem e_callU {n : Nat} (F : FnOk X.prog X.w X.K X.mg X.base CX k f fd ps (spM X.K n fm)) (hr : Room k X.A) (hm : X.mg x = some (.ref f)) (hk : PySem.W.keepIn X.K (.ref f) = true) (hb : Binds X.K fd ps []) (hx : Passes CX X E)
    (ha : DA X (e :: es) m) (hl : ∀ (μ : MS) (os : List O) (μ' : MS), m μ = some (os, μ') → os.length = n) (hg : Gl X x := by rfl) (hdb : (x == ("__debug__" : Str)) = false := by decide) (he : starEach (e :: es) X.env = (false, eval e X.env) :: starEach es X.env := by rfl) (hpl : (backTo pos (starEach es X.env)).any (·.1) = false := by rfl) :
    DE X (.Call (.Name x p) (e :: es) [] pos) (mCallU fm m) := by
  obtain ⟨t, pt, o⟩ := ha.ex
  exact ⟨_, pe_call F hr hg hm hk hb .nil hx pt hdb he hpl, ok_callU o hl⟩
/-- a def, from its body -/
def fnM (n : Nat) (body : MT) : FM := fun ds dr => match body ⟨ds.map Sl.val ++ List.replicate (n - ds.length) Sl.un, dr⟩ with
  | .nx μ => some (.none, μ.dr)
  | .rt d dr' => some (d, dr')
  | _ => none
theorem start_rel {K : PySem.W.Frag} {c : C} {B H : Hp} {dr : Dr} {N : List Str} {vs : List V} {ds : List D} (r : Rel0 c B H dr) (h : RpA K c.st B vs ds) (hl : vs.length ≤ N.length) :
    Rel K c B (L2.start N vs) H ⟨ds.map Sl.val ++ List.replicate (N.length - ds.length) Sl.un, dr⟩ := by
  have hlen := h.length
  have key : ∀ (i : Nat) (s : Sl), (ds.map Sl.val ++ List.replicate (N.length - ds.length) Sl.un)[i]? = some s → s = .un ∨ ∃ d, s = .val d ∧ ds[i]? = some d := fun i s hs => by
    by_cases hi : i < ds.length
    · rw [List.getElem?_append_left (by simpa using hi), List.getElem?_map] at hs
      obtain ⟨d, hd⟩ : ∃ d, ds[i]? = some d := ⟨ds[i], by simp [hi]⟩
      rw [hd] at hs; cases hs
      exact .inr ⟨d, rfl, hd⟩
    · rw [List.getElem?_append_right (by simpa using hi), List.getElem?_replicate] at hs
      split at hs
      · cases hs; exact .inl rfl
      · cases hs
  refine ⟨r, ?_, fun i s hs => ?_, fun i j di dj _ hi _ => ?_⟩
  · unfold L2.start
    simp
    omega
  · rcases key i s hs with rfl | ⟨d, rfl, hd⟩
    · trivial
    · obtain ⟨v, h1, h2⟩ := h.get hd
      refine ⟨v, ?_, h2⟩
      unfold L2.start
      have hi : i < vs.length := (List.getElem?_eq_some_iff.mp h1).1
      rw [List.getElem?_append_left (by simpa using hi), List.getElem?_map, h1]
      rfl
  · rcases key i _ hi with e | ⟨d, e, _⟩
    · cases e
    · cases e
theorem fn_ok {P : Program} {w : World} {K : PySem.W.Frag} {mg : Str → Option Value} {base : Heap} {qual : Str} {st : Stmt} {N : List Str} {body : MT} (F : Fun K x qual st f fd) (S : FnScope N ps (defScope st)) (hN : ps.length ≤ N.length)
    (h : ∀ (cdv : Value) (A : Around) (outer : List Env) (s : Shared) (H : Hp) (E : XK), Room k (A.deeper (envOfC qual (defScope st) s.heap.objs.size f cdv)) → DSs (cxOf CX0 P w K mg base N qual (defScope st) f cdv A outer s H E).nox (defBody st) body) :
    FnOk P w K mg base CX0 (k + 1) f fd ps (spM K ps.length (fnM N.length body)) := by
  refine F.ok S (fun vs H Q E h => h.1) fun cdv A outer s H vs Q E hr hsp => ?_
  obtain ⟨t, pt, o⟩ := (h cdv A outer s H E hr).ex
  refine ⟨t, pt, ?_⟩
  obtain ⟨hlen, sst, B, ds, dr, d, dr', r0, hv, hm, k⟩ := hsp
  refine o ⟨sst, H, B⟩ B _ H _ _ (start_rel r0 hv (by omega)) ?_
  unfold fnM at hm
  split at hm
  · rename_i μ hb
    cases hm
    rw [hb]
    exact fun B' σ' H' e' r' => k B' H' _ e' r'.r0 .non
  · rename_i d2 dr2 hb
    cases hm
    rw [hb]
    exact fun B' H' v e' r' hv' => k B' H' v e' r' hv'
  · cases hm
end
end Mi
/-! Mi, sixth part: built-ins, stores into lists of our own. -/
namespace Mi
open PySem PySem.Spec PyProof.Rows L2

def lenD : List D → Option D
  | [.list ds] => some (.int ds.length)
  | [.tuple ds] => some (.int ds.length)
  | [.str x] => if x.length ≤ lineN then some (.int x.length) else none
  | _ => none
def listF : List D → Option (List D)
  | [.list ds] => some ds
  | [.tuple ds] => some ds
  | _ => none
def tupD : List D → Option D
  | [.list ds] => some (.tuple ds)
  | [.tuple ds] => some (.tuple ds)
  | _ => none
def absD : List D → Option D
  | [.int i] => some (.int (if i < 0 then -i else i))
  | _ => none
def intD : List D → Option D
  | [.int i] => some (.int i)
  | [.bool k] => some (.int (if k then 1 else 0))
  | _ => none
def ints? : List D → Option (List Int)
  | [] => some []
  | .int i :: ds => (ints? ds).bind fun ns => some (i :: ns)
  | _ :: _ => none
theorem ints?_some : ∀ {ds : List D} {ns : List Int}, ints? ds = some ns → ds = ns.map PyData.int
  | [], _, h => by cases h; rfl
  | d :: ds, ns, h => by
    cases d <;> simp only [ints?] at h <;> try cases h
    simp only [Option.bind_eq_some_iff] at h
    obtain ⟨ms, h1, h2⟩ := h
    cases h2
    rw [ints?_some h1]
    rfl
@[simp] theorem ints?_map : ∀ ns : List Int, ints? (ns.map PyData.int) = some ns
  | [] => rfl
  | n :: ns => by simp only [List.map_cons, ints?, ints?_map ns, Option.bind_some]
def bools? : List D → Option (List Bool)
  | [] => some []
  | .bool i :: ds => (bools? ds).bind fun ns => some (i :: ns)
  | _ :: _ => none
theorem bools?_some : ∀ {ds : List D} {ns : List Bool}, bools? ds = some ns → ds = ns.map PyData.bool
  | [], _, h => by cases h; rfl
  | d :: ds, ns, h => by
    cases d <;> simp only [bools?] at h <;> try cases h
    simp only [Option.bind_eq_some_iff] at h
    obtain ⟨ms, h1, h2⟩ := h
    cases h2
    rw [bools?_some h1]
    rfl
@[simp] theorem bools?_map : ∀ ns : List Bool, bools? (ns.map PyData.bool) = some ns
  | [] => rfl
  | n :: ns => by simp only [List.map_cons, bools?, bools?_map ns, Option.bind_some]
def strs? : List D → Option (List Str)
  | [] => some []
  | .str i :: ds => (strs? ds).bind fun ns => some (i :: ns)
  | _ :: _ => none
theorem strs?_some : ∀ {ds : List D} {ns : List Str}, strs? ds = some ns → ds = ns.map PyData.str
  | [], _, h => by cases h; rfl
  | d :: ds, ns, h => by
    cases d <;> simp only [strs?] at h <;> try cases h
    simp only [Option.bind_eq_some_iff] at h
    obtain ⟨ms, h1, h2⟩ := h
    cases h2
    rw [strs?_some h1]
    rfl
@[simp] theorem strs?_map : ∀ ns : List Str, strs? (ns.map PyData.str) = some ns
  | [] => rfl
  | n :: ns => by simp only [List.map_cons, strs?, strs?_map ns, Option.bind_some]
/-- the greatest, the least of a row that is not empty -/
def maxL : List Int → Int
  | [] => 0
  | a :: r => r.foldl (fun m b => if b > m then b else m) a
def minL : List Int → Int
  | [] => 0
  | a :: r => r.foldl (fun m b => if b < m then b else m) a
theorem maxF_spec : ∀ (r : List Int) (a : Int), (r.foldl (fun m b => if b > m then b else m) a = a ∨ r.foldl (fun m b => if b > m then b else m) a ∈ r) ∧ a ≤ r.foldl (fun m b => if b > m then b else m) a ∧ ∀ y ∈ r, y ≤ r.foldl (fun m b => if b > m then b else m) a
  | [], a => ⟨.inl rfl, Int.le_refl _, fun _ h => by cases h⟩
  | b :: r, a => by
    obtain ⟨h1, h2, h3⟩ := maxF_spec r (if b > a then b else a)
    refine ⟨?_, ?_, ?_⟩
    · rcases h1 with h1 | h1
      · by_cases hb : b > a
        · rw [if_pos hb] at h1
          exact .inr (by rw [List.foldl_cons, if_pos hb, h1]; exact List.mem_cons_self)
        · rw [if_neg hb] at h1
          exact .inl (by rw [List.foldl_cons, if_neg hb, h1])
      · exact .inr (by rw [List.foldl_cons]; exact List.mem_cons_of_mem _ h1)
    · rw [List.foldl_cons]
      refine Int.le_trans ?_ h2
      split <;> omega
    · intro y hy
      rw [List.foldl_cons]
      rcases List.mem_cons.mp hy with rfl | hy
      · refine Int.le_trans ?_ h2
        split <;> omega
      · exact h3 y hy
theorem minF_spec : ∀ (r : List Int) (a : Int), (r.foldl (fun m b => if b < m then b else m) a = a ∨ r.foldl (fun m b => if b < m then b else m) a ∈ r) ∧ r.foldl (fun m b => if b < m then b else m) a ≤ a ∧ ∀ y ∈ r, r.foldl (fun m b => if b < m then b else m) a ≤ y
  | [], a => ⟨.inl rfl, Int.le_refl _, fun _ h => by cases h⟩
  | b :: r, a => by
    obtain ⟨h1, h2, h3⟩ := minF_spec r (if b < a then b else a)
    refine ⟨?_, ?_, ?_⟩
    · rcases h1 with h1 | h1
      · by_cases hb : b < a
        · rw [if_pos hb] at h1
          exact .inr (by rw [List.foldl_cons, if_pos hb, h1]; exact List.mem_cons_self)
        · rw [if_neg hb] at h1
          exact .inl (by rw [List.foldl_cons, if_neg hb, h1])
      · exact .inr (by rw [List.foldl_cons]; exact List.mem_cons_of_mem _ h1)
    · rw [List.foldl_cons]
      refine Int.le_trans h2 ?_
      split <;> omega
    · intro y hy
      rw [List.foldl_cons]
      rcases List.mem_cons.mp hy with rfl | hy
      · refine Int.le_trans h2 ?_
        split <;> omega
      · exact h3 y hy
theorem maxL_mem {ns : List Int} (h : 0 < ns.length) : maxL ns ∈ ns := by
  cases ns with
  | nil => cases h
  | cons a r =>
    rcases (maxF_spec r a).1 with e | e
    · show r.foldl _ a ∈ _; rw [e]; exact List.mem_cons_self
    · exact List.mem_cons_of_mem _ e
theorem maxL_ge {ns : List Int} {y : Int} (h : y ∈ ns) : y ≤ maxL ns := by
  cases ns with
  | nil => cases h
  | cons a r =>
    rcases List.mem_cons.mp h with rfl | h
    · exact (maxF_spec r y).2.1
    · exact (maxF_spec r a).2.2 y h
theorem minL_mem {ns : List Int} (h : 0 < ns.length) : minL ns ∈ ns := by
  cases ns with
  | nil => cases h
  | cons a r =>
    rcases (minF_spec r a).1 with e | e
    · show r.foldl _ a ∈ _; rw [e]; exact List.mem_cons_self
    · exact List.mem_cons_of_mem _ e
theorem minL_le {ns : List Int} {y : Int} (h : y ∈ ns) : minL ns ≤ y := by
  cases ns with
  | nil => cases h
  | cons a r =>
    rcases List.mem_cons.mp h with rfl | h
    · exact (minF_spec r y).2.1
    · exact (minF_spec r a).2.2 y h
theorem maxL_eq {ns : List Int} {m : Int} (h1 : m ∈ ns) (h2 : ∀ y ∈ ns, y ≤ m) : m = maxL ns :=
  Int.le_antisymm (maxL_ge h1) (h2 _ (maxL_mem (List.length_pos_of_mem h1)))
theorem minL_eq {ns : List Int} {m : Int} (h1 : m ∈ ns) (h2 : ∀ y ∈ ns, m ≤ y) : m = minL ns :=
  Int.le_antisymm (h2 _ (minL_mem (List.length_pos_of_mem h1))) (minL_le h1)
def maxD : List D → Option D
  | [.int i, .int j] => some (.int (if j > i then j else i))
  | [.list ds] => (ints? ds).bind fun ns => if 0 < ns.length then some (.int (maxL ns)) else none
  | [.tuple ds] => (ints? ds).bind fun ns => if 0 < ns.length then some (.int (maxL ns)) else none
  | _ => none
def minD : List D → Option D
  | [.int i, .int j] => some (.int (if j < i then j else i))
  | [.list ds] => (ints? ds).bind fun ns => if 0 < ns.length then some (.int (minL ns)) else none
  | [.tuple ds] => (ints? ds).bind fun ns => if 0 < ns.length then some (.int (minL ns)) else none
  | _ => none
def sumD : List D → Option D
  | [.list ds] => (ints? ds).bind fun ns => some (.int ns.sum)
  | [.tuple ds] => (ints? ds).bind fun ns => some (.int ns.sum)
  | _ => none
def anyD : List D → Option D
  | [.list ds] => (bools? ds).bind fun bs => some (.bool (bs.any id))
  | _ => none
def allD : List D → Option D
  | [.list ds] => (bools? ds).bind fun bs => some (.bool (bs.all id))
  | _ => none
section
variable {X : Cx}
theorem k_len : CallG X.K (fun xs H Q => ∃ x n, xs = [x] ∧ LenV X.K x H n ∧ Q (.int n) H) lenD := by
  intro c B σ H μ xs ds z Q r h hz k
  unfold lenD at hz
  split at hz
  · cases hz
    obtain ⟨x, rfl, hx⟩ := lka1 h
    obtain ⟨p, vs, rfl, h1, h2⟩ := hx.list r.r0.ext
    exact ⟨_, _, rfl, .inl ⟨vs, SqL.of h1, h2.length.symm⟩, k.go r (.int _)⟩
  · cases hz
    obtain ⟨x, rfl, hx⟩ := lka1 h
    obtain ⟨p, vs, rfl, h1, h1', h2⟩ := hx.tuple r.r0.ext
    exact ⟨_, _, rfl, .inr ⟨vs, h1, h2.length.symm⟩, k.go r (.int _)⟩
  · split at hz
    · rename_i hl
      cases hz
      obtain ⟨x, rfl, hx⟩ := lka1 h
      rw [hx.str]
      exact ⟨_, _, rfl, ⟨by rw [sizeLine_eq]; exact hl, rfl⟩, k.go r (.int _)⟩
    · cases hz
  · cases hz
theorem k_list : CallF X.K (fun xs H Q => ∃ p ys, xs = [.ref p] ∧ (SqL X.K H p ys ∨ SqT X.K H p ys) ∧ ∀ l, H l = none → Q (.ref l) (upd H l (.lst ys))) listF := by
  intro c B σ H μ xs ds z Q r h hz k
  unfold listF at hz
  split at hz
  · cases hz
    obtain ⟨x, rfl, hx⟩ := lka1 h
    obtain ⟨p, vs, rfl, h1, h2⟩ := hx.list r.r0.ext
    exact ⟨p, vs, rfl, .inl (SqL.of h1), fun l hl => k l vs hl h2⟩
  · cases hz
    obtain ⟨x, rfl, hx⟩ := lka1 h
    obtain ⟨p, vs, rfl, h1, h1', h2⟩ := hx.tuple r.r0.ext
    exact ⟨p, vs, rfl, .inr h1, fun l hl => k l vs hl h2⟩
  · cases hz
theorem k_tup : CallG X.K (fun xs H Q => ∃ p ys, xs = [.ref p] ∧ ((SqL X.K H p ys ∧ ∀ l, H l = none → Q (.ref l) (upd H l (.tup ys))) ∨ (SqT X.K H p ys ∧ Q (.ref p) H))) tupD := by
  intro c B σ H μ xs ds z Q r h hz k
  unfold tupD at hz
  split at hz
  · cases hz
    obtain ⟨x, rfl, hx⟩ := lka1 h
    obtain ⟨p, vs, rfl, h1, h2⟩ := hx.list r.r0.ext
    exact ⟨p, vs, rfl, .inl ⟨SqL.of h1, fun l hl => k.tup r h2 hl⟩⟩
  · cases hz
    obtain ⟨x, rfl, hx⟩ := lka1 h
    obtain ⟨p, vs, rfl, h1, h1', h2⟩ := hx.tuple r.r0.ext
    exact ⟨p, vs, rfl, .inr ⟨h1, k.go r (.tup h1' h2)⟩⟩
  · cases hz
theorem k_abs : CallG X.K (fun xs H Q => ∃ i, xs = [.int i] ∧ Q (.int (if i < 0 then -i else i)) H) absD := by
  intro c B σ H μ xs ds z Q r h hz k
  unfold absD at hz
  split at hz
  · cases hz
    obtain ⟨x, rfl, hx⟩ := lka1 h
    rw [hx.int]
    exact ⟨_, rfl, k.go r (.int _)⟩
  · cases hz
theorem k_int : CallG X.K (fun xs H Q => (∃ i, xs = [.int i] ∧ Q (.int i) H) ∨ ∃ k, xs = [.bl k] ∧ Q (.int (if k then 1 else 0)) H) intD := by
  intro c B σ H μ xs ds z Q r h hz k
  unfold intD at hz
  split at hz
  · cases hz
    obtain ⟨x, rfl, hx⟩ := lka1 h
    rw [hx.int]
    exact .inl ⟨_, rfl, k.go r (.int _)⟩
  · cases hz
    obtain ⟨x, rfl, hx⟩ := lka1 h
    rw [hx.bool]
    exact .inr ⟨_, rfl, k.go r (.int _)⟩
  · cases hz
end
theorem CallR.or {X : Cx} {f : Value} {r r' : List V → Hp → VK → Prop} (h : CallR X f r) (h' : CallR X f r') : CallR X f (fun xs H Q => r xs H Q ∨ r' xs H Q) := by
  intro pins s σ H xs us Q I rx q
  rcases q with q | q
  · exact h pins s σ H xs us Q I rx q
  · exact h' pins s σ H xs us Q I rx q
/-! ### sums, greatest, least ones of tuples -/
def rSumT (K : PySem.W.Frag) : List V → Hp → VK → Prop := fun vs H Q => ∃ (a : Addr) (ns : List Int), vs = [V.ref a] ∧ SqT K H a (ns.map V.int) ∧ Q (.int ns.sum) H
def rMaxT (K : PySem.W.Frag) : List V → Hp → VK → Prop := fun vs H Q => ∃ (a : Addr) (ns : List Int), vs = [V.ref a] ∧ SqT K H a (ns.map V.int) ∧ 0 < ns.length ∧ ∀ m, m ∈ ns → (∀ y, y ∈ ns → y ≤ m) → Q (.int m) H
section
variable {prog : Program} {w : World} {A : Around} {E : Value → Shared → Prop} {s : Shared} {t : Addr} {its : List Value} {ns : List Int} {Q : Value → Shared → Prop}
theorem sumT_raw (hh : A.handled = none) (ht : IsTup s.heap t its.toArray) (hi : IntsAre its ns)
    (h : ∀ h' tk t', (∀ b o, s.heap.get? b = some o → h'.get? b = some o) → Q (.int ns.sum t') { s with heap := h', toks := tk }) : wpAny (model prog w) A (call (.builtin "sum") [.ref t]) Q E s := by
  obtain ⟨xs, e⟩ := hi.allInts.items
  have hn : numsOf (intItems xs).toList = ns := by rw [← e]; exact hi.numsOf
  rw [nums_intItems] at hn
  have hl : s.heap.IsTuple t its.toArray := ht
  rw [e] at hl
  refine PySem.W.ktm_sumG hh hl fun h' tk t' hk => ?_
  have := h h' tk t' hk
  rw [preSum_eq, List.take_of_length_le (by simp), hn]; exact this
theorem maxT_raw (hh : A.handled = none) (ht : IsTup s.heap t its.toArray) (hi : IntsAre its ns) (hne : 0 < ns.length)
    (h : ∀ h' tk M t', (∀ b o, s.heap.get? b = some o → h'.get? b = some o) → M ∈ ns → (∀ a, a ∈ ns → a ≤ M) → Q (.int M t') { s with heap := h', toks := tk }) : wpAny (model prog w) A (call (.builtin "max") [.ref t]) Q E s := by
  obtain ⟨xs, e⟩ := hi.allInts.items
  have hn : numsOf (intItems xs).toList = ns := by rw [← e]; exact hi.numsOf
  rw [nums_intItems] at hn
  subst hn
  have hl : s.heap.IsTuple t its.toArray := ht
  rw [e] at hl
  have hsz : 0 < xs.size := by simpa using hne
  obtain ⟨o, ho, hc, n, hd⟩ := id hl
  have hne' : t ≠ s.heap.objs.size := Nat.ne_of_lt (Heap.lt_size ho)
  have hsz2 : (intItems xs).size = xs.size := by simp [intItems]
  refine call_max_walk (wpAny_pyIter_tuple hl ?_)
  refine ⟨_, _, _, _, _, _, _, rfl, Walks.tuple (A := A.in1) hh s.heap.objs.size t hne' (intItems xs), ⟨⟨_, Heap.get?_push_size _ rfl, rfl, rfl⟩, hl.at fun o e => Heap.get?_push_of_some _ e⟩, fun b hb => ?_, by rw [hsz2]; exact hsz, CmpOf.ints_gt (numAt xs) (fun _ _ => intItems_at), fun v h' tk hP hk => ?_⟩
  · rcases List.mem_cons.mp hb with rfl | hb
    · exact Heap.lt_size (Heap.get?_push_size _ rfl)
    · obtain rfl := List.mem_singleton.mp hb
      exact Heap.lt_size (Heap.get?_push_of_some _ ho)
  · obtain ⟨t', rfl⟩ := intItems_at hP
    rw [hsz2]
    obtain ⟨h1, h2⟩ := argBest_gt (numAt xs) (xs.size - 1)
    refine h h' tk _ t' (fun b o e => hk b o (fun hb => absurd (Heap.lt_size e) ((List.mem_singleton.mp hb) ▸ Nat.lt_irrefl _)) (Heap.get?_push_of_some _ e)) ?_ fun a ha => ?_
    · rw [numAt_eq]; exact PySem.getD_mem (by rw [List.length_map, Array.length_toList]; omega)
    · obtain ⟨j, hj, rfl⟩ := mem_getD ha
      rw [List.length_map, Array.length_toList] at hj
      rw [← numAt_eq]; exact h2 j (by omega)
end
section
variable {X : Cx}
theorem cr_sumT (hc : X.calm = true) : CallR X (.builtin "sum") (rSumT X.K) := by
  intro pins s σ H vs us Q I r h
  obtain ⟨a, ns, rfl, hs, q⟩ := h
  obtain ⟨its, rv, hl, _⟩ := I.tuple hs
  rw [Vals.ref1 r]
  exact sumT_raw (I.ok.hd hc) hl rv.ints fun h' tk t' hk => ⟨.int _, H, I.kept hk, ⟨_, rfl⟩, q⟩
theorem cr_maxT (hc : X.calm = true) : CallR X (.builtin "max") (rMaxT X.K) := by
  intro pins s σ H vs us Q I r h
  obtain ⟨a, ns, rfl, hs, hne, q⟩ := h
  obtain ⟨its, rv, hl, _⟩ := I.tuple hs
  rw [Vals.ref1 r]
  exact maxT_raw (I.ok.hd hc) hl rv.ints hne fun h' tk m t' hk h1 h2 => ⟨.int _, H, I.kept hk, ⟨_, rfl⟩, q m h1 h2⟩
theorem k_max : CallG X.K (fun xs H Q => (∃ i j, xs = [.int i, .int j] ∧ Q (.int (if j > i then j else i)) H) ∨ rMax X.K xs H Q ∨ rMaxT X.K xs H Q) maxD := by
  intro c B σ H μ xs ds z Q r h hz k
  unfold maxD at hz
  split at hz
  · cases hz
    obtain ⟨x, y, rfl, hx, hy⟩ := lka2 h
    rw [hx.int, hy.int]
    exact .inl ⟨_, _, rfl, k.go r (.int _)⟩
  · simp only [Option.bind_eq_some_iff] at hz
    obtain ⟨ns, h1, h2⟩ := hz
    split at h2
    · rename_i hn
      cases h2
      obtain ⟨x, rfl, hx⟩ := lka1 h
      obtain ⟨p, vs, rfl, h3, h4⟩ := hx.list r.r0.ext
      rw [ints?_some h1] at h4
      refine .inr (.inl ⟨p, ns, rfl, ?_, hn, fun m hm hall => ?_⟩)
      · rw [← h4.ints]; exact SqL.of h3
      · rw [maxL_eq hm hall]; exact k.go r (.int _)
    · cases h2
  · simp only [Option.bind_eq_some_iff] at hz
    obtain ⟨ns, h1, h2⟩ := hz
    split at h2
    · rename_i hn
      cases h2
      obtain ⟨x, rfl, hx⟩ := lka1 h
      obtain ⟨p, vs, rfl, h3, h3', h4⟩ := hx.tuple r.r0.ext
      rw [ints?_some h1] at h4
      refine .inr (.inr ⟨p, ns, rfl, ?_, hn, fun m hm hall => ?_⟩)
      · rw [← h4.ints]; exact h3
      · rw [maxL_eq hm hall]; exact k.go r (.int _)
    · cases h2
  · cases hz
def minDL : List D → Option D
  | [.int i, .int j] => some (.int (if j < i then j else i))
  | [.list ds] => (ints? ds).bind fun ns => if 0 < ns.length then some (.int (minL ns)) else none
  | _ => none
theorem k_min : CallG X.K (fun xs H Q => (∃ i j, xs = [.int i, .int j] ∧ Q (.int (if j < i then j else i)) H) ∨ rMin X.K xs H Q) minDL := by
  intro c B σ H μ xs ds z Q r h hz k
  unfold minDL at hz
  split at hz
  · cases hz
    obtain ⟨x, y, rfl, hx, hy⟩ := lka2 h
    rw [hx.int, hy.int]
    exact .inl ⟨_, _, rfl, k.go r (.int _)⟩
  · simp only [Option.bind_eq_some_iff] at hz
    obtain ⟨ns, h1, h2⟩ := hz
    split at h2
    · rename_i hn
      cases h2
      obtain ⟨x, rfl, hx⟩ := lka1 h
      obtain ⟨p, vs, rfl, h3, h4⟩ := hx.list r.r0.ext
      rw [ints?_some h1] at h4
      refine .inr ⟨p, ns, rfl, ?_, hn, fun m hm hall => ?_⟩
      · rw [← h4.ints]; exact SqL.of h3
      · rw [minL_eq hm hall]; exact k.go r (.int _)
    · cases h2
  · cases hz
theorem k_sum : CallG X.K (fun xs H Q => rSum X.K xs H Q ∨ rSumT X.K xs H Q) sumD := by
  intro c B σ H μ xs ds z Q r h hz k
  unfold sumD at hz
  split at hz
  · simp only [Option.bind_eq_some_iff] at hz
    obtain ⟨ns, h1, h2⟩ := hz
    cases h2
    obtain ⟨x, rfl, hx⟩ := lka1 h
    obtain ⟨p, vs, rfl, h3, h4⟩ := hx.list r.r0.ext
    rw [ints?_some h1] at h4
    exact .inl ⟨p, ns, rfl, by rw [← h4.ints]; exact SqL.of h3, k.go r (.int _)⟩
  · simp only [Option.bind_eq_some_iff] at hz
    obtain ⟨ns, h1, h2⟩ := hz
    cases h2
    obtain ⟨x, rfl, hx⟩ := lka1 h
    obtain ⟨p, vs, rfl, h3, h3', h4⟩ := hx.tuple r.r0.ext
    rw [ints?_some h1] at h4
    exact .inr ⟨p, ns, rfl, by rw [← h4.ints]; exact h3, k.go r (.int _)⟩
  · cases hz
theorem k_any : CallG X.K (rAny X.K) anyD := by
  intro c B σ H μ xs ds z Q r h hz k
  unfold anyD at hz
  split at hz
  · simp only [Option.bind_eq_some_iff] at hz
    obtain ⟨ns, h1, h2⟩ := hz
    cases h2
    obtain ⟨x, rfl, hx⟩ := lka1 h
    obtain ⟨p, vs, rfl, h3, h4⟩ := hx.list r.r0.ext
    rw [bools?_some h1] at h4
    exact ⟨p, ns, rfl, by rw [← h4.bools]; exact SqL.of h3, k.go r (.bl _)⟩
  · cases hz
theorem k_all : CallG X.K (rAll X.K) allD := by
  intro c B σ H μ xs ds z Q r h hz k
  unfold allD at hz
  split at hz
  · simp only [Option.bind_eq_some_iff] at hz
    obtain ⟨ns, h1, h2⟩ := hz
    cases h2
    obtain ⟨x, rfl, hx⟩ := lka1 h
    obtain ⟨p, vs, rfl, h3, h4⟩ := hx.list r.r0.ext
    rw [bools?_some h1] at h4
    exact ⟨p, ns, rfl, by rw [← h4.bools]; exact SqL.of h3, k.go r (.bl _)⟩
  · cases hz
/-! ### as rules -/
variable {p pos : Pos} {e : Expr} {es : List Expr} {m : M (List O)}
theorem e_len (hm : X.mg "len" = none) (ha : DA X (e :: es) m) (hg : Gl X "len" := by rfl) (he : starEach (e :: es) X.env = (false, eval e X.env) :: starEach es X.env := by rfl) (hpl : (backTo pos (starEach es X.env)).any (·.1) = false := by rfl) : DE X (.Call (.Name "len" p) (e :: es) [] pos) (mCall lenD m) :=
  e_callB call_len k_len hg hm PySem.boot_len ha (by decide) (by decide) he hpl
theorem e_tuple (hm : X.mg "tuple" = none) (ha : DA X (e :: es) m) (hg : Gl X "tuple" := by rfl) (he : starEach (e :: es) X.env = (false, eval e X.env) :: starEach es X.env := by rfl) (hpl : (backTo pos (starEach es X.env)).any (·.1) = false := by rfl) : DE X (.Call (.Name "tuple" p) (e :: es) [] pos) (mCall tupD m) :=
  e_callTy call_tuple_of k_tup hg hm (by decide +kernel) ha (by decide) (by decide) he hpl
theorem f_list (hm : X.mg "list" = none) (ha : DA X (e :: es) m) (hg : Gl X "list" := by rfl) (he : starEach (e :: es) X.env = (false, eval e X.env) :: starEach es X.env := by rfl) (hpl : (backTo pos (starEach es X.env)).any (·.1) = false := by rfl) : DF X (.Call (.Name "list" p) (e :: es) [] pos) (mCall listF m) :=
  f_callTy call_list_of k_list hg hm (by decide +kernel) ha (by decide) (by decide) he hpl
theorem e_abs (hm : X.mg "abs" = none) (ha : DA X (e :: es) m) (hg : Gl X "abs" := by rfl) (he : starEach (e :: es) X.env = (false, eval e X.env) :: starEach es X.env := by rfl) (hpl : (backTo pos (starEach es X.env)).any (·.1) = false := by rfl) : DE X (.Call (.Name "abs" p) (e :: es) [] pos) (mCall absD m) :=
  e_callB call_abs k_abs hg hm (by decide +kernel) ha (by decide) (by decide) he hpl
theorem e_intc (hm : X.mg "int" = none) (ha : DA X (e :: es) m) (hg : Gl X "int" := by rfl) (he : starEach (e :: es) X.env = (false, eval e X.env) :: starEach es X.env := by rfl) (hpl : (backTo pos (starEach es X.env)).any (·.1) = false := by rfl) : DE X (.Call (.Name "int" p) (e :: es) [] pos) (mCall intD m) :=
  e_callTy call_int1 k_int hg hm (by decide +kernel) ha (by decide) (by decide) he hpl
theorem e_max (hc : X.calm = true) (hm : X.mg "max" = none) (ha : DA X (e :: es) m) (hg : Gl X "max" := by rfl) (he : starEach (e :: es) X.env = (false, eval e X.env) :: starEach es X.env := by rfl) (hpl : (backTo pos (starEach es X.env)).any (·.1) = false := by rfl) : DE X (.Call (.Name "max" p) (e :: es) [] pos) (mCall maxD m) :=
  e_callB (CallR.or (call_max2 hc) (CallR.or (cr_max hc) (cr_maxT hc))) k_max hg hm (by decide +kernel) ha (by decide) (by decide) he hpl
theorem e_min (hc : X.calm = true) (hm : X.mg "min" = none) (ha : DA X (e :: es) m) (hg : Gl X "min" := by rfl) (he : starEach (e :: es) X.env = (false, eval e X.env) :: starEach es X.env := by rfl) (hpl : (backTo pos (starEach es X.env)).any (·.1) = false := by rfl) : DE X (.Call (.Name "min" p) (e :: es) [] pos) (mCall minDL m) :=
  e_callB (CallR.or (call_min2 hc) (cr_min hc)) k_min hg hm (by decide +kernel) ha (by decide) (by decide) he hpl
theorem e_sum (hc : X.calm = true) (hm : X.mg "sum" = none) (ha : DA X (e :: es) m) (hg : Gl X "sum" := by rfl) (he : starEach (e :: es) X.env = (false, eval e X.env) :: starEach es X.env := by rfl) (hpl : (backTo pos (starEach es X.env)).any (·.1) = false := by rfl) : DE X (.Call (.Name "sum" p) (e :: es) [] pos) (mCall sumD m) :=
  e_callB (CallR.or (cr_sum hc) (cr_sumT hc)) k_sum hg hm (by decide +kernel) ha (by decide) (by decide) he hpl
theorem e_any (hc : X.calm = true) (hm : X.mg "any" = none) (ha : DA X (e :: es) m) (hg : Gl X "any" := by rfl) (he : starEach (e :: es) X.env = (false, eval e X.env) :: starEach es X.env := by rfl) (hpl : (backTo pos (starEach es X.env)).any (·.1) = false := by rfl) : DE X (.Call (.Name "any" p) (e :: es) [] pos) (mCall anyD m) :=
  e_callB (cr_any hc) k_any hg hm (by decide +kernel) ha (by decide) (by decide) he hpl
theorem e_all (hc : X.calm = true) (hm : X.mg "all" = none) (ha : DA X (e :: es) m) (hg : Gl X "all" := by rfl) (he : starEach (e :: es) X.env = (false, eval e X.env) :: starEach es X.env := by rfl) (hpl : (backTo pos (starEach es X.env)).any (·.1) = false := by rfl) : DE X (.Call (.Name "all" p) (e :: es) [] pos) (mCall allD m) :=
  e_callB (cr_all hc) k_all hg hm (by decide +kernel) ha (by decide) (by decide) he hpl
end

/-! ### isinstance(x, T) -/
def tyName : D → String
  | .none => "NoneType"
  | .bool _ => "bool"
  | .int _ => "int"
  | .str _ => "str"
  | .list _ => "list"
  | .tuple _ => "tuple"
  | .dict _ => "list"
def isiD (T : String) (d : D) : Option D := (kitB (tyName d) T).bind fun b => some (.bool b)
def mIsi (T : String) (ma : M O) : M D := m1 (isiD T) ma
section
variable {X : Cx} {a : Expr} {ma : M O} {p q pos : Pos} {T : String} {y : Str}
theorem lk_ty {K : PySem.W.Frag} {st : Option (Addr × Addr)} {B H : Hp} {x : V} {d : D} (h : Lk K st B H x d) (e : Ext B H) (nd : ∀ ks, d ≠ .dict ks) : TyX K H x (.type (tyName d)) := by
  cases d with
  | none => rw [h.none]; exact .base .non
  | bool b => rw [h.bool]; exact .base (.bl b)
  | int i => rw [h.int]; exact .base (.int i)
  | str s => rw [h.str]; exact .base (.str s)
  | list ds =>
    obtain ⟨p, vs, rfl, h1, h2⟩ := h.list e
    exact .base (.lst h1)
  | tuple ds =>
    obtain ⟨p, vs, rfl, h1, _, h2⟩ := h.tuple e
    rcases h1 with (h1 | ⟨o, h1⟩) | ⟨o, its, n, k1, k2, _⟩
    · exact .base (.tup h1)
    · exact .fTuple h1
    · exact .kTuple k1 k2
  | dict ks => exact absurd rfl (nd ks)
/-- isinstance(x, T), T the name of a built-in type -/
theorem e_isi (T : String) (hm : X.mg "isinstance" = none) (hmT : X.mg y = none) (ha : DO X a ma) (hvT : bootBuiltins y = some (.type T)) (hgT : Gl X y := by rfl) (hg : Gl X "isinstance" := by rfl) (hnT : y ≠ "__name__" := by decide) (hdT : (y == ("__debug__" : Str)) = false := by decide)
    (h1 : starEach [a, .Name y q] X.env = (false, eval a X.env) :: starEach [.Name y q] X.env := by rfl) (h2 : starEach [.Name y q] X.env = (false, eval (.Name y q) X.env) :: starEach [] X.env := by rfl) (hpl : (backTo pos (starEach [.Name y q] X.env)).any (·.1) = false := by rfl) :
    DE X (.Call (.Name "isinstance" p) [a, .Name y q] [] pos) (m1 (fun d => match d with | .dict _ => none | d => isiD T d) ma) := by
  obtain ⟨t, pt, o⟩ := ha.ex
  refine ⟨_, pe_callB call_isi hg hm (by decide +kernel) (pa_cons pt (pa_cons (pe_bltn (v := .ty T) hgT hmT hvT rfl hnT hdT) pa_nil h2) h1) (by decide) (by decide) h1 hpl, fun c B σ H μ z μ' Q rel hmm k => ?_⟩
  unfold m1 at hmm
  simp only [Option.bind_eq_some_iff] at hmm
  obtain ⟨⟨o1, μ1⟩, g1, d, g2, z', g3, g4⟩ := hmm
  cases g4
  refine o c B σ H μ o1 _ _ rel g1 fun B1 H1 x e1 r1 x1 => ?_
  have hx := look_ok r1 x1 g2
  have nd : ∀ ks, d ≠ .dict ks := fun ks e => by subst e; cases g3
  have g3' : isiD T d = some z := by
    cases d <;> first | exact g3 | cases g3
  unfold isiD at g3'
  simp only [Option.bind_eq_some_iff] at g3'
  obtain ⟨b, g5, g6⟩ := g3'
  cases g6
  exact ⟨x, .ty T, _, _, b, rfl, .ty T, lk_ty hx r1.r0.ext nd, kit_ty g5, (k.ext e1).go r1 (.bl b)⟩
end

/-! ### x.bit_length(), sep.join(..) -/
def bitsD : D → Option D
  | .int i => some (.int (Builtin.Int.intBits i : Nat))
  | _ => none
def joinD (a : Str) : D → Option D
  | .list ds => (strs? ds).bind fun ys => if (ys.map (·.length)).sum + ys.length * a.length ≤ 16777216 then some (.str (Txt.join a ys)) else none
  | .tuple ds => (strs? ds).bind fun ys => if (ys.map (·.length)).sum + ys.length * a.length ≤ 16777216 then some (.str (Txt.join a ys)) else none
  | _ => none
section
variable {X : Cx} {a b : Expr} {ma mb : M O} {apos pos : Pos}
theorem e_bits (ha : DO X a ma) (hbase : attributeBase a "bit_length" X.env (eval a X.env) = eval a X.env := by rfl) (hline : (apos.endLine == pos.line) = true := by rfl) : DE X (.Call (.Attribute a "bit_length" apos) [] [] pos) (m1 bitsD ma) := by
  obtain ⟨t, pt, o⟩ := ha.ex
  refine ⟨_, pe_bits pt hbase hline, fun c B σ H μ z μ' Q rel hmm k => ?_⟩
  unfold m1 at hmm
  simp only [Option.bind_eq_some_iff] at hmm
  obtain ⟨⟨o1, μ1⟩, g1, d, g2, z', g3, g4⟩ := hmm
  cases g4
  refine o c B σ H μ o1 _ _ rel g1 fun B1 H1 x e1 r1 x1 => ?_
  have hx := look_ok r1 x1 g2
  unfold bitsD at g3
  split at g3
  · cases g3
    exact ⟨_, hx.int, (k.ext e1).go r1 (.int _)⟩
  · cases g3
theorem e_join {s : Str} (ha : DE X a (mC (.str s))) (hb : DO X b mb) (hs : starEach [b] X.env = [(false, eval b X.env)] := by rfl) (hbase : attributeBase a "join" X.env (eval a X.env) = eval a X.env := by rfl) (hline : (apos.endLine == pos.line) = true := by rfl) :
    DE X (.Call (.Attribute a "join" apos) [b] [] pos) (m1 (joinD s) mb) := by
  obtain ⟨t, pt, o⟩ := ha.ex
  obtain ⟨t2, pt2, o2⟩ := hb.ex
  refine ⟨_, pe_join pt pt2 hs hbase hline, fun c B σ H μ z μ' Q rel hmm k => ?_⟩
  unfold m1 at hmm
  simp only [Option.bind_eq_some_iff] at hmm
  obtain ⟨⟨o1, μ1⟩, g1, d, g2, z', g3, g4⟩ := hmm
  cases g4
  refine o c B σ H μ _ μ _ rel rfl fun B1 H1 x e1 r1 x1 => ⟨⟨s, by cases x1; rfl⟩, ?_⟩
  cases x1
  refine o2 c B1 σ H1 μ o1 _ _ r1 g1 fun B2 H2 y e2 r2 y2 => ?_
  have hy := look_ok r2 y2 g2
  unfold joinD at g3
  split at g3
  · simp only [Option.bind_eq_some_iff] at g3
    obtain ⟨ys, g5, g6⟩ := g3
    split at g6
    · rename_i hl
      cases g6
      obtain ⟨p, vs, rfl, h1, h2⟩ := hy.list r2.r0.ext
      rw [strs?_some g5] at h2
      exact ⟨_, p, ys, rfl, rfl, .inl (by rw [← h2.strs]; exact SqL.of h1), hl, (k.ext (e1.trans e2)).go r2 (.str _)⟩
    · cases g6
  · simp only [Option.bind_eq_some_iff] at g3
    obtain ⟨ys, g5, g6⟩ := g3
    split at g6
    · rename_i hl
      cases g6
      obtain ⟨p, vs, rfl, h1, h1', h2⟩ := hy.tuple r2.r0.ext
      rw [strs?_some g5] at h2
      exact ⟨_, p, ys, rfl, rfl, .inr (by rw [← h2.strs]; exact h1), hl, (k.ext (e1.trans e2)).go r2 (.str _)⟩
    · cases g6
  · cases g3
end

/-! ### list(range(..)), tuple(range(..)) -/
section
variable {X : Cx} {a : Expr} {ma : M O} {p q pos pos2 : Pos}
def rgD : D → Option (List D)
  | .int n => if 0 ≤ n ∧ n ≤ 16777216 then some (intsR 0 n.toNat) else none
  | _ => none
theorem rgV_rp {K : PySem.W.Frag} {st : Option (Addr × Addr)} {B : Hp} (n : Int) (h : 0 ≤ n) : RpA K st B (rgV 0 n) (intsR 0 n.toNat) := by
  have e1 : rgV 0 n = ((List.range n.toNat).map fun i => (0 + ((i : Nat) : Int))).map V.int := by
    unfold rgV
    rw [List.map_map]
    have : (n - 0).toNat = n.toNat := by omega
    rw [this]
    rfl
  have e2 : intsR 0 n.toNat = ((List.range n.toNat).map fun i => (0 + ((i : Nat) : Int))).map PyData.int := by
    unfold intsR
    rw [List.map_map]
    rfl
  rw [e1, e2]
  exact RpA.ofInts _
def mRg (ma : M O) : M (List D) := fun μ => (ma μ).bind fun p => (look p.1 p.2).bind fun d => (rgD d).bind fun z => some (z, p.2)
theorem f_listRg (hc : X.calm = true) (hm : X.mg "list" = none) (hm2 : X.mg "range" = none) (ha : DO X a ma) (hg : Gl X "list" := by rfl) (hg2 : Gl X "range" := by rfl) (na : starEach [a] X.env = (false, eval a X.env) :: starEach [] X.env := by rfl)
    (nb : starEach [.Call (.Name "range" q) [a] [] pos2] X.env = (false, eval (.Call (.Name "range" q) [a] [] pos2) X.env) :: starEach [] X.env := by rfl) :
    DF X (.Call (.Name "list" p) [.Call (.Name "range" q) [a] [] pos2] [] pos) (mRg ma) := by
  obtain ⟨t, pt, o⟩ := ha.ex
  refine ⟨_, pe_listRg hc hg hm (prg_1 hg2 hm2 pt na) nb, fun c B σ H μ z μ' Q rel hmm k => ?_⟩
  unfold mRg at hmm
  simp only [Option.bind_eq_some_iff] at hmm
  obtain ⟨⟨o1, μ1⟩, g1, d, g2, z', g3, g4⟩ := hmm
  cases g4
  refine o c B σ H μ o1 _ _ rel g1 fun B1 H1 x e1 r1 x1 => ?_
  have hx := look_ok r1 x1 g2
  unfold rgD at g3
  split at g3
  · split at g3
    · rename_i n hn
      cases g3
      refine ⟨n, hx.int, RgOk.of_le (by omega) (by omega) (by omega) hn.1, fun a ha => ?_⟩
      obtain ⟨f0, fb⟩ := r1.r0.fresh ha
      exact k B1 _ a _ e1 (r1.hide ha) upd_same fb f0 (r1.noOwn ha) (rgV_rp n hn.1)
    · cases g3
  · cases g3
end

/-! ### stores into lists of ours -/
def sIx (i : Nat) (mi me : M D) : MT := fun μ => match me μ with
  | some (d, μ1) => (match owned μ1 i with
    | some _ => (match mi μ1 with
      | some (.int k, μ2) => (match owned μ2 i with
        | some ds => (match ixN ds.length k with
          | some j => .nx (setS μ2 i (.own (ds.set j d)))
          | none => .bad)
        | none => .bad)
      | _ => .bad)
    | none => .bad)
  | none => .bad
section
variable {X : Cx} {x : Str} {px pos tpos : Pos} {ie e : Expr} {mi me : M D}
theorem s_ix (i : Nat) (he : DE X e me) (hi : DE X ie mi) (hN : X.N[i]? = some x := by rfl) (hv : Vis X.env.scope x := by first | exact Or.inl rfl | exact Or.inr (Or.inl rfl) | exact Or.inr (Or.inr rfl)) (hd : (x == ("__debug__" : Str)) = false := by decide)
    (hcd : (x == ("__classdict__" : Str)) = false := by decide) (ha : ∀ v, assign (.Subscript (.Name x px) ie tpos) X.env v = (do
      let ov ← holding [v] (eval (.Name x px) X.env)
      let iv ← holding [v, ov] (eval ie X.env)
      standAt tpos
      holding [v, ov, iv] (setItem ov iv v)
      release [v, ov, iv] []) := by intro _; rfl) (hs : swapsWithSole [.Subscript (.Name x px) ie tpos] e pos.line X.env = pure false := by rfl) (hw : swappedStores [.Subscript (.Name x px) ie tpos] e X.env = pure none := by rfl)
    (h1 : (assignEach [.Subscript (.Name x px) ie tpos] X.env).map (·.2) = [assign (.Subscript (.Name x px) ie tpos) X.env] := by rfl) : DS X (.Assign [.Subscript (.Name x px) ie tpos] e pos) (sIx i mi me) := by
  obtain ⟨t, pt, o⟩ := he.ex
  obtain ⟨t2, pt2, o2⟩ := hi.ex
  refine ⟨_, ps_asg pt (pg_sub (pv i hN hv hd hcd) pt2 set_list ha) hs hw h1, fun c B σ H μ E r a => ?_⟩
  unfold sIx at a
  split at a
  · rename_i d μ1 hm1
    split at a
    · rename_i ds0 ho1
      split at a
      · rename_i k μ2 hm2
        split at a
        · rename_i ds ho2
          split at a
          · rename_i j hj
            refine o c B σ H μ d μ1 _ r hm1 fun B1 H1 v e1 r1 hv1 => ?_
            obtain ⟨q, vs, s1, s2, s3, s4⟩ := r1.tyL ho1
            refine ⟨_, s1, o2 c B1 σ H1 μ1 _ μ2 _ r1 hm2 fun B2 H2 w e2 r2 hw2 => ?_⟩
            cases hw2
            obtain ⟨q', vs', t1, t2', t3, t4⟩ := r2.tyL ho2
            rw [s1] at t1; cases t1
            refine ⟨q, vs', k, j, rfl, rfl, t2', by rw [t3.length]; exact hj, ?_⟩
            exact a B2 σ _ (e1.trans e2) (r2.ownSet (owned_some ho2) s1 (RpA.set (hv1.mono e2) j t3))
          · exact a.elim
        · exact a.elim
      · exact a.elim
    · exact a.elim
  · exact a.elim
end
/-- x[i] op= e -/
def getL (K : PySem.W.Frag) : V → V → Hp → VK → Prop := fun o i H Q => ∃ p xs k v, o = .ref p ∧ i = .int k ∧ SqL K H p xs ∧ 0 ≤ k ∧ k < 2 ^ 63 ∧ xs[k.toNat]? = some v ∧ Q v H
theorem get_list {X : Cx} : PGet X (getL X.K) := by
  intro pins s σ H o i ov iv Q I ro ri h
  obtain ⟨p, xs, k, v, rfl, rfl, hq, h0, h1, hv, q⟩ := h
  cases ro
  obtain ⟨t, rfl⟩ := ri
  obtain ⟨its, r, pl, hz⟩ := I.list hq
  obtain ⟨u, hu, ru⟩ := r.get hv
  exact wpAny_getItem_list pl.isList h0 h1 (by simpa using hu) ⟨v, H, I, ru, q⟩
def sAugIx (g : D → D → Option D) (i : Nat) (mi me : M D) : MT := fun μ => match owned μ i with
  | some _ => (match mi μ with
    | some (.int k, μ1) => (match owned μ1 i with
      | some ds => if 0 ≤ k ∧ k < 2 ^ 63 then (match ds[k.toNat]? with
        | some old => (match me μ1 with
          | some (y, μ2) => (match g old y with
            | some z => (match owned μ2 i with
              | some ds' => (match ixN ds'.length k with
                | some j => .nx (setS μ2 i (.own (ds'.set j z)))
                | none => .bad)
              | none => .bad)
            | none => .bad)
          | none => .bad)
        | none => .bad) else .bad
      | none => .bad)
    | _ => .bad)
  | none => .bad
section
variable {X : Cx} {x : Str} {px pos tpos : Pos} {ie e : Expr} {mi me : M D}
theorem s_augIx (i : Nat) {op : Operator} {g : D → D → Option D} {f : Int → Int → Int} (ho : PIp X op (ipI f)) (hg : ∀ a b z, g a b = some z → ∃ i j, a = .int i ∧ b = .int j ∧ z = .int (f i j)) (hi : DE X ie mi) (he : DE X e me) (hN : X.N[i]? = some x := by rfl) (hv : Vis X.env.scope x := by first | exact Or.inl rfl | exact Or.inr (Or.inl rfl) | exact Or.inr (Or.inr rfl)) (hd : (x == ("__debug__" : Str)) = false := by decide)
    (hcd : (x == ("__classdict__" : Str)) = false := by decide) (ha : ∀ ov iv new, augStore ie ov iv new = (do holding [new, ov, iv] (setItem ov iv new); release [new, ov, iv] []; pure .next) := by intros; rfl) :
    DS X (.AugAssign (.Subscript (.Name x px) ie tpos) op e pos) (sAugIx g i mi me) := by
  obtain ⟨t, pt, o⟩ := he.ex
  obtain ⟨t2, pt2, o2⟩ := hi.ex
  refine ⟨_, ps_augS (pv i hN hv hd hcd) pt2 get_list pt ho set_list ha, fun c B σ H μ E r a => ?_⟩
  unfold sAugIx at a
  split at a
  · rename_i ds0 ho0
    split at a
    · rename_i k μ1 hm1
      split at a
      · rename_i ds ho1
        split at a
        · rename_i hk
          split at a
          · rename_i old hold
            split at a
            · rename_i y μ2 hm2
              split at a
              · rename_i z hz
                split at a
                · rename_i ds' ho2
                  split at a
                  · rename_i j hj
                    obtain ⟨i1, j1, rfl, rfl, rfl⟩ := hg _ _ _ hz
                    obtain ⟨q, vs, s1, s2, s3, s4⟩ := r.tyL ho0
                    refine ⟨_, s1, o2 c B σ H μ _ μ1 _ r hm1 fun B1 H1 v e1 r1 hv1 => ?_⟩
                    cases hv1
                    obtain ⟨q', vs', t1, t2', t3, t4⟩ := r1.tyL ho1
                    rw [s1] at t1; cases t1
                    obtain ⟨v, g1, g2⟩ := t3.get hold
                    cases g2
                    refine ⟨q, vs', k, _, rfl, rfl, SqL.of t2', hk.1, hk.2, g1, ?_⟩
                    refine o c B1 σ H1 μ1 _ μ2 _ r1 hm2 fun B2 H2 w e2 r2 hw2 => ?_
                    cases hw2
                    refine ⟨_, _, rfl, rfl, ?_⟩
                    obtain ⟨q'', vs'', u1, u2, u3, u4⟩ := r2.tyL ho2
                    rw [s1] at u1; cases u1
                    refine ⟨q, vs'', k, j, rfl, rfl, u2, by rw [u3.length]; exact hj, ?_⟩
                    exact a B2 σ _ (e1.trans e2) (r2.ownSet (owned_some ho2) s1 (RpA.set (.int _) j u3))
                  · exact a.elim
                · exact a.elim
              · exact a.elim
            · exact a.elim
          · exact a.elim
        · exact a.elim
      · exact a.elim
    · exact a.elim
  · exact a.elim
theorem addI_spec (a b z : D) (h : addI a b = some z) : ∃ i j, a = .int i ∧ b = .int j ∧ z = .int (i + j) := by
  unfold addI at h
  split at h
  · cases h; exact ⟨_, _, rfl, rfl, rfl⟩
  · cases h
end
end Mi
/-! Mi, seventh part: several names at once, the draws, a law's end. -/
namespace Mi
open PySem PySem.Spec PyProof.Rows L2

/-! ### a, b = e, f -/
inductive Sv where
  | val (d : D)
  | own (ds : List D)
def Sv.sl : Sv → Sl
  | .val d => .val d
  | .own ds => .own ds
def SvOk (K : PySem.W.Frag) (c : C) (B : Hp) (σ : St) (H : Hp) (μ : MS) (v : V) : Sv → Prop
  | .val d => Rp K c.st B v d
  | .own ds => ∃ p vs, v = .ref p ∧ H p = some (.lst vs) ∧ B p = none ∧ c.H0 p = none ∧ NoOwn σ μ p ∧ RpA K c.st B vs ds

/-- p is one of the new lists among these -/
def OwnsIn (p : Addr) : List V → List Sv → Prop
  | v :: vs, .own _ :: ss => v = .ref p ∨ OwnsIn p vs ss
  | _ :: vs, .val _ :: ss => OwnsIn p vs ss
  | _, _ => False
inductive SvA (K : PySem.W.Frag) (c : C) (B : Hp) (σ : St) (H : Hp) (μ : MS) : List V → List Sv → Prop
  | nil : SvA K c B σ H μ [] []
  | val {v : V} {vs : List V} {d : D} {ss : List Sv} : Rp K c.st B v d → SvA K c B σ H μ vs ss → SvA K c B σ H μ (v :: vs) (.val d :: ss)
  | own {p : Addr} {us : List V} {ds : List D} {vs : List V} {ss : List Sv} : H p = some (.lst us) → B p = none → c.H0 p = none → NoOwn σ μ p → RpA K c.st B us ds → ¬ OwnsIn p vs ss → SvA K c B σ H μ vs ss → SvA K c B σ H μ (.ref p :: vs) (.own ds :: ss)
section
variable {K : PySem.W.Frag} {c : C} {B B' H H' : Hp} {σ : St} {μ : MS} {vs : List V} {ss : List Sv}
theorem SvA.length (h : SvA K c B σ H μ vs ss) : vs.length = ss.length := by
  induction h with
  | nil => rfl
  | val _ _ ih => simp [ih]
  | own _ _ _ _ _ _ _ ih => simp [ih]
theorem SvA.unpin {p : Addr} {o : HO} (h : SvA K (c.pin p o) B σ H μ vs ss) : SvA K c B σ H μ vs ss ∧ ¬ OwnsIn p vs ss := by
  induction h with
  | nil => exact ⟨.nil, fun z => z⟩
  | val a _ ih => exact ⟨.val a ih.1, ih.2⟩
  | @own q us ds vs ss a1 a2 a3 a4 a5 a6 _ ih =>
    have a3' : upd c.H0 p o q = none := a3
    have nq : q ≠ p := fun z => by subst z; rw [upd_same] at a3'; cases a3'
    rw [upd_ne nq] at a3'
    refine ⟨.own a1 a2 a3' a4 a5 a6 ih.1, fun z => ?_⟩
    rcases z with z | z
    · cases z; exact nq rfl
    · exact ih.2 z
/-- a fresh object hides nothing of it -/
theorem SvA.hide {p : Addr} {o : HO} (h : SvA K c B σ H μ vs ss) (hp : H p = none) : SvA K c B σ (upd H p o) μ vs ss := by
  induction h with
  | nil => exact .nil
  | val a _ ih => exact .val a ih
  | own a1 a2 a3 a4 a5 a6 _ ih => exact .own (by rw [upd_ne (ne_of_none a1 hp)]; exact a1) a2 a3 a4 a5 a6 ih
end
def OkX (K : PySem.W.Frag) (t : TA) (m : M (List Sv)) : Prop := ∀ (c : C) (B : Hp) (σ : St) (H : Hp) (μ : MS) (ss : List Sv) (μ' : MS) (Q : List V → Hp → Prop), Rel K c B σ H μ → m μ = some (ss, μ') →
  (∀ B' H' vs, Ext B B' → Rel K c B' σ H' μ' → SvA K c B' σ H' μ' vs ss → Q vs H') → t σ H Q
structure DX (X : Cx) (es : List Expr) (m : M (List Sv)) : Prop where
  ex : ∃ t, PA X es t ∧ OkX X.K t m
def xNil : M (List Sv) := fun μ => some ([], μ)
def xVal (m : M D) (n : M (List Sv)) : M (List Sv) := fun μ => (m μ).bind fun p => (n p.2).bind fun q => some (.val p.1 :: q.1, q.2)
def xNew (m : M (List D)) (n : M (List Sv)) : M (List Sv) := fun μ => (m μ).bind fun p => (n p.2).bind fun q => some (.own p.1 :: q.1, q.2)
section
variable {X : Cx} {e : Expr} {es : List Expr}
theorem x_nil : DX X [] xNil := ⟨_, pa_nil, fun c B σ H μ os μ' Q r hm k => by cases hm; exact k B H [] (Ext.refl _) r .nil⟩
theorem x_val {m : M D} {n : M (List Sv)} (h : DE X e m) (hr : DX X es n) (hs : starEach (e :: es) X.env = (false, eval e X.env) :: starEach es X.env := by rfl) : DX X (e :: es) (xVal m n) := by
  obtain ⟨t, ht, ok⟩ := h.ex
  obtain ⟨t2, ht2, ok2⟩ := hr.ex
  refine ⟨_, pa_cons ht ht2 hs, fun c B σ H μ os μ' Q r hm k => ?_⟩
  unfold xVal at hm
  simp only [Option.bind_eq_some_iff] at hm
  obtain ⟨⟨d, μ1⟩, h1, ⟨ds, μ2⟩, h2, h3⟩ := hm
  cases h3
  refine ok c B σ H μ d μ1 _ r h1 fun B' H' v e r' hr => ?_
  refine ok2 c B' σ H' μ1 ds _ _ r' h2 fun B'' H'' vs e' r'' hrs => ?_
  exact k B'' H'' (v :: vs) (e.trans e') r'' (.val (hr.mono e') hrs)
theorem x_new {m : M (List D)} {n : M (List Sv)} (h : DF X e m) (hr : DX X es n) (hs : starEach (e :: es) X.env = (false, eval e X.env) :: starEach es X.env := by rfl) : DX X (e :: es) (xNew m n) := by
  obtain ⟨t, ht, ok⟩ := h.ex
  obtain ⟨t2, ht2, ok2⟩ := hr.ex
  refine ⟨_, pa_cons ht ht2 hs, fun c B σ H μ os μ' Q r hm k => ?_⟩
  unfold xNew at hm
  simp only [Option.bind_eq_some_iff] at hm
  obtain ⟨⟨d, μ1⟩, h1, ⟨ds, μ2⟩, h2, h3⟩ := hm
  cases h3
  refine ok c B σ H μ d μ1 _ r h1 fun B' H' p us e r' g1 g2 g3 g4 g5 => ?_
  refine ok2 (c.pin p (.lst us)) B' σ H' μ1 ds _ _ (r'.pin g1 g2 g3 g4) h2 fun B'' H'' vs e' r'' hrs => ?_
  obtain ⟨u1, u2, u3, u4⟩ := r''.unpin g3 (r'.r0.b0.none g2) (r'.r0.noSt g3)
  obtain ⟨w1, w2⟩ := hrs.unpin
  exact k B'' H'' (.ref p :: vs) (e.trans e') u1 (.own u2 u3 g3 u4 (g5.mono e') w2 w1)
end
def putA : List Nat → List Sv → MS → Option MS
  | [], [], μ => some μ
  | i :: is, s :: ss, μ => putA is ss (setS μ i s.sl)
  | _, _, _ => none
def setA : List Nat → List V → St → St
  | i :: is, v :: vs, σ => setA is vs (σ.set i (some v))
  | _, _, σ => σ
theorem putA_ok {K : PySem.W.Frag} {c : C} {B H : Hp} : ∀ {is : List Nat} {vs : List V} {ss : List Sv} {σ : St} {μ μ' : MS}, Rel K c B σ H μ → SvA K c B σ H μ vs ss → putA is ss μ = some μ' → Rel K c B (setA is vs σ) H μ'
  | [], _, _, σ, μ, μ', r, .nil, e => by cases e; exact r
  | [], _, _, σ, μ, μ', r, .val _ _, e => by cases e
  | [], _, _, σ, μ, μ', r, .own _ _ _ _ _ _ _, e => by cases e
  | i :: is, _, _, σ, μ, μ', r, .nil, e => by cases e
  | i :: is, _, _, σ, μ, μ', r, .val (v := v) (d := d) h t, e => by
    have r1 := r.putV (i := i) h
    refine putA_ok (is := is) r1 ?_ e
    have aux : ∀ {vs : List V} {ss : List Sv}, SvA K c B σ H μ vs ss → SvA K c B (σ.set i (some v)) H (setS μ i (.val d)) vs ss := by
      intro vs ss h
      induction h with
      | nil => exact .nil
      | val a _ ih => exact .val a ih
      | own a1 a2 a3 a4 a5 a6 _ ih =>
        refine .own a1 a2 a3 (fun j dj hj hs => ?_) a5 a6 ih
        by_cases hji : i = j
        · subst hji
          have hl : i < μ.sl.length := by
            have := (List.getElem?_eq_some_iff.mp hj).1
            simpa [setS] using this
          rw [show (setS μ i (.val d)).sl = μ.sl.set i (.val d) from rfl, List.getElem?_set_self hl] at hj
          cases hj
        · rw [show (setS μ i (.val d)).sl = μ.sl.set i (.val d) from rfl, List.getElem?_set_ne hji] at hj
          rw [List.getElem?_set_ne hji] at hs
          exact a4 j dj hj hs
    exact aux t
  | i :: is, _, _, σ, μ, μ', r, .own (p := p) (us := us) (ds := ds) g1 g2 g3 g4 g5 g6 t, e => by
    have r1 := r.putO (i := i) g1 g2 g3 g5 g4
    refine putA_ok (is := is) r1 ?_ e
    have aux : ∀ {vs : List V} {ss : List Sv}, SvA K c B σ H μ vs ss → ¬ OwnsIn p vs ss → SvA K c B (σ.set i (some (.ref p))) H (setS μ i (.own ds)) vs ss := by
      intro vs ss h
      induction h with
      | nil => exact fun _ => .nil
      | val a _ ih => exact fun n => .val a (ih n)
      | @own q us2 ds2 vs2 ss2 a1 a2 a3 a4 a5 a6 _ ih =>
        intro n
        have nqp : q ≠ p := fun z => n (.inl (by rw [z]))
        refine .own a1 a2 a3 (fun j dj hj hs => ?_) a5 a6 (ih fun z => n (.inr z))
        by_cases hji : i = j
        · subst hji
          have hl : i < μ.sl.length := by
            have := (List.getElem?_eq_some_iff.mp hj).1
            simpa [setS] using this
          rw [List.getElem?_set_self (by rw [r.len]; exact hl)] at hs
          cases hs
          exact nqp rfl
        · rw [show (setS μ i (.own ds)).sl = μ.sl.set i (.own ds) from rfl, List.getElem?_set_ne hji] at hj
          rw [List.getElem?_set_ne hji] at hs
          exact a4 j dj hj hs
    exact aux t g6
def sPar (is : List Nat) (m : M (List Sv)) : MT := fun μ => match m μ with
  | some (ss, μ') => (match putA is ss μ' with
    | some μ2 => .nx μ2
    | none => .bad)
  | none => .bad
/-- names alone as targets -/
def gNs : List Nat → TGs
  | [] => gNil
  | i :: is => gCons (gName i) (gNs is)
structure DN (X : Cx) (es : List Expr) (is : List Nat) : Prop where
  ex : PGs X es (gNs is)
theorem gNs_ok : ∀ {is : List Nat} {vs : List V} {σ : St} {H : Hp} {Q : St → Hp → Prop}, vs.length = is.length → Q (setA is vs σ) H → gNs is vs σ H Q
  | [], [], σ, H, Q, _, q => ⟨rfl, q⟩
  | i :: is, v :: vs, σ, H, Q, e, q => ⟨v, vs, rfl, gNs_ok (is := is) (by simpa using e) q⟩
section
variable {X : Cx} {pos : Pos}
theorem n_nil : DN X [] [] := ⟨pgs_nil⟩
theorem n_cons {x : Str} {p : Pos} {es : List Expr} {is : List Nat} (i : Nat) (hN : X.N.Nodup) (h : DN X es is) (hi : X.N[i]? = some x := by rfl) (hx : Loc X.env.scope x := by first | exact Or.inl rfl | exact Or.inr rfl) (hf : X.fn x = true ∨ X.env.scope.names.lookup x = some .local := by first | exact .inl rfl | exact .inr rfl | assumption)
    (hs : (assignEach (.Name x p :: es) X.env).map (·.2) = assign (.Name x p) X.env :: (assignEach es X.env).map (·.2) := by rfl) : DN X (.Name x p :: es) (i :: is) := ⟨pgs_cons (pg_name hN hi hx hf) h.ex hs⟩
theorem putA_len : ∀ {is : List Nat} {ss : List Sv} {μ μ' : MS}, putA is ss μ = some μ' → ss.length = is.length
  | [], [], _, _, _ => rfl
  | i :: is, s :: ss, μ, μ', e => by
    have := putA_len (is := is) (ss := ss) e
    simp [this]
  | [], _ :: _, _, _, e => by cases e
  | _ :: _, [], _, _, e => by cases e
/-- a, b = e, f through a tuple -/
theorem s_parT {tgs es : List Expr} {k k2 : Nat} {pt pt2 : Pos} {is : List Nat} {m : M (List Sv)} (hc : X.calm = true) (ha : DX X es m) (hg : DN X tgs is) (hsm : is.length ≤ 1000 := by decide)
    (hn : (assignEach tgs X.env).length = is.length := by rfl) (hst : (assignEach tgs X.env).findIdx? (·.1) = none := by rfl) (hs : swapsWithSole [.Tuple tgs k pt] (.Tuple es k2 pt2) pos.line X.env = pure false := by rfl) (hw : swappedStores [.Tuple tgs k pt] (.Tuple es k2 pt2) X.env = pure none := by rfl)
    (h1 : (assignEach [.Tuple tgs k pt] X.env).map (·.2) = [assign (.Tuple tgs k pt) X.env] := by rfl) : DS X (.Assign [.Tuple tgs k pt] (.Tuple es k2 pt2) pos) (sPar is m) := by
  obtain ⟨t, p, o⟩ := ha.ex
  refine ⟨_, ps_asg (pe_tup p) (pg_tup hc hg.ex hn hst) hs hw h1, fun c B σ H μ E r a => ?_⟩
  unfold sPar at a
  split at a
  · rename_i ss μ' hm
    split at a
    · rename_i μ2 hp
      have hl := putA_len hp
      refine o c B σ H μ ss μ' _ r hm fun B1 H1 vs e1 r1 sv => ⟨?_, fun q hq => ?_⟩
      · rw [sv.length, hl]; exact Nat.le_trans hsm (by decide)
      · refine ⟨q, vs, rfl, SqT.of upd_same, by rw [sv.length, hl], gNs_ok (by rw [sv.length, hl]) ?_⟩
        exact a B1 _ _ e1 (putA_ok (r1.hide hq) (sv.hide hq) hp)
    · exact a.elim
  · exact a.elim
/-- a, b = e, f of plain local names: no tuple -/
theorem s_par2 {i j : Nat} {x y : Str} {a b : Expr} {px py pt : Pos} {kt k2 pt2} {m : M (List Sv)} (hc : X.calm = true) (hN : X.N.Nodup) (hij : i ≠ j) (ha : DX X [a, b] m) (hi : X.N[i]? = some x := by rfl) (hj : X.N[j]? = some y := by rfl)
    (hx : X.env.scope.names.lookup x = some .local := by rfl) (hy : X.env.scope.names.lookup y = some .local := by rfl)
    (hw : swappedStores [.Tuple [.Name x px, .Name y py] kt pt] (.Tuple [a, b] k2 pt2) X.env = pure (some [x, y]) := by rfl)
    (hs : swapsWithSole [.Tuple [.Name x px, .Name y py] kt pt] (.Tuple [a, b] k2 pt2) pos.line X.env = pure false := by rfl) :
    DS X (.Assign [.Tuple [.Name x px, .Name y py] kt pt] (.Tuple [a, b] k2 pt2) pos) (sPar [i, j] m) := by
  obtain ⟨t, p, o⟩ := ha.ex
  refine ⟨_, ps_par hc hN hi hj hij hx hy p hw hs, fun c B σ H μ E r h => ?_⟩
  unfold sPar at h
  split at h
  · rename_i ss μ' hm
    split at h
    · rename_i μ2 hp
      have hl := putA_len hp
      refine o c B σ H μ ss μ' _ r hm fun B1 H1 vs e1 r1 sv => ?_
      have hlv : vs.length = 2 := by rw [sv.length, hl]; rfl
      match vs, hlv, sv with
      | [v, w], _, sv => exact ⟨v, w, rfl, h B1 _ _ e1 (putA_ok r1 sv hp)⟩
    · exact h.elim
  · exact h.elim
theorem s_par3 {i j l : Nat} {x y z : Str} {a b c : Expr} {px py pz pt : Pos} {kt k2 pt2} {m : M (List Sv)} (hc : X.calm = true) (hN : X.N.Nodup) (hij : i ≠ j) (hil : i ≠ l) (hjl : j ≠ l) (ha : DX X [a, b, c] m) (hi : X.N[i]? = some x := by rfl) (hj : X.N[j]? = some y := by rfl) (hk : X.N[l]? = some z := by rfl)
    (hx : X.env.scope.names.lookup x = some .local := by rfl) (hy : X.env.scope.names.lookup y = some .local := by rfl) (hz : X.env.scope.names.lookup z = some .local := by rfl)
    (hw : swappedStores [.Tuple [.Name x px, .Name y py, .Name z pz] kt pt] (.Tuple [a, b, c] k2 pt2) X.env = pure (some [x, y, z]) := by rfl)
    (hs : swapsWithSole [.Tuple [.Name x px, .Name y py, .Name z pz] kt pt] (.Tuple [a, b, c] k2 pt2) pos.line X.env = pure false := by rfl) :
    DS X (.Assign [.Tuple [.Name x px, .Name y py, .Name z pz] kt pt] (.Tuple [a, b, c] k2 pt2) pos) (sPar [i, j, l] m) := by
  obtain ⟨t, p, o⟩ := ha.ex
  refine ⟨_, ps_par3 hc hN hi hj hk hij hil hjl hx hy hz p hw hs, fun c B σ H μ E r h => ?_⟩
  unfold sPar at h
  split at h
  · rename_i ss μ' hm
    split at h
    · rename_i μ2 hp
      have hl := putA_len hp
      refine o c B σ H μ ss μ' _ r hm fun B1 H1 vs e1 r1 sv => ?_
      have hlv : vs.length = 3 := by rw [sv.length, hl]; rfl
      match vs, hlv, sv with
      | [u, v, w], _, sv => exact ⟨u, v, w, rfl, h B1 _ _ e1 (putA_ok r1 sv hp)⟩
    · exact h.elim
  · exact h.elim
end

/-! ### the draws -/
def drawM (many : Int) (dr : Dr) : Int × Dr :=
  match dr.1.dropWhile (fun n => n == 0) with
  | v :: r => (v % many, (v / many :: r, dr.2))
  | [] => ((((dr.2 * 48271 + 12345) % 2147483647) / 64) % many, ([], (dr.2 * 48271 + 12345) % 2147483647))
def drawF : FM := fun ds dr => match ds with
  | [.dict [], .int many] => if 0 < many ∧ many.natAbs.log2 < 9000 then some (.int (drawM many dr).1, (drawM many dr).2) else none
  | _ => none
def seedOf (ns : List Int) : Int := ns.foldl (fun s c => (s * 31 + c) % 1000003) 7
def drOf (ns : List Int) : Dr := (ns.map fun n => if n < 0 then -n else n, seedOf ns + 1)
/-- what the first def of the law promises: the state of the draws, new -/
def spState (K : PySem.W.Frag) : Sp := fun vs H Q _ => ∃ (a : Addr) (ns : List Int), vs = [.ref a] ∧ SqL K H a (ns.map V.int) ∧ ns.length ≤ 63 ∧
  ∀ H' p q, H p = none → H q = none → p ≠ q → Ext H H' → H' p = some (.lst [.ref q, .int (drOf ns).2]) → H' q = some (.lst ((drOf ns).1.map V.int)) → Q (.ref p) H'
/-- what the law promises, f its mirror behind the state -/
def spLaw (K : PySem.W.Frag) (f : Dr → SR) : Sp := fun vs H Q _ => ∃ (a : Addr) (ns : List Int), vs = [.ref a] ∧ SqL K H a (ns.map V.int) ∧ ns.length ≤ 63 ∧ (∃ dr, f (drOf ns) = .rt (.bool true) dr) ∧ ∀ H', Q (.bl true) H'
/-- behind the state's making -/
theorem law_start {K : PySem.W.Frag} {H' : Hp} {p q : Addr} {dr : Dr} {σ : St} {i : Nat} {n : Nat} (hp : H' p = some (.lst [.ref q, .int dr.2])) (hq : H' q = some (.lst (dr.1.map V.int))) (npq : p ≠ q) (hs : σ[i]? = some (some (.ref p))) (hl : σ.length = n) :
    Rel K ⟨some (p, q), H', fun _ => none⟩ (fun _ => none) σ H' ⟨(List.replicate n Sl.un).set i (.val (.dict [])), dr⟩ := by
  refine ⟨⟨(fun a o e => by cases e), fun x y e => ?_, fun a o e _ => e, (fun a o e => by cases e), (fun a o e => by cases e)⟩, by simp [hl], fun j s hj => ?_, fun a b da db _ ha _ => ?_⟩
  · cases e
    exact ⟨npq, hp, hq, rfl, rfl, (fun z => by rw [show H' p = none from z] at hp; cases hp), (fun z => by rw [show H' q = none from z] at hq; cases hq)⟩
  · by_cases hji : i = j
    · subst hji
      have hl2 : i < n := by
        have := (List.getElem?_eq_some_iff.mp hj).1
        simpa using this
      rw [List.getElem?_set_self (by simpa using hl2)] at hj
      cases hj
      exact ⟨_, hs, .stt rfl⟩
    · rw [List.getElem?_set_ne hji, List.getElem?_replicate] at hj
      split at hj
      · cases hj; trivial
      · cases hj
  · by_cases hji : i = a
    · subst hji
      have hl2 : i < n := by
        have := (List.getElem?_eq_some_iff.mp ha).1
        simpa using this
      rw [List.getElem?_set_self (by simpa using hl2)] at ha
      cases ha
    · rw [List.getElem?_set_ne hji, List.getElem?_replicate] at ha
      split at ha
      · cases ha
      · cases ha
end Mi
/-! Mi, eighth part: constants of a module, the draw's promise opened. -/
namespace Mi
open PySem PySem.Spec PyProof.Rows L2

def isiN (T : String) (d : D) : Option D := match d with | .dict _ => none | d => isiD T d
def flatOf : D → Option V
  | .none => some .non
  | .bool b => some (.bl b)
  | .int i => some (.int i)
  | .str x => some (.str x)
  | _ => none
def valIs : Value → D → Bool
  | .int i _, .int j => i == j
  | .str x _, .str y => x == y
  | .none, .none => true
  | .bool b, .bool c => b == c
  | _, _ => false
def valsAre : List Value → List D → Bool
  | [], [] => true
  | v :: vs, d :: ds => valIs v d && valsAre vs ds
  | _, _ => false
def constIs (its : Array Value) : D → Bool
  | .tuple ds => (decide (ds.length ≤ 1000) && !mixd ds) && valsAre its.toList ds
  | _ => false
theorem valIs_rp {K : PySem.W.Frag} {st : Option (Addr × Addr)} {B : Hp} : ∀ {v : Value} {d : D}, valIs v d = true → ∃ x, RelV x v ∧ Rp K st B x d := by
  intro v d h
  cases v <;> cases d <;> simp only [valIs] at h <;> first
    | (cases h; done)
    | skip
  · exact ⟨.non, rfl, .non⟩
  · rw [beq_iff_eq] at h; subst h; exact ⟨.bl _, rfl, .bl _⟩
  · rw [beq_iff_eq] at h; subst h; exact ⟨.int _, ⟨_, rfl⟩, .int _⟩
  · rw [beq_iff_eq] at h; subst h; exact ⟨.str _, ⟨_, rfl⟩, .str _⟩
theorem valsAre_rp {K : PySem.W.Frag} {st : Option (Addr × Addr)} {B : Hp} : ∀ {vs : List Value} {ds : List D}, valsAre vs ds = true → ∃ xs, Vals xs vs ∧ RpA K st B xs ds
  | [], [], _ => ⟨[], .nil, .nil⟩
  | v :: vs, d :: ds, h => by
    simp only [valsAre, Bool.and_eq_true] at h
    obtain ⟨x, h1, h2⟩ := valIs_rp (K := K) (st := st) (B := B) h.1
    obtain ⟨xs, h3, h4⟩ := valsAre_rp (K := K) (st := st) (B := B) h.2
    exact ⟨x :: xs, .cons h1 h3, .cons h2 h4⟩
  | [], _ :: _, h => by cases h
  | _ :: _, [], h => by cases h
theorem const_rp {K : PySem.W.Frag} {st : Option (Addr × Addr)} {B : Hp} {a : Addr} {od : Option Addr} {its : Array Value} {n : Nat} {sl : Array (Option Value)} {d : D} (h : K.lookup a = some ⟨.type "tuple", od, .seq its n, sl⟩) (w : constIs its d = true) : Rp K st B (.ref a) d := by
  cases d <;> simp only [constIs] at w <;> try (cases w; done)
  rename_i ds
  rw [Bool.and_eq_true, Bool.and_eq_true, decide_eq_true_eq, Bool.not_eq_true'] at w
  obtain ⟨xs, h1, h2⟩ := valsAre_rp (K := K) (st := st) (B := B) w.2
  refine .tup (.inr ⟨.inr ⟨_, its, n, h, rfl, rfl, ?_, h1⟩, w.1.2⟩) h2
  have e1 := h1.length
  have e2 := h2.length
  have e3 : its.toList.length = its.size := Array.length_toList
  rw [sizeLine_eq]
  omega
theorem seq0 {α : Type} {x : α} {xs : List α} : seqIndex? 0 (x :: xs).length = some 0 := by
  unfold seqIndex?
  simp
theorem ixN0 {α : Type} {x : α} {xs : List α} : ixN (x :: xs).length 0 = some 0 := by
  unfold ixN
  simp
theorem draw_open {K : PySem.W.Frag} {vs : List V} {H : Hp} {Q : VK} {E : XK} (h : spM K 2 drawF vs H Q E) : ∃ (x y : Addr) (m : Int) (dr : Dr), vs = [.ref x, .int m] ∧ 0 < m ∧ m.natAbs.log2 < 9000 ∧ x ≠ y ∧ H x = some (.lst [.ref y, .int dr.2]) ∧ H y = some (.lst (dr.1.map V.int)) ∧
    ∀ H', (∀ a, a ≠ x → a ≠ y → H' a = H a) → H' x = some (.lst [.ref y, .int (drawM m dr).2.2]) → H' y = some (.lst ((drawM m dr).2.1.map V.int)) → Q (.int (drawM m dr).1) H' := by
  obtain ⟨_, st, B, ds, dr, d, dr', r0, hv, hf, k⟩ := h
  unfold drawF at hf
  split at hf
  · rename_i m
    split at hf
    · rename_i hm
      cases hf
      cases hv with
      | cons h1 h2 =>
        cases h2 with
        | cons h2 h3 =>
          cases h3
          cases h2
          cases h1 with
          | @stt x y h1 =>
            obtain ⟨z1, z2, z3, z4, z5, z6, z7⟩ := r0.dr x y h1
            refine ⟨x, y, m, dr, rfl, hm.1, hm.2, z1, z2, z3, fun H' a1 a2 a3 => k B H' _ (Ext.refl _) ?_ (.int _)⟩
            have nst : ∀ a, ¬ IsSt ⟨st, H, B⟩ a → a ≠ x ∧ a ≠ y := fun a s => ⟨fun e => s ⟨x, y, h1, .inl e⟩, fun e => s ⟨x, y, h1, .inr e⟩⟩
            refine ⟨fun a o e => ?_, fun x' y' e => ?_, fun a o e s => ?_, r0.nw, r0.b0⟩
            · have nx : a ≠ x := fun q => by subst q; rw [z4] at e; cases e
              have ny : a ≠ y := fun q => by subst q; rw [z5] at e; cases e
              rw [a1 a nx ny]; exact r0.ext a o e
            · have e' : st = some (x', y') := e
              rw [h1] at e'; cases e'
              exact ⟨z1, a2, a3, z4, z5, z6, z7⟩
            · obtain ⟨nx, ny⟩ := nst a s
              rw [a1 a nx ny]; exact e
    · cases hf
  · cases hf
end Mi
/-! Mi, ninth part: further rules. -/
namespace Mi
open PySem PySem.Spec PyProof.Rows L2

/-! ### range(a, b, c) -/
def rng3 : List D → Option (List D)
  | [.int i, .int j, .int c] => if c ≠ 0 ∧ c.natAbs < 1073741824 ∧ Builtin.Range.small i j c = true ∧ 0 ≤ Builtin.Range.rangeSize i j c then some (intsC i c (Builtin.Range.rangeSize i j c).toNat) else none
  | _ => none
section
variable {X : Cx} {tg : Expr}
theorem i_range3 {a b c : Expr} {ma : M (List O)} {p pos : Pos} (hm : X.mg "range" = none) (ha : DA X [a, b, c] ma) (hg : Gl X "range" := by rfl) (hs : starEach [a, b, c] X.env = (false, eval a X.env) :: starEach [b, c] X.env := by rfl) (hpl : (backTo pos (starEach [b, c] X.env)).any (·.1) = false := by rfl) :
    DI X tg (.Call (.Name "range" p) [a, b, c] [] pos) (mCall rng3 ma) := by
  obtain ⟨t, pt, o⟩ := ha.ex
  refine ⟨_, pi_range3 hg hm pt hs hpl, fun c B σ H μ ds μ' R r hmm k => ?_⟩
  obtain ⟨os, xs, h1, h2, h3⟩ := mCall_some hmm
  refine o c B σ H μ os μ' _ r h1 fun B' H' vs e' r' hv => ?_
  have hl := looks_ok r' hv h2
  unfold rng3 at h3
  split at h3
  · split at h3
    · rename_i hc
      cases h3
      obtain ⟨x, y, z, rfl, hx, hy, hz⟩ := lka3 hl
      exact ⟨_, _, _, _, by rw [hx.int, hy.int, hz.int], ⟨hc.1, hc.2.1, hc.2.2.1, (Int.toNat_of_nonneg hc.2.2.2).symm⟩, k B' H' _ e' r' (walk_rangeC _ _ _)⟩
    · cases h3
  · cases h3
end

/-! ### f() -/
section
variable {X : Cx} {CX : CXT} {k : Nat} {f : Addr} {fd : FuncData} {ps : List Str} {x : Str} {p pos : Pos} {fm : FM} {E : XK}
theorem e_callU0 (F : FnOk X.prog X.w X.K X.mg X.base CX k f fd ps (spM X.K 0 fm)) (hr : Room k X.A) (hm : X.mg x = some (.ref f)) (hk : PySem.W.keepIn X.K (.ref f) = true) (hb : Binds X.K fd ps []) (hx : Passes CX X E) (hg : Gl X x := by rfl) (hdb : (x == ("__debug__" : Str)) = false := by decide) :
    DE X (.Call (.Name x p) [] [] pos) (mCallU fm aNil) := by
  obtain ⟨t, pt, o⟩ := (a_nil (X := X)).ex
  refine ⟨_, pe_call0 F hr hg hm hk hb .nil hx hdb, ?_⟩
  have := ok_callU (fm := fm) (E := E) (n := 0) (t := tNil) (X := X) (m := aNil) (fun c B σ H μ os μ' Q r hm k => by cases hm; exact k B H [] (Ext.refl _) r .nil) aNil_len
  exact this
end

/-! ### xs[::-1] of a list -/
def mRev (ma : M O) : M (List D) := fun μ => (ma μ).bind fun p => (look p.1 p.2).bind fun d => match d with
  | .list ds => some (ds.reverse, p.2)
  | _ => none
section
variable {X : Cx} {a : Expr} {ma : M O}
theorem f_rev {k : Nat} {p1 p2 p3 pos : Pos} (ha : DO X a ma) : DF X (.Subscript a (.Slice none none (some (.UnaryOp .USub (.Constant (.int 1) k p1) p2)) p3) pos) (mRev ma) := by
  obtain ⟨t, pt, o⟩ := ha.ex
  refine ⟨_, pe_revL pt, fun c B σ H μ ds μ' Q r hmm k => ?_⟩
  unfold mRev at hmm
  simp only [Option.bind_eq_some_iff] at hmm
  obtain ⟨⟨o1, μ1⟩, g1, d, g2, g3⟩ := hmm
  split at g3
  · cases g3
    refine o c B σ H μ o1 _ _ r g1 fun B1 H1 x e1 r1 x1 => ?_
    obtain ⟨p, vs, rfl, h1, h2⟩ := (look_ok r1 x1 g2).list r1.r0.ext
    refine ⟨p, vs, rfl, SqL.of h1, fun a ha => ?_⟩
    obtain ⟨f0, fb⟩ := r1.r0.fresh ha
    exact k B1 _ a _ e1 (r1.hide ha) upd_same fb f0 (r1.noOwn ha) h2.reverse
  · cases g3
end

/-! ### zip of two lists, of two tuples -/
def zipD : List D → Option (List D)
  | [.list a, .list b] => some (List.zipWith (fun x y => PyData.tuple [x, y]) a b)
  | [.tuple a, .tuple b] => some (List.zipWith (fun x y => PyData.tuple [x, y]) a b)
  | _ => none
def mZip (m : M (List D)) : M (List D) := fun μ => (m μ).bind fun p => (zipD p.1).bind fun z => some (z, p.2)
theorem zw_get {a b : List D} {i : Nat} {d : D} (h : (List.zipWith (fun x y => PyData.tuple [x, y]) a b)[i]? = some d) : ∃ x y, a[i]? = some x ∧ b[i]? = some y ∧ d = .tuple [x, y] := by
  rw [List.getElem?_zipWith] at h
  cases q1 : a[i]? with
  | none => rw [q1] at h; cases h
  | some x =>
    cases q2 : b[i]? with
    | none => rw [q1, q2] at h; cases h
    | some y =>
      rw [q1, q2] at h
      exact ⟨x, y, rfl, rfl, (Option.some.inj h).symm⟩
section
variable {K : PySem.W.Frag} {st : Option (Addr × Addr)} {B0 : Hp} {a b : Addr} {xs ys : List V} {ds es : List D}
theorem walk_zip (h1 : B0 a = some (.lst xs)) (r1 : RpA K st B0 xs ds) (h2 : B0 b = some (.lst ys)) (r2 : RpA K st B0 ys es) : Walk K st (List.zipWith (fun x y => PyData.tuple [x, y]) ds es) (Itz K a b) B0 := by
  intro c B σ H μ hs e rel
  have hH1 : SqL K H a xs := SqL.of (rel.r0.ext _ _ (e _ _ h1))
  have hH2 : SqL K H b ys := SqL.of (rel.r0.ext _ _ (e _ _ h2))
  refine ⟨fun i d hi => ?_, ⟨xs, ys, hH1, hH2, ?_⟩⟩
  · obtain ⟨x, y, g1, g2, rfl⟩ := zw_get hi
    obtain ⟨v, a1, a2⟩ := r1.get g1
    obtain ⟨w, b1, b2⟩ := r2.get g2
    refine ⟨⟨xs, ys, v, w, hH1, hH2, a1, b1⟩, fun z H' hy => ?_⟩
    obtain ⟨T, v', w', rfl, hT, rfl, q1, q2⟩ := hy
    have z1 := q1 xs hH1
    have z2 := q2 ys hH2
    rw [a1] at z1; cases z1
    rw [b1] at z2; cases z2
    have ex : Ext B (upd B T (.tup [v, w])) := Ext.new (rel.r0.fresh hT).2
    exact ⟨_, ex, rel.know hT, .tup (.inl upd_same) (.cons ((a2.mono e).mono ex) (.cons ((b2.mono e).mono ex) .nil))⟩
  · rw [List.length_zipWith, r1.length, r2.length]
    omega
theorem walk_zipT (h1 : SqT K B0 a xs) (r1 : RpA K st B0 xs ds) (h2 : SqT K B0 b ys) (r2 : RpA K st B0 ys es) : Walk K st (List.zipWith (fun x y => PyData.tuple [x, y]) ds es) (RZ.ItzT K a b) B0 := by
  intro c B σ H μ hs e rel
  have hH1 : SqT K H a xs := (e.trans rel.r0.ext).sqt h1
  have hH2 : SqT K H b ys := (e.trans rel.r0.ext).sqt h2
  refine ⟨fun i d hi => ?_, ⟨xs, ys, hH1, hH2, ?_⟩⟩
  · obtain ⟨x, y, g1, g2, rfl⟩ := zw_get hi
    obtain ⟨v, a1, a2⟩ := r1.get g1
    obtain ⟨w, b1, b2⟩ := r2.get g2
    refine ⟨⟨xs, ys, v, w, hH1, hH2, a1, b1⟩, fun z H' hy => ?_⟩
    obtain ⟨T, v', w', rfl, hT, rfl, q1, q2⟩ := hy
    have z1 := q1 xs hH1
    have z2 := q2 ys hH2
    rw [a1] at z1; cases z1
    rw [b1] at z2; cases z2
    have ex : Ext B (upd B T (.tup [v, w])) := Ext.new (rel.r0.fresh hT).2
    exact ⟨_, ex, rel.know hT, .tup (.inl upd_same) (.cons ((a2.mono e).mono ex) (.cons ((b2.mono e).mono ex) .nil))⟩
  · rw [List.length_zipWith, r1.length, r2.length]
    omega
end
section
variable {X : Cx} {elts : List Expr} {kk : Nat} {tpos p pos : Pos} {e e2 : Expr} {m : M (List D)}
theorem i_zip (hm : X.mg "zip" = none) (ha : DV X [e, e2] m) (hg : Gl X "zip" := by rfl) (hs : starEach [e, e2] X.env = (false, eval e X.env) :: starEach [e2] X.env := by rfl) (hpl : (backTo pos (starEach [e2] X.env)).any (·.1) = false := by rfl) :
    DI X (.Tuple elts kk tpos) (.Call (.Name "zip" p) [e, e2] [] pos) (mZip m) := by
  obtain ⟨t, pt, o⟩ := ha.ex
  refine ⟨_, RZ.pi_zipA hg hm pt hs hpl, fun c B σ H μ ds μ' R r hmm k => ?_⟩
  unfold mZip at hmm
  simp only [Option.bind_eq_some_iff] at hmm
  obtain ⟨⟨xs, μ1⟩, h1, z, h2, h3⟩ := hmm
  cases h3
  refine o c B σ H μ xs _ _ r h1 fun B' H' vs e' r' hv => ?_
  unfold zipD at h2
  split at h2
  · rename_i hx
    have hx' : xs = _ := hx
    subst hx'
    cases h2
    cases hv with
    | cons a1 a2 =>
      cases a2 with
      | cons a2 a3 =>
        cases a3
        cases a1 with
        | lst p1 p2 =>
          cases a2 with
          | lst q1 q2 => exact ⟨_, _, _, _, rfl, .inl ⟨SqL.of (r'.r0.ext _ _ p1), SqL.of (r'.r0.ext _ _ q1), k B' H' _ e' r' (walk_zip p1 p2 q1 q2)⟩⟩
  · rename_i hx
    have hx' : xs = _ := hx
    subst hx'
    cases h2
    cases hv with
    | cons a1 a2 =>
      cases a2 with
      | cons a2 a3 =>
        cases a3
        cases a1 with
        | tup p1 p2 =>
          cases a2 with
          | tup q1 q2 => exact ⟨_, _, _, _, rfl, .inr ⟨r'.r0.ext.sqt p1.sqt, r'.r0.ext.sqt q1.sqt, k B' H' _ e' r' (walk_zipT p1.sqt p2 q1.sqt q2)⟩⟩
  · cases h2
end
end Mi
/-! Mi, tenth part: the mirrors reckoned (no program in sight). -/
namespace Mi
open PySem PySem.Spec PyProof.Rows L2

/-! ### what is wanted of a mirror's outcome -/
/-- a Prop whose type names what comes behind, so that simp leaves it alone before its turn -/
abbrev PropOf.{u} {α : Sort u} (_ : α) : Type := Prop
abbrev PropOf4 (_ : MS → Prop) (_ : D → Dr → Prop) (_ _ : MS → Prop) : Type := Prop
def W0 (r : SR) (N : MS → Prop) (R : D → Dr → Prop) (Bk Ct : MS → Prop) : PropOf4 N R Bk Ct :=
  match r with
  | .nx μ => N μ
  | .rt d dr => R d dr
  | .bk μ => Bk μ
  | .ct μ => Ct μ
  | .bad => False
def WM0 {α : Type} (o : Option (α × MS)) (P : α → MS → Prop) : PropOf P :=
  match o with
  | some p => P p.1 p.2
  | none => False
def WO0 {α : Type} (o : Option α) (P : α → Prop) : PropOf P :=
  match o with
  | some a => P a
  | none => False
/-- a goal as a plain Prop -/
def Go (p : Prop) : Prop := p
@[simp] theorem go_eq {p : Prop} : Go p = p := propext Iff.rfl
section
variable {α β : Type} {N : MS → Prop} {R : D → Dr → Prop} {Bk Ct : MS → Prop} {μ : MS} {P : D → MS → Prop}
@[simp] theorem W0_nx : W0 (.nx μ) N R Bk Ct = N μ := rfl
@[simp] theorem W0_rt {d : D} {dr : Dr} : W0 (.rt d dr) N R Bk Ct = R d dr := rfl
@[simp] theorem W0_bk : W0 (.bk μ) N R Bk Ct = Bk μ := rfl
@[simp] theorem W0_ct : W0 (.ct μ) N R Bk Ct = Ct μ := rfl
@[simp] theorem W0_bad : W0 .bad N R Bk Ct = False := rfl
@[simp] theorem WM0_some {a : α} {Q : α → MS → Prop} : WM0 (some (a, μ)) Q = Q a μ := rfl
@[simp] theorem WM0_none {Q : α → MS → Prop} : WM0 none Q = False := rfl
@[simp] theorem WO0_some {a : α} {Q : α → Prop} : WO0 (some a) Q = Q a := rfl
@[simp] theorem WO0_none {Q : α → Prop} : WO0 none Q = False := rfl
@[simp] theorem WM0_bind {γ : Type} {o : Option γ} {f : γ → Option (α × MS)} {Q : α → MS → Prop} : WM0 (o.bind f) Q = WO0 o fun x => WM0 (f x) Q := by cases o <;> rfl
@[simp] theorem WO0_bind {γ : Type} {o : Option γ} {f : γ → Option α} {Q : α → Prop} : WO0 (o.bind f) Q = WO0 o fun x => WO0 (f x) Q := by cases o <;> rfl
theorem WM0_WO {o : Option (α × MS)} {Q : α → MS → Prop} : WM0 o Q = WO0 o fun p => Q p.1 p.2 := by cases o <;> rfl
theorem WO0_ext {o : Option α} {Q Q' : α → Prop} (h : ∀ a, Q a = Q' a) : WO0 o Q = WO0 o Q' := by rw [show Q = Q' from funext h]
@[simp] theorem WO0_ite {c : Prop} [Decidable c] {o p : Option α} {Q : α → Prop} : WO0 (if c then o else p) Q = if c then WO0 o Q else WO0 p Q := by split <;> rfl
@[simp] theorem WM0_ite {c : Prop} [Decidable c] {o p : Option (α × MS)} {Q : α → MS → Prop} : WM0 (if c then o else p) Q = if c then WM0 o Q else WM0 p Q := by split <;> rfl
@[simp] theorem W0_ite {c : Prop} [Decidable c] {o p : SR} : W0 (if c then o else p) N R Bk Ct = if c then W0 o N R Bk Ct else W0 p N R Bk Ct := by split <;> rfl
theorem W0_mono {r : SR} {N' : MS → Prop} {R' : D → Dr → Prop} {Bk' Ct' : MS → Prop} (h : W0 r N R Bk Ct) (h1 : ∀ μ, N μ → N' μ) (h2 : ∀ d dr, R d dr → R' d dr) (h3 : ∀ μ, Bk μ → Bk' μ) (h4 : ∀ μ, Ct μ → Ct' μ) : W0 r N' R' Bk' Ct' := by
  cases r with
  | nx μ => exact h1 _ h
  | rt d dr => exact h2 _ _ h
  | bk μ => exact h3 _ h
  | ct μ => exact h4 _ h
  | bad => exact h
theorem WM0_mono {o : Option (α × MS)} {Q Q' : α → MS → Prop} (h : WM0 o Q) (h1 : ∀ a μ, Q a μ → Q' a μ) : WM0 o Q' := by
  cases o with
  | none => exact h
  | some p => exact h1 _ _ h
theorem WO0_mono {o : Option α} {Q Q' : α → Prop} (h : WO0 o Q) (h1 : ∀ a, Q a → Q' a) : WO0 o Q' := by
  cases o with
  | none => exact h
  | some p => exact h1 _ h
theorem WO0_eq {o : Option α} {a : α} {Q : α → Prop} (h : o = some a) (q : Q a) : WO0 o Q := by rw [h]; exact q
/-! ### statements -/
theorem w0_seq {s t : MT} : W0 (sSeq s t μ) N R Bk Ct = W0 (s μ) (fun μ' => W0 (t μ') N R Bk Ct) R Bk Ct := by
  unfold sSeq
  cases s μ <;> rfl
theorem w0_nil : W0 (sNil μ) N R Bk Ct = N μ := rfl
theorem w0_if {m : M Bool} {s t : MT} : W0 (sIf m s t μ) N R Bk Ct = WM0 (m μ) fun b μ' => if b = true then W0 (s μ') N R Bk Ct else W0 (t μ') N R Bk Ct := by
  unfold sIf
  cases h : m μ with
  | none => rfl
  | some p =>
    obtain ⟨b, μ'⟩ := p
    cases b <;> simp [WM0]
theorem w0_ret {m : M D} : W0 (sRet m μ) N R Bk Ct = WM0 (m μ) fun d μ' => R d μ'.dr := by
  unfold sRet
  cases h : m μ with
  | none => rfl
  | some p => rfl
theorem w0_retN : W0 (sRetN μ) N R Bk Ct = R .none μ.dr := rfl
theorem w0_drop {m : M D} : W0 (sDrop m μ) N R Bk Ct = WM0 (m μ) fun _ μ' => N μ' := by
  unfold sDrop
  cases h : m μ with
  | none => rfl
  | some p => rfl
theorem w0_set {i : Nat} {m : M D} : W0 (sSet i m μ) N R Bk Ct = WM0 (m μ) fun d μ' => N (setS μ' i (.val d)) := by
  unfold sSet
  cases h : m μ with
  | none => rfl
  | some p => rfl
theorem w0_new {i : Nat} {m : M (List D)} : W0 (sNew i m μ) N R Bk Ct = WM0 (m μ) fun d μ' => N (setS μ' i (.own d)) := by
  unfold sNew
  cases h : m μ with
  | none => rfl
  | some p => rfl
theorem w0_break : W0 (sBreak μ) N R Bk Ct = Bk μ := rfl
theorem w0_cont : W0 (sCont μ) N R Bk Ct = Ct μ := rfl
def valAt (μ : MS) (i : Nat) : Option D := match μ.sl[i]? with
  | some (.val d) => some d
  | _ => none
theorem w0_aug {g : D → D → Option D} {i : Nat} {m : M D} : W0 (sAug g i m μ) N R Bk Ct = WO0 (valAt μ i) fun x => WM0 (m μ) fun y μ' => WO0 (g x y) fun z => N (setS μ' i (.val z)) := by
  unfold sAug valAt
  cases h : μ.sl[i]? with
  | none => rfl
  | some s =>
    cases s with
    | un => rfl
    | ow ds => rfl
    | val d =>
      simp only [WO0_some]
      cases h : m μ with
      | none => rfl
      | some p =>
        obtain ⟨y, μ'⟩ := p
        simp only [WM0_some]
        cases g d y <;> rfl
theorem w0_unp {g : D → MS → Option MS} {m : M D} : W0 (sUnp g m μ) N R Bk Ct = WM0 (m μ) fun d μ' => WO0 (g d μ') N := by
  unfold sUnp
  cases h : m μ with
  | none => rfl
  | some p =>
    obtain ⟨y, μ'⟩ := p
    simp only [WM0_some]
    cases g y μ' <;> rfl
theorem w0_par {is : List Nat} {m : M (List Sv)} : W0 (sPar is m μ) N R Bk Ct = WM0 (m μ) fun ss μ' => WO0 (putA is ss μ') N := by
  unfold sPar
  cases h : m μ with
  | none => rfl
  | some p =>
    obtain ⟨y, μ'⟩ := p
    simp only [WM0_some]
    cases putA is y μ' <;> rfl
theorem w0_ix {i : Nat} {mi me : M D} : W0 (sIx i mi me μ) N R Bk Ct = WM0 (me μ) fun d μ1 => WO0 (owned μ1 i) fun _ => WM0 (mi μ1) fun k μ2 => match k with
    | .int k => WO0 (owned μ2 i) fun ds => WO0 (ixN ds.length k) fun j => N (setS μ2 i (.own (ds.set j d)))
    | _ => False := by
  unfold sIx
  cases h : me μ with
  | none => rfl
  | some p =>
    obtain ⟨d, μ1⟩ := p
    simp only [WM0_some]
    cases owned μ1 i with
    | none => rfl
    | some ds0 =>
      simp only [WO0_some]
      cases h2 : mi μ1 with
      | none => rfl
      | some p =>
        obtain ⟨k, μ2⟩ := p
        simp only [WM0_some]
        cases k <;> try rfl
        simp only
        cases owned μ2 i with
        | none => rfl
        | some ds =>
          simp only [WO0_some]
          cases ixN ds.length _ <;> rfl
/-! ### for, while -/
/-- a loop whose turns go on, leave or hand back -/
theorem w0_for {γ δ : Type} {m : M (List D)} {g : D → MS → Option MS} {s : MT} (emb : δ → D) (A : γ → MS → Prop) (f : γ → δ → γ) {xs : List δ} {μ1 : MS} (hm : m μ = some (xs.map emb, μ1)) {a : γ} (h0 : A a μ1)
    (hs : ∀ (pre : List δ) (x : δ) (post : List δ) (μ : MS), xs = pre ++ x :: post → A (pre.foldl f a) μ → WO0 (g (emb x) μ) fun μ2 => W0 (s μ2) (A ((pre ++ [x]).foldl f a)) R N (A ((pre ++ [x]).foldl f a)))
    (hd : ∀ μ, A (xs.foldl f a) μ → N μ) : W0 (sFor m g s μ) N R Bk Ct := by
  unfold sFor
  rw [hm]
  simp only
  have key : ∀ (post pre : List δ) (μ : MS), xs = pre ++ post → A (pre.foldl f a) μ → W0 (loopF g s (post.map emb) μ) N R Bk Ct := by
    intro post
    induction post with
    | nil =>
      intro pre μ e h
      rw [List.append_nil] at e
      subst e
      exact hd μ h
    | cons x post ih =>
      intro pre μ e h
      have q := hs pre x post μ e h
      simp only [List.map_cons, loopF]
      cases hg : g (emb x) μ with
      | none => rw [hg] at q; exact q.elim
      | some μ2 =>
        rw [hg] at q
        simp only [WO0_some] at q
        simp only
        cases hb : s μ2 with
        | nx μ3 => rw [hb] at q; exact ih (pre ++ [x]) μ3 (by rw [e, List.append_assoc]; rfl) q
        | ct μ3 => rw [hb] at q; exact ih (pre ++ [x]) μ3 (by rw [e, List.append_assoc]; rfl) q
        | bk μ3 => rw [hb] at q; exact q
        | rt d dr => rw [hb] at q; exact q
        | bad => rw [hb] at q; exact q.elim
  exact key xs [] μ1 rfl h0
/-- the same, by the number of the turn -/
theorem w0_forI {δ : Type} {m : M (List D)} {g : D → MS → Option MS} {s : MT} (emb : δ → D) (A : Nat → MS → Prop) {xs : List δ} {μ1 : MS} (hm : m μ = some (xs.map emb, μ1)) (h0 : A 0 μ1)
    (hs : ∀ (i : Nat) (x : δ) (μ : MS), xs[i]? = some x → A i μ → WO0 (g (emb x) μ) fun μ2 => W0 (s μ2) (A (i + 1)) R N (A (i + 1)))
    (hd : ∀ μ, A xs.length μ → N μ) : W0 (sFor m g s μ) N R Bk Ct := by
  have fl : ∀ (l : List δ) (n : Nat), l.foldl (fun n _ => n + 1) n = n + l.length := by
    intro l
    induction l with
    | nil => intro n; rfl
    | cons x l ih => intro n; rw [List.foldl_cons, ih, List.length_cons]; omega
  refine w0_for (γ := Nat) emb A (fun n _ => n + 1) hm h0 (fun pre x post μ e h => ?_) (fun μ h => hd μ (by rw [fl] at h; simpa using h))
  rw [fl] at h ⊢
  rw [Nat.zero_add] at h ⊢
  have hx : xs[pre.length]? = some x := by rw [e]; simp
  rw [List.length_append, List.length_singleton]
  exact hs pre.length x μ hx h
theorem w0_forW {γ δ : Type} {m : M (List D)} {g : D → MS → Option MS} {s : MT} (emb : δ → D) (A : γ → MS → Prop) (f : γ → δ → γ) (xs : List δ) (a : γ) (hm : Go (WM0 (m μ) fun ds μ1 => ds = xs.map emb ∧ A a μ1))
    (hs : ∀ (pre : List δ) (x : δ) (post : List δ) (μ : MS), xs = pre ++ x :: post → A (pre.foldl f a) μ → Go (WO0 (g (emb x) μ) fun μ2 => W0 (s μ2) (A (f (pre.foldl f a) x)) R N (A (f (pre.foldl f a) x))))
    (hd : ∀ μ, A (xs.foldl f a) μ → Go (N μ)) : W0 (sFor m g s μ) N R Bk Ct := by
  unfold Go at hm hs hd
  cases h : m μ with
  | none => rw [h] at hm; exact hm.elim
  | some p =>
    obtain ⟨ds, μ1⟩ := p
    rw [h] at hm
    obtain ⟨rfl, hA⟩ := hm
    refine w0_for emb A f h hA (fun pre x post μ e h => ?_) hd
    have q := hs pre x post μ e h
    rw [List.foldl_append, List.foldl_cons, List.foldl_nil]
    exact q
theorem w0_forN {δ : Type} {m : M (List D)} {g : D → MS → Option MS} {s : MT} (emb : δ → D) (A : Nat → MS → Prop) (xs : List δ) (hm : Go (WM0 (m μ) fun ds μ1 => ds = xs.map emb ∧ A 0 μ1))
    (hs : ∀ (i : Nat) (x : δ) (μ : MS), xs[i]? = some x → A i μ → Go (WO0 (g (emb x) μ) fun μ2 => W0 (s μ2) (A (i + 1)) R N (A (i + 1))))
    (hd : ∀ μ, A xs.length μ → Go (N μ)) : W0 (sFor m g s μ) N R Bk Ct := by
  unfold Go at hm hs hd
  cases h : m μ with
  | none => rw [h] at hm; exact hm.elim
  | some p =>
    obtain ⟨ds, μ1⟩ := p
    rw [h] at hm
    obtain ⟨rfl, hA⟩ := hm
    exact w0_forI emb A h hA hs hd
theorem w0_while {m : M Bool} {s : MT} (A : Nat → MS → Prop) {n : Nat} (hn : n < fuel) (h0 : A n μ)
    (hs : ∀ n μ, A n μ → Go (WM0 (m μ) fun b μ1 => if b = true then W0 (s μ1) (fun μ2 => ∃ k, k < n ∧ A k μ2) R N (fun μ2 => ∃ k, k < n ∧ A k μ2) else N μ1)) : W0 (sWhile m s μ) N R Bk Ct := by
  unfold Go at hs
  unfold sWhile
  have key : ∀ (fu : Nat) (n : Nat) (μ : MS), n < fu → A n μ → W0 (whileF m s fu μ) N R Bk Ct := by
    intro fu
    induction fu with
    | zero => intro n μ h _; omega
    | succ fu ih =>
      intro n μ hl h
      have q := hs n μ h
      unfold whileF
      cases hm : m μ with
      | none => rw [hm] at q; exact q.elim
      | some p =>
        obtain ⟨b, μ1⟩ := p
        rw [hm] at q
        cases b with
        | false => simpa using q
        | true =>
          simp only [WM0_some, if_true] at q
          simp only
          cases hb : s μ1 with
          | nx μ3 =>
            rw [hb] at q
            obtain ⟨k, hk, q⟩ := q
            exact ih k μ3 (by omega) q
          | ct μ3 =>
            rw [hb] at q
            obtain ⟨k, hk, q⟩ := q
            exact ih k μ3 (by omega) q
          | bk μ3 => rw [hb] at q; exact q
          | rt d dr => rw [hb] at q; exact q
          | bad => rw [hb] at q; exact q.elim
  exact key fuel n μ hn h0
end
/-! ### expressions -/
section
variable {P : D → MS → Prop} {μ : MS}
theorem wm0_c {d : D} : WM0 (mC d μ) P = P d μ := rfl
theorem wm0_oVal {m : M D} {Q : O → MS → Prop} : WM0 (oVal m μ) Q = WM0 (m μ) fun d μ' => Q (.v d) μ' := by
  unfold oVal
  rw [WM0_bind, WM0_WO]; rfl
theorem wm0_oName {i : Nat} {Q : O → MS → Prop} : WM0 (oName i μ) Q = WO0 (look (.s i) μ) fun _ => Q (.s i) μ := by
  unfold oName
  rw [WM0_bind]; rfl
theorem wm0_m2 {g : D → D → Option D} {ma mb : M O} : WM0 (m2 g ma mb μ) P = WM0 (ma μ) fun o1 μ1 => WM0 (mb μ1) fun o2 μ2 => WO0 (look o1 μ2) fun d => WO0 (look o2 μ2) fun e => WO0 (g d e) fun z => P z μ2 := by
  unfold m2
  simp only [WM0_WO, WO0_bind, WO0_some]
  repeat (refine WO0_ext fun _ => ?_; try simp only [WM0_WO, WO0_bind, WO0_some])
theorem wm0_m2F {g : D → D → Option (List D)} {ma mb : M O} {Q : List D → MS → Prop} : WM0 (m2F g ma mb μ) Q = WM0 (ma μ) fun o1 μ1 => WM0 (mb μ1) fun o2 μ2 => WO0 (look o1 μ2) fun d => WO0 (look o2 μ2) fun e => WO0 (g d e) fun z => Q z μ2 := by
  unfold m2F
  simp only [WM0_WO, WO0_bind, WO0_some]
  repeat (refine WO0_ext fun _ => ?_; try simp only [WM0_WO, WO0_bind, WO0_some])
theorem wm0_m1 {g : D → Option D} {ma : M O} : WM0 (m1 g ma μ) P = WM0 (ma μ) fun o1 μ1 => WO0 (look o1 μ1) fun d => WO0 (g d) fun z => P z μ1 := by
  unfold m1
  simp only [WM0_WO, WO0_bind, WO0_some]
  repeat (refine WO0_ext fun _ => ?_; try simp only [WM0_WO, WO0_bind, WO0_some])
theorem wm0_mB {m : M D} {Q : Bool → MS → Prop} : WM0 (mB m μ) Q = WM0 (m μ) fun d μ1 => match d with
    | .bool b => Q b μ1
    | _ => False := by
  unfold mB
  rw [WM0_bind, WM0_WO]
  cases m μ with
  | none => rfl
  | some p =>
    obtain ⟨d, μ1⟩ := p
    cases d <;> rfl
theorem wm0_chain {g g' : D → D → Option D} {ma mb mc : M O} : WM0 (mChain g g' ma mb mc μ) P = WM0 (ma μ) fun o1 μ1 => WM0 (mb μ1) fun o2 μ2 => WO0 (look o1 μ2) fun d => WO0 (look o2 μ2) fun e => WO0 (g d e) fun z => match z with
    | .bool true => WM0 (mc μ2) fun o3 μ3 => WO0 (look o2 μ3) fun e' => WO0 (look o3 μ3) fun f => WO0 (g' e' f) fun z' => P z' μ3
    | .bool false => P (.bool false) μ2
    | _ => False := by
  unfold mChain
  simp only [WM0_WO, WO0_bind]
  refine WO0_ext fun p => ?_; try simp only [WM0_WO, WO0_bind]
  refine WO0_ext fun q => ?_; try simp only [WM0_WO, WO0_bind]
  refine WO0_ext fun d => ?_; try simp only [WM0_WO, WO0_bind]
  refine WO0_ext fun e => ?_; try simp only [WM0_WO, WO0_bind]
  refine WO0_ext fun z => ?_; try simp only [WM0_WO, WO0_bind]
  cases z <;> try rfl
  rename_i b
  cases b
  · rfl
  · simp only [WM0_WO, WO0_bind, WO0_some]
    repeat (refine WO0_ext fun _ => ?_; try simp only [WM0_WO, WO0_bind, WO0_some])
theorem wm0_aNil {Q : List O → MS → Prop} : WM0 (aNil μ) Q = Q [] μ := rfl
theorem wm0_aCons {m : M O} {n : M (List O)} {Q : List O → MS → Prop} : WM0 (aCons m n μ) Q = WM0 (m μ) fun o μ1 => WM0 (n μ1) fun os μ2 => Q (o :: os) μ2 := by
  unfold aCons
  simp only [WM0_WO, WO0_bind, WO0_some]
  repeat (refine WO0_ext fun _ => ?_; try simp only [WM0_WO, WO0_bind, WO0_some])
theorem wm0_call {α : Type} {g : List D → Option α} {ma : M (List O)} {Q : α → MS → Prop} : WM0 (mCall g ma μ) Q = WM0 (ma μ) fun os μ1 => WO0 (looks os μ1) fun ds => WO0 (g ds) fun z => Q z μ1 := by
  unfold mCall
  simp only [WM0_WO, WO0_bind, WO0_some]
  repeat (refine WO0_ext fun _ => ?_; try simp only [WM0_WO, WO0_bind, WO0_some])
theorem wm0_callU {f : FM} {ma : M (List O)} : WM0 (mCallU f ma μ) P = WM0 (ma μ) fun os μ1 => WO0 (looks os μ1) fun ds => WO0 (f ds μ1.dr) fun z => P z.1 (if flat z.1 = true then { μ1 with dr := z.2 } else { frzA os μ1 with dr := z.2 }) := by
  unfold mCallU
  simp only [WM0_WO, WO0_bind, WO0_some]
  repeat (refine WO0_ext fun _ => ?_; try simp only [WM0_WO, WO0_bind, WO0_some])
theorem wm0_truth {ma : M O} {Q : Bool → MS → Prop} : WM0 (mTruth ma μ) Q = WM0 (ma μ) fun o μ1 => WO0 (look o μ1) fun d => WO0 (truth d) fun b => Q b μ1 := by
  unfold mTruth
  simp only [WM0_WO, WO0_bind, WO0_some]
  repeat (refine WO0_ext fun _ => ?_; try simp only [WM0_WO, WO0_bind, WO0_some])
theorem wm0_and {m n : M Bool} {Q : Bool → MS → Prop} : WM0 (bAnd m n μ) Q = WM0 (m μ) fun b μ1 => if b = true then WM0 (n μ1) Q else Q false μ1 := by
  unfold bAnd
  rw [WM0_bind, WM0_WO]
  refine WO0_ext fun p => ?_; try simp only [WM0_WO, WO0_bind]
  split <;> rfl
theorem wm0_or {m n : M Bool} {Q : Bool → MS → Prop} : WM0 (bOr m n μ) Q = WM0 (m μ) fun b μ1 => if b = true then Q true μ1 else WM0 (n μ1) Q := by
  unfold bOr
  rw [WM0_bind, WM0_WO]
  refine WO0_ext fun p => ?_; try simp only [WM0_WO, WO0_bind]
  split <;> rfl
theorem wm0_not {m : M Bool} {Q : Bool → MS → Prop} : WM0 (bNot m μ) Q = WM0 (m μ) fun b μ1 => Q (!b) μ1 := by
  unfold bNot
  simp only [WM0_WO, WO0_bind, WO0_some]
  repeat (refine WO0_ext fun _ => ?_; try simp only [WM0_WO, WO0_bind, WO0_some])
theorem wm0_ife {m : M Bool} {n k : M D} : WM0 (eIf m n k μ) P = WM0 (m μ) fun b μ1 => if b = true then WM0 (n μ1) P else WM0 (k μ1) P := by
  unfold eIf
  rw [WM0_bind, WM0_WO]
  refine WO0_ext fun p => ?_; try simp only [WM0_WO, WO0_bind]
  split <;> rfl
theorem wm0_eand {m n : M D} : WM0 (eAnd m n μ) P = WM0 (m μ) fun d μ1 => WO0 (truth d) fun b => if b = true then WM0 (n μ1) P else P d μ1 := by
  unfold eAnd
  simp only [WM0_WO, WO0_bind]
  refine WO0_ext fun p => ?_; try simp only [WM0_WO, WO0_bind]
  refine WO0_ext fun b => ?_; try simp only [WM0_WO, WO0_bind]
  split <;> rfl
theorem wm0_eor {m n : M D} : WM0 (eOr m n μ) P = WM0 (m μ) fun d μ1 => WO0 (truth d) fun b => if b = true then P d μ1 else WM0 (n μ1) P := by
  unfold eOr
  simp only [WM0_WO, WO0_bind]
  refine WO0_ext fun p => ?_; try simp only [WM0_WO, WO0_bind]
  refine WO0_ext fun b => ?_; try simp only [WM0_WO, WO0_bind]
  split <;> rfl
theorem wm0_enot {ma : M O} : WM0 (eNot ma μ) P = WM0 (ma μ) fun o μ1 => WO0 (look o μ1) fun d => WO0 (truth d) fun b => P (.bool (!b)) μ1 := by
  unfold eNot
  simp only [WM0_bind]
  rw [← wm0_truth (Q := fun b μ1 => P (.bool (!b)) μ1), WM0_WO]
  rfl
theorem wm0_tup {m : M (List D)} : WM0 (mTup m μ) P = WM0 (m μ) fun ds μ1 => if ds.length ≤ 16777216 then P (.tuple ds) μ1 else False := by
  unfold mTup
  rw [WM0_bind, WM0_WO]
  refine WO0_ext fun p => ?_; try simp only [WM0_WO, WO0_bind]
  split <;> rfl
theorem wm0_lst {m : M (List D)} {Q : List D → MS → Prop} : WM0 (mLst m μ) Q = WM0 (m μ) fun ds μ1 => if ds.length ≤ 16777216 then Q ds μ1 else False := by
  unfold mLst
  rw [WM0_bind, WM0_WO]
  refine WO0_ext fun p => ?_; try simp only [WM0_WO, WO0_bind]
  split <;> rfl
theorem wm0_ds_nil {Q : List D → MS → Prop} : WM0 (mDs [] μ) Q = Q [] μ := rfl
theorem wm0_ds_cons {m : M D} {ms : List (M D)} {Q : List D → MS → Prop} : WM0 (mDs (m :: ms) μ) Q = WM0 (m μ) fun d μ1 => WM0 (mDs ms μ1) fun ds μ2 => Q (d :: ds) μ2 := by
  conv => lhs; unfold mDs
  simp only [WM0_WO, WO0_bind, WO0_some]
  repeat (refine WO0_ext fun _ => ?_; try simp only [WM0_WO, WO0_bind, WO0_some])
theorem wm0_new {m : M (List D)} : WM0 (eNew m μ) P = WM0 (m μ) fun ds μ1 => P (.list ds) μ1 := by
  unfold eNew
  simp only [WM0_WO, WO0_bind, WO0_some]
  repeat (refine WO0_ext fun _ => ?_; try simp only [WM0_WO, WO0_bind, WO0_some])
theorem wm0_seq {m : M D} {Q : List D → MS → Prop} : WM0 (mSeq m μ) Q = WM0 (m μ) fun d μ1 => WO0 (items d) fun ds => Q ds μ1 := by
  unfold mSeq
  simp only [WM0_WO, WO0_bind, WO0_some]
  repeat (refine WO0_ext fun _ => ?_; try simp only [WM0_WO, WO0_bind, WO0_some])
theorem wm0_xNil {Q : List Sv → MS → Prop} : WM0 (xNil μ) Q = Q [] μ := rfl
theorem wm0_xVal {m : M D} {n : M (List Sv)} {Q : List Sv → MS → Prop} : WM0 (xVal m n μ) Q = WM0 (m μ) fun d μ1 => WM0 (n μ1) fun ss μ2 => Q (.val d :: ss) μ2 := by
  unfold xVal
  simp only [WM0_WO, WO0_bind, WO0_some]
  repeat (refine WO0_ext fun _ => ?_; try simp only [WM0_WO, WO0_bind, WO0_some])
theorem wm0_xNew {m : M (List D)} {n : M (List Sv)} {Q : List Sv → MS → Prop} : WM0 (xNew m n μ) Q = WM0 (m μ) fun d μ1 => WM0 (n μ1) fun ss μ2 => Q (.own d :: ss) μ2 := by
  unfold xNew
  simp only [WM0_WO, WO0_bind, WO0_some]
  repeat (refine WO0_ext fun _ => ?_; try simp only [WM0_WO, WO0_bind, WO0_some])
theorem wm0_pNone {Q : Option Int → MS → Prop} : WM0 (pNone μ) Q = Q none μ := rfl
theorem wm0_pSome {m : M D} {Q : Option Int → MS → Prop} : WM0 (pSome m μ) Q = WM0 (m μ) fun d μ1 => match d with
    | .int i => Q (some i) μ1
    | _ => False := by
  unfold pSome
  rw [WM0_bind, WM0_WO]
  refine WO0_ext fun p => ?_; try simp only [WM0_WO, WO0_bind]
  obtain ⟨d, μ1⟩ := p
  cases d <;> rfl
theorem wm0_sl {α : Type} {g : D → Option Int → Option Int → Option α} {ma : M O} {ml mh : M (Option Int)} {Q : α → MS → Prop} : WM0 (mSl g ma ml mh μ) Q = WM0 (ma μ) fun o μ1 => WM0 (ml μ1) fun l μ2 => WM0 (mh μ2) fun h μ3 => WO0 (look o μ3) fun d => WO0 (g d l h) fun z => Q z μ3 := by
  unfold mSl
  simp only [WM0_WO, WO0_bind, WO0_some]
  repeat (refine WO0_ext fun _ => ?_; try simp only [WM0_WO, WO0_bind, WO0_some])
theorem wm0_app {i : Nat} {m : M D} : WM0 (mApp i m μ) P = WO0 (owned μ i) fun _ => WM0 (m μ) fun d μ1 => WO0 (owned μ1 i) fun ds => if ds.length < 16777216 then P .none (setS μ1 i (.own (ds ++ [d]))) else False := by
  unfold mApp
  simp only [WM0_WO, WO0_bind]
  refine WO0_ext fun _ => ?_; try simp only [WM0_WO, WO0_bind]
  refine WO0_ext fun p => ?_; try simp only [WM0_WO, WO0_bind]
  refine WO0_ext fun ds => ?_; try simp only [WM0_WO, WO0_bind]
  split <;> rfl
theorem wm0_ext {i : Nat} {m : M O} : WM0 (mExt i m μ) P = WO0 (owned μ i) fun _ => WM0 (m μ) fun o μ1 => WO0 (owned μ1 i) fun ds => WO0 (look o μ1) fun e => match e with
    | .list es => if ds.length + es.length ≤ 16777216 then P .none (setS μ1 i (.own (ds ++ es))) else False
    | _ => False := by
  unfold mExt
  simp only [WM0_WO, WO0_bind]
  refine WO0_ext fun _ => ?_; try simp only [WM0_WO, WO0_bind]
  refine WO0_ext fun p => ?_; try simp only [WM0_WO, WO0_bind]
  refine WO0_ext fun ds => ?_; try simp only [WM0_WO, WO0_bind]
  refine WO0_ext fun e => ?_; try simp only [WM0_WO, WO0_bind]
  cases e <;> try rfl
  simp only
  split <;> rfl
theorem wm0_pop {i : Nat} : WM0 (mPop i μ) P = WO0 (owned μ i) fun ds => WO0 (ds[ds.length - 1]?) fun d => P d (setS μ i (.own ds.dropLast)) := by
  unfold mPop
  simp only [WM0_WO, WO0_bind, WO0_some]
  repeat (refine WO0_ext fun _ => ?_; try simp only [WM0_WO, WO0_bind, WO0_some])
theorem wm0_popAt {i : Nat} {m : M D} : WM0 (mPopAt i m μ) P = WO0 (owned μ i) fun _ => WM0 (m μ) fun k μ1 => WO0 (owned μ1 i) fun ds => match k with
    | .int j => if -(2 ^ 63) ≤ j ∧ j < 2 ^ 63 then WO0 (seqIndex? j ds.length) fun k => WO0 (ds[k]?) fun d => P d (setS μ1 i (.own (ds.eraseIdx k))) else False
    | _ => False := by
  unfold mPopAt
  simp only [WM0_WO, WO0_bind]
  refine WO0_ext fun _ => ?_; try simp only [WM0_WO, WO0_bind]
  refine WO0_ext fun p => ?_; try simp only [WM0_WO, WO0_bind]
  refine WO0_ext fun ds => ?_; try simp only [WM0_WO, WO0_bind]
  obtain ⟨k, μ1⟩ := p
  cases k <;> try rfl
  simp only
  split
  · simp only [WM0_WO, WO0_bind, WO0_some]
    repeat (refine WO0_ext fun _ => ?_; try simp only [WM0_WO, WO0_bind, WO0_some])
  · rfl
/-- the data in a slot -/
def slDt : Sl → Option D
  | .val d => some d
  | .ow o => some o.dat
  | .un => none
@[simp] theorem dat_l {ds : List D} : (Ob.l ds).dat = .list ds := rfl
@[simp] theorem dat_d {tk : Bool} {ks : List (D × D)} : (Ob.d tk ks).dat = .dict ((.bool tk, .none) :: ks) := rfl
@[simp] theorem slDt_ow {o : Ob} : slDt (.ow o) = some o.dat := rfl
@[simp] theorem slDt_val {d : D} : slDt (.val d) = some d := rfl
@[simp] theorem slDt_own {ds : List D} : slDt (.own ds) = some (.list ds) := rfl
@[simp] theorem slDt_un : slDt .un = none := rfl
theorem set_get {α : Type} {l : List α} {i : Nat} {a : α} (h : l[i]? = some a) : l.set i a = l := by
  apply List.ext_getElem?
  intro j
  by_cases hj : i = j
  · subst hj
    rw [List.getElem?_set_self (List.getElem?_eq_some_iff.mp h).1, h]
  · rw [List.getElem?_set_ne hj]
theorem wm0_var {i : Nat} : WM0 (mVar i μ) P = WO0 ((μ.sl[i]?).bind slDt) fun d => P d (setS μ i (.val d)) := by
  obtain ⟨l, dr⟩ := μ
  unfold mVar frz oName look
  cases h : l[i]? with
  | none => simp [h]
  | some s =>
    cases s with
    | un => simp [h]
    | val d => simp [h, setS, set_get h]
    | ow ds => simp [h]
@[simp] theorem look_v {d : D} : look (.v d) μ = some d := rfl
@[simp] theorem look_s {i : Nat} : look (.s i) μ = (μ.sl[i]?).bind slDt := by
  unfold look
  cases h : μ.sl[i]? with
  | none => simp [h]
  | some s => cases s <;> simp [h]
@[simp] theorem looks_nil : looks [] μ = some [] := rfl
@[simp] theorem looks_cons {o : O} {os : List O} : looks (o :: os) μ = (look o μ).bind fun d => (looks os μ).bind fun ds => some (d :: ds) := rfl
@[simp] theorem owned_mk {l : List Sl} {dr : Dr} {i : Nat} : owned ⟨l, dr⟩ i = match l[i]? with
    | some (.ow (.l ds)) => some ds
    | _ => none := rfl
@[simp] theorem valAt_mk {l : List Sl} {dr : Dr} {i : Nat} : valAt ⟨l, dr⟩ i = match l[i]? with
    | some (.val ds) => some ds
    | _ => none := rfl
@[simp] theorem setS_mk {l : List Sl} {dr : Dr} {i : Nat} {s : Sl} : setS ⟨l, dr⟩ i s = ⟨l.set i s, dr⟩ := rfl
@[simp] theorem gN_ev {i : Nat} {d : D} : gN i d μ = some (setS μ i (.val d)) := rfl
@[simp] theorem gsNil_ev : gsNil [] μ = some μ := rfl
@[simp] theorem gsCons_ev {m : D → MS → Option MS} {n : List D → MS → Option MS} {d : D} {ds : List D} : gsCons m n (d :: ds) μ = (m d μ).bind fun μ' => n ds μ' := rfl
@[simp] theorem gT_ev {n : Nat} {m : List D → MS → Option MS} {ds : List D} : gT n m (.tuple ds) μ = if ds.length = n then m ds μ else none := rfl
@[simp] theorem putA_nil : putA [] [] μ = some μ := rfl
@[simp] theorem putA_cons {i : Nat} {is : List Nat} {s : Sv} {ss : List Sv} : putA (i :: is) (s :: ss) μ = putA is ss (setS μ i s.sl) := rfl
@[simp] theorem sv_val {d : D} : (Sv.val d).sl = .val d := rfl
@[simp] theorem sv_own {d : List D} : (Sv.own d).sl = .own d := rfl
@[simp] theorem frzA_nil : frzA [] μ = μ := rfl
@[simp] theorem frzA_v {d : D} {os : List O} : frzA (.v d :: os) μ = frzA os μ := rfl
@[simp] theorem frzA_s {i : Nat} {os : List O} : frzA (.s i :: os) μ = frzA os (match μ.sl[i]? with
    | some (.ow o) => setS μ i (.val o.dat)
    | _ => μ) := rfl
@[simp] theorem flat_int {i : Int} : flat (.int i) = true := rfl
@[simp] theorem flat_bool {i : Bool} : flat (.bool i) = true := rfl
@[simp] theorem flat_str {i : Str} : flat (.str i) = true := rfl
@[simp] theorem flat_none : flat .none = true := rfl
@[simp] theorem flat_tuple {ds : List D} : flat (.tuple ds) = false := rfl
@[simp] theorem flat_list {ds : List D} : flat (.list ds) = false := rfl
end
/-! ### comprehensions -/
/-- over a source, every element told by the item alone -/
theorem mLc_map {δ : Type} {mi : M (List D)} {i : Nat} {m : M D} {μ : MS} {l : List Sl} {dr : Dr} (emb : δ → D) (f : δ → D) {xs : List δ} (hm : mi μ = some (xs.map emb, ⟨l, dr⟩)) (hl : xs.length ≤ 16777216) (hi : ∀ ds, l[i]? ≠ some (.ow ds))
    (he : ∀ x ∈ xs, m ⟨l.set i (.val (emb x)), dr⟩ = some (f x, ⟨l.set i (.val (emb x)), dr⟩)) : mLc mi (gN i) tYesM m [i] μ = some (xs.map f, ⟨l, dr⟩) := by
  unfold mLc
  rw [hm]
  have key : ∀ (ys : List δ) (acc : List D), (∀ x ∈ ys, x ∈ xs) → acc.length + ys.length ≤ xs.length → loopC (gN i) tYesM m [i] (ys.map emb) acc ⟨l.set i .un, dr⟩ = some (acc ++ ys.map f, ⟨l.set i .un, dr⟩) := by
    intro ys
    induction ys with
    | nil => intro acc _ _; simp [loopC]
    | cons y ys ih =>
      intro acc hs hln
      rw [List.length_cons] at hln
      have hy := he y (hs y List.mem_cons_self)
      simp only [List.map_cons, loopC, gN_ev, setS_mk, Option.bind_some, tYesM, if_true, List.set_set, hy]
      rw [if_pos (by show acc.length < 16777216; omega)]
      have e1 : wipeS ⟨l.set i (.val (emb y)), dr⟩ [i] = ⟨l.set i .un, dr⟩ := by simp [wipeS]
      rw [e1, ih _ (fun x hx => hs x (List.mem_cons_of_mem _ hx)) (by rw [List.length_append, List.length_singleton]; omega)]
      simp
  have e1 : wipeS ⟨l, dr⟩ [i] = ⟨l.set i .un, dr⟩ := by simp [wipeS]
  simp only [Option.bind_some, e1]
  rw [key xs [] (fun _ h => h) (by simp)]
  simp only [Option.bind_some, List.nil_append]
  have e2 : restS ⟨l, dr⟩ [i] ⟨l.set i .un, dr⟩ = ⟨l, dr⟩ := by
    unfold restS
    split
    · rename_i d hd
      simp only [restS, setS_mk, List.set_set]
      have hd' : l[i]? = some (.val d) := hd
      congr 1
      apply List.ext_getElem?
      intro j
      by_cases hj : i = j
      · subst hj
        have hl : i < l.length := (List.getElem?_eq_some_iff.mp hd').1
        rw [List.getElem?_set_self hl, hd']
      · rw [List.getElem?_set_ne hj]
    · rename_i hd
      simp only [restS]
      congr 1
      apply List.ext_getElem?
      intro j
      by_cases hj : i = j
      · subst hj
        by_cases hl : i < l.length
        · rw [List.getElem?_set_self hl]
          cases q : l[i]? with
          | none => rw [List.getElem?_eq_none_iff] at q; omega
          | some s =>
            cases s with
            | un => rfl
            | val d => exact absurd q (hd d)
            | ow ds => exact absurd q (hi ds)
        · rw [List.getElem?_eq_none (by simpa using hl), List.getElem?_eq_none (by simpa using hl)]
      · rw [List.getElem?_set_ne hj]
  rw [e2]
/-! ### defs -/
/-- a def's mirror, by what is wanted of its body -/
theorem fnM_eq0 {n : Nat} {b : MT} {ds : List D} {dr : Dr} {d : D} {dr' : Dr} (h : Go (W0 (b ⟨ds.map Sl.val ++ List.replicate (n - ds.length) Sl.un, dr⟩) (fun μ => d = .none ∧ μ.dr = dr') (fun e er => e = d ∧ er = dr') (fun _ => False) (fun _ => False))) : fnM n b ds dr = some (d, dr') := by
  unfold Go at h
  unfold fnM
  cases hb : b ⟨ds.map Sl.val ++ List.replicate (n - ds.length) Sl.un, dr⟩ with
  | nx μ => rw [hb] at h; obtain ⟨h1, h2⟩ := h; simp [h1, h2]
  | rt e er => rw [hb] at h; obtain ⟨h1, h2⟩ := h; simp [h1, h2]
  | bk μ => rw [hb] at h; exact h.elim
  | ct μ => rw [hb] at h; exact h.elim
  | bad => rw [hb] at h; exact h.elim
theorem fnM_wo0 {n : Nat} {b : MT} {ds : List D} {dr : Dr} {Q : D × Dr → Prop} (h : Go (W0 (b ⟨ds.map Sl.val ++ List.replicate (n - ds.length) Sl.un, dr⟩) (fun μ => Q (.none, μ.dr)) (fun e er => Q (e, er)) (fun _ => False) (fun _ => False))) : WO0 (fnM n b ds dr) Q := by
  unfold Go at h
  unfold fnM
  cases hb : b ⟨ds.map Sl.val ++ List.replicate (n - ds.length) Sl.un, dr⟩ with
  | nx μ => rw [hb] at h; exact h
  | rt e er => rw [hb] at h; exact h
  | bk μ => rw [hb] at h; exact h.elim
  | ct μ => rw [hb] at h; exact h.elim
  | bad => rw [hb] at h; exact h.elim
/-- a draw is told by its bounds -/
theorem draw_wo0 {m : Int} {dr : Dr} {Q : D × Dr → Prop} (h0 : 0 < m) (h1 : m < 2 ^ 8000) (h : ∀ r dr', 0 ≤ r → r < m → Go (Q (.int r, dr'))) : WO0 (drawF [.dict [], .int m] dr) Q := by
  unfold drawF
  have hl : m.natAbs.log2 < 9000 := by
    have : m.natAbs < 2 ^ 8000 := by omega
    have h2 := PySem.Flt.log2_lt_of (by decide : 0 < 8000) this
    omega
  simp only [if_pos (show 0 < m ∧ m.natAbs.log2 < 9000 from ⟨h0, hl⟩), WO0_some]
  unfold drawM
  split
  · exact h _ _ (Int.emod_nonneg _ (by omega)) (Int.emod_lt_of_pos _ h0)
  · exact h _ _ (Int.emod_nonneg _ (by omega)) (Int.emod_lt_of_pos _ h0)
/-! ### sizes -/
theorem bits_of {i : Int} {n : Nat} (h : i.natAbs < 2 ^ n) : Builtin.Int.intBits i ≤ n := PyProof.Rows.intBits_le h
theorem mulD_of {a b : Int} (m n : Nat) (ha : a.natAbs < 2 ^ m) (hb : b.natAbs < 2 ^ n) (h : m + n ≤ 134217728) : mulD (.int a) (.int b) = some (.int (a * b)) := by
  unfold mulD
  have h1 := bits_of ha
  have h2 := bits_of hb
  simp only
  rw [if_pos (by omega)]
theorem fdivD_of {a b : Int} (h0 : 0 < b) (h : b.natAbs < 2 ^ 8000) : fdivD (.int a) (.int b) = some (.int (a / b)) := by
  unfold fdivD
  have h2 := PySem.Flt.log2_lt_of (by decide : 0 < 8000) h
  simp only
  rw [if_pos ⟨h0, by omega⟩]
theorem modD_of {a b : Int} (h0 : 0 < b) : modD (.int a) (.int b) = some (.int (a % b)) := by
  unfold modD
  simp only
  rw [if_pos h0]
@[simp] theorem addD_int {a b : Int} : addD (.int a) (.int b) = some (.int (a + b)) := rfl
@[simp] theorem subD_int {a b : Int} : subD (.int a) (.int b) = some (.int (a - b)) := rfl
@[simp] theorem addI_int {a b : Int} : addI (.int a) (.int b) = some (.int (a + b)) := rfl
@[simp] theorem negD_int {a : Int} : negD (.int a) = some (.int (-a)) := rfl
@[simp] theorem lenD_list {ds : List D} : lenD [.list ds] = some (.int ds.length) := rfl
@[simp] theorem lenD_tuple {ds : List D} : lenD [.tuple ds] = some (.int ds.length) := rfl
@[simp] theorem listF_list {ds : List D} : listF [.list ds] = some ds := rfl
@[simp] theorem listF_tuple {ds : List D} : listF [.tuple ds] = some ds := rfl
@[simp] theorem tupD_list {ds : List D} : tupD [.list ds] = some (.tuple ds) := rfl
@[simp] theorem tupD_tuple {ds : List D} : tupD [.tuple ds] = some (.tuple ds) := rfl
@[simp] theorem intD_int {i : Int} : intD [.int i] = some (.int i) := rfl
@[simp] theorem intD_bool {k : Bool} : intD [.bool k] = some (.int (if k then 1 else 0)) := rfl
@[simp] theorem ltD_int {a b : Int} : ltD (.int a) (.int b) = some (.bool (decide (a < b))) := rfl
@[simp] theorem leD_int {a b : Int} : leD (.int a) (.int b) = some (.bool (decide (a ≤ b))) := rfl
@[simp] theorem gtD_int {a b : Int} : gtD (.int a) (.int b) = some (.bool (decide (b < a))) := rfl
@[simp] theorem geD_int {a b : Int} : geD (.int a) (.int b) = some (.bool (decide (b ≤ a))) := rfl
@[simp] theorem eqD_int {a b : Int} : eqD (.int a) (.int b) = some (.bool (a == b)) := by simp [eqD, SeqAt.shaped, PyData.canLay0, PyData.depth, PyData.eqv]
@[simp] theorem neD_int {a b : Int} : neD (.int a) (.int b) = some (.bool (!(a == b))) := by simp [neD, SeqAt.shaped, PyData.canLay0, PyData.depth, PyData.eqv]
@[simp] theorem isD_none {d : D} : isD d .none = some (.bool (isNone d)) := by cases d <;> rfl
@[simp] theorem isNotD_none {d : D} : isNotD d .none = some (.bool (!isNone d)) := by cases d <;> rfl
@[simp] theorem isNone_none : isNone .none = true := rfl
@[simp] theorem isNone_int {i : Int} : isNone (.int i) = false := rfl
@[simp] theorem isNone_tuple {ds : List D} : isNone (.tuple ds) = false := rfl
@[simp] theorem isNone_list {ds : List D} : isNone (.list ds) = false := rfl
@[simp] theorem isNone_str {x : Str} : isNone (.str x) = false := rfl
@[simp] theorem isNone_bool {x : Bool} : isNone (.bool x) = false := rfl
@[simp] theorem truth_bool {b : Bool} : truth (.bool b) = some b := rfl
@[simp] theorem truth_int {i : Int} : truth (.int i) = some (i != 0) := rfl
@[simp] theorem truth_list {ds : List D} : truth (.list ds) = some (!ds.isEmpty) := rfl
@[simp] theorem truth_tuple {ds : List D} : truth (.tuple ds) = some (!ds.isEmpty) := rfl
@[simp] theorem truth_none : truth .none = some false := rfl
@[simp] theorem items_list {ds : List D} : items (.list ds) = some ds := rfl
@[simp] theorem items_tuple {ds : List D} : items (.tuple ds) = some ds := rfl
/-! ### items by place -/
theorem atI_get {α : Type} {xs : List α} {i : Nat} {x : α} (h : xs[i]? = some x) : atI xs (i : Int) = some x := L2.atI_nat h
theorem atI_int {α : Type} {xs : List α} {i : Int} {x : α} (h0 : 0 ≤ i) (h : xs[i.toNat]? = some x) : atI xs i = some x := by
  have e : i = (i.toNat : Int) := by omega
  rw [e]
  exact L2.atI_nat h
/-- a comprehension whose elements are told in order; the state may move -/
theorem wm0_lc_forN {δ : Type} {mi : M (List D)} {g : D → MS → Option MS} {m : M D} {vs : List Nat} {μ : MS} {Q : List D → MS → Prop} (emb : δ → D) (A : Nat → List D → MS → Prop) (xs : List δ) (hl : xs.length ≤ 16777216)
    (hm : Go (WM0 (mi μ) fun ds μ1 => ds = xs.map emb ∧ A 0 [] (wipeS μ1 vs) ∧ ∀ acc μ2, A xs.length acc μ2 → Go (Q acc (restS μ1 vs μ2))))
    (hs : ∀ (i : Nat) (x : δ) (acc : List D) (μ : MS), xs[i]? = some x → acc.length = i → A i acc μ → Go (WO0 (g (emb x) μ) fun μ2 => WM0 (m μ2) fun d μ3 => A (i + 1) (acc ++ [d]) (wipeS μ3 vs))) : WM0 (mLc mi g tYesM m vs μ) Q := by
  unfold Go at hm hs
  unfold mLc
  cases h : mi μ with
  | none => rw [h] at hm; exact hm.elim
  | some p =>
    obtain ⟨ds, μ1⟩ := p
    rw [h] at hm
    obtain ⟨rfl, hA, hQ⟩ := hm
    simp only [Option.bind_some]
    have key : ∀ (ys : List δ) (i : Nat) (acc : List D) (μ : MS), ys = xs.drop i → i + ys.length = xs.length → acc.length = i → A i acc μ → ∃ acc' μ', loopC g tYesM m vs (ys.map emb) acc μ = some (acc', μ') ∧ A xs.length acc' μ' := by
      intro ys
      induction ys with
      | nil =>
        intro i acc μ e hi ha hA
        simp only [List.length_nil, Nat.add_zero] at hi
        exact ⟨acc, μ, rfl, hi ▸ hA⟩
      | cons y ys ih =>
        intro i acc μ e hi ha hA
        simp only [List.length_cons] at hi
        have hy : xs[i]? = some y := by
          have := List.getElem?_drop (xs := xs) (i := i) (j := 0)
          rw [← e] at this
          simpa using this.symm
        have q := hs i y acc μ hy ha hA
        simp only [List.map_cons, loopC]
        cases hg : g (emb y) μ with
        | none => rw [hg] at q; exact q.elim
        | some μ2 =>
          rw [hg] at q
          simp only [WO0_some] at q
          simp only [Option.bind_some, tYesM, if_true]
          cases hb : m μ2 with
          | none => rw [hb] at q; exact q.elim
          | some r =>
            obtain ⟨d, μ3⟩ := r
            rw [hb] at q
            simp only [Option.bind_some]
            rw [if_pos (show acc.length < lineN by show acc.length < 16777216; omega)]
            refine ih (i + 1) _ _ ?_ (by omega) (by rw [List.length_append, List.length_singleton]; omega) q
            have := congrArg List.tail e
            simpa [List.tail_drop] using this
    obtain ⟨acc', μ', e, hA'⟩ := key xs 0 [] _ rfl (by simp) rfl hA
    rw [e]
    exact hQ _ _ hA'
/-- the mirror of range -/
theorem rng1_nat {n : Nat} (h : n < 2 ^ 62) : rng1 [.int (n : Int)] = some ((List.range n).map fun (i : Nat) => .int (i : Int)) := by
  unfold rng1 intsR
  simp only
  rw [if_pos (by constructor <;> omega)]
  simp
theorem rng1_int {j : Int} (h0 : 0 ≤ j) (h : j < 2 ^ 62) : rng1 [.int j] = some ((List.range j.toNat).map fun (i : Nat) => .int (i : Int)) := by
  have e : j = (j.toNat : Int) := by omega
  rw [e]
  exact rng1_nat (by omega)
theorem rng2_int {i j : Int} (h0 : 0 ≤ i) (hi : i < 2 ^ 62) (h1 : 0 ≤ j) (h : j < 2 ^ 62) : rng2 [.int i, .int j] = some ((List.range (j - i).toNat).map fun (k : Nat) => .int (i + (k : Int))) := by
  unfold rng2 intsR
  simp only
  rw [if_pos (by omega)]
theorem bools_map {α : Type} (p : α → Bool) : ∀ xs : List α, bools? (xs.map fun x => .bool (p x)) = some (xs.map p)
  | [] => rfl
  | x :: xs => by simp [bools?, bools_map p xs]
theorem allD_map {α : Type} {p : α → Bool} {xs : List α} : allD [.list (xs.map fun x => .bool (p x))] = some (.bool (xs.all p)) := by
  simp [allD, bools_map, List.all_map]
theorem anyD_map {α : Type} {p : α → Bool} {xs : List α} : anyD [.list (xs.map fun x => .bool (p x))] = some (.bool (xs.any p)) := by
  simp [anyD, bools_map, List.any_map]
theorem powD_of {a b : Int} (h0 : 0 ≤ b) (h1 : b ≤ 1000000) (h2 : a.natAbs < 2 ^ 64) : powD (.int a) (.int b) = some (.int (a ^ b.toNat)) := by
  unfold powD
  simp only
  rw [if_pos ⟨h0, h1, h2⟩]
theorem shlD_of {a b : Int} (n : Nat) (h0 : 0 ≤ b) (h1 : a.natAbs < 2 ^ n) (h2 : n + b ≤ 134217728) : shlD (.int a) (.int b) = some (.int (a * 2 ^ b.toNat)) := by
  unfold shlD
  have := bits_of h1
  simp only
  rw [if_pos ⟨h0, by omega⟩]
theorem mulB {a b : Int} (m n : Nat) (ha : a.natAbs < 2 ^ m) (hb : b.natAbs < 2 ^ n) : (a * b).natAbs < 2 ^ (m + n) := by
  rw [Int.natAbs_mul, Nat.pow_add]
  exact Nat.mul_lt_mul_of_lt_of_lt ha hb
theorem ixD_list {ds : List D} {i : Nat} {d : D} (h : ds[i]? = some d) : ixD (.list ds) (.int (i : Int)) = some d := atI_get h
theorem ixD_tuple {ds : List D} {i : Nat} {d : D} (h : ds[i]? = some d) : ixD (.tuple ds) (.int (i : Int)) = some d := atI_get h
theorem ixD_listI {ds : List D} {i : Int} {d : D} (h0 : 0 ≤ i) (h : ds[i.toNat]? = some d) : ixD (.list ds) (.int i) = some d := atI_int h0 h
theorem ixD_tupleI {ds : List D} {i : Int} {d : D} (h0 : 0 ≤ i) (h : ds[i.toNat]? = some d) : ixD (.tuple ds) (.int i) = some d := atI_int h0 h
theorem ixD_last {ds : List D} {d : D} : ixD (.list (ds ++ [d])) (.int (-1)) = some d := by
  show atI _ _ = _
  unfold atI ixN
  rw [if_neg (by decide), if_pos (by simp; omega), List.length_append, List.length_singleton, show ((-1 : Int) + ((ds.length + 1 : Nat) : Int)).toNat = ds.length by omega]
  simp
theorem of_W00 {r : SR} (h : W0 r (fun _ => False) (fun d _ => d = .bool true) (fun _ => False) (fun _ => False)) : ∃ dr, r = .rt (.bool true) dr := by
  cases r with
  | rt d dr => exact ⟨dr, by rw [show d = .bool true from h]⟩
  | nx μ => exact h.elim
  | bk μ => exact h.elim
  | ct μ => exact h.elim
  | bad => exact h.elim
/-! ### the shape of data -/
theorem shaped_of {d : D} (h1 : d.canLay0 = true) (h2 : d.depth ≤ 64) : SeqAt.shaped d = true := by
  unfold SeqAt.shaped
  rw [h1, decide_eq_true h2]
  rfl
theorem lay_ints : ∀ ns : List Int, PyData.canLayAll0 (ns.map PyData.int) = true ∧ PyData.depthAll (ns.map PyData.int) = 0
  | [] => ⟨rfl, rfl⟩
  | n :: ns => by
    obtain ⟨h1, h2⟩ := lay_ints ns
    simp only [List.map_cons, PyData.canLayAll0, PyData.depthAll, PyData.canLay0, PyData.depth, h1, h2]
    exact ⟨rfl, rfl⟩
theorem eqv_ints : ∀ ns ms : List Int, PyData.eqvAll (ns.map PyData.int) (ms.map PyData.int) = decide (ns = ms)
  | [], [] => rfl
  | [], _ :: _ => rfl
  | _ :: _, [] => rfl
  | n :: ns, m :: ms => by
    simp only [List.map_cons, PyData.eqvAll, PyData.eqv, eqv_ints ns ms, List.cons.injEq, Bool.decide_and, Bool.beq_eq_decide_eq]
theorem shaped_ints {ns : List Int} : SeqAt.shaped (.tuple (ns.map PyData.int)) = true ∧ SeqAt.shaped (.list (ns.map PyData.int)) = true := by
  obtain ⟨h1, h2⟩ := lay_ints ns
  constructor
  · exact shaped_of (by rw [PyData.canLay0]; exact h1) (by rw [PyData.depth, h2]; decide)
  · exact shaped_of (by rw [PyData.canLay0]; exact h1) (by rw [PyData.depth, h2]; decide)
theorem eqD_list_ints {ns ms : List Int} : eqD (.list (ns.map PyData.int)) (.list (ms.map PyData.int)) = some (.bool (decide (ns = ms))) := by
  unfold eqD
  rw [(shaped_ints (ns := ns)).2, (shaped_ints (ns := ms)).2]
  simp [PyData.eqv, eqv_ints]
theorem eqD_tuple_ints {ns ms : List Int} : eqD (.tuple (ns.map PyData.int)) (.tuple (ms.map PyData.int)) = some (.bool (decide (ns = ms))) := by
  unfold eqD
  rw [(shaped_ints (ns := ns)).1, (shaped_ints (ns := ms)).1]
  simp [PyData.eqv, eqv_ints]
theorem neD_of_eqD {d e : D} {b : Bool} (h : eqD d e = some (.bool b)) : neD d e = some (.bool (!b)) := by
  unfold eqD at h
  unfold neD
  split at h
  · rename_i hs
    cases h
    rw [if_pos hs]
  · cases h
/-! ### equal data -/
mutual
theorem eqv_rfl : ∀ d : D, d.canLay0 = true → PyData.eqv d d = true
  | .none, _ => rfl
  | .bool b, _ => by simp [PyData.eqv]
  | .int i, _ => by simp [PyData.eqv]
  | .str s, _ => by simp [PyData.eqv]
  | .list xs, h => by
    rw [PyData.canLay0] at h
    rw [PyData.eqv]
    exact eqvAll_rfl xs h
  | .tuple xs, h => by
    rw [PyData.canLay0] at h
    rw [PyData.eqv]
    exact eqvAll_rfl xs h
  | .dict _, h => by simp [PyData.canLay0] at h
theorem eqvAll_rfl : ∀ ds : List D, PyData.canLayAll0 ds = true → PyData.eqvAll ds ds = true
  | [], _ => rfl
  | d :: ds, h => by
    rw [PyData.canLayAll0, Bool.and_eq_true] at h
    rw [PyData.eqvAll, eqv_rfl d h.1, eqvAll_rfl ds h.2]
    rfl
end
theorem eqD_self {d : D} (h : SeqAt.shaped d = true) : eqD d d = some (.bool true) := by
  unfold eqD
  rw [h, eqv_rfl d (SeqAt.canLay_of_shaped h)]
  rfl
theorem neD_self {d : D} (h : SeqAt.shaped d = true) : neD d d = some (.bool false) := neD_of_eqD (eqD_self h)
/-! ### made of parts -/
theorem lay_all (n : Nat) : ∀ ds : List D, (∀ d ∈ ds, d.canLay0 = true ∧ d.depth ≤ n) → PyData.canLayAll0 ds = true ∧ PyData.depthAll ds ≤ n
  | [], _ => ⟨rfl, by simp [PyData.depthAll]⟩
  | d :: ds, h => by
    obtain ⟨h1, h2⟩ := lay_all n ds fun e he => h e (List.mem_cons_of_mem _ he)
    obtain ⟨h3, h4⟩ := h d List.mem_cons_self
    simp only [PyData.canLayAll0, PyData.depthAll, h1, h3]
    exact ⟨rfl, by omega⟩
theorem lay_tuple {n : Nat} {ds : List D} (h : ∀ d ∈ ds, d.canLay0 = true ∧ d.depth ≤ n) : (PyData.tuple ds).canLay0 = true ∧ (PyData.tuple ds).depth ≤ n + 1 := by
  obtain ⟨h1, h2⟩ := lay_all n ds h
  rw [PyData.canLay0, PyData.depth]
  exact ⟨h1, by omega⟩
theorem lay_list {n : Nat} {ds : List D} (h : ∀ d ∈ ds, d.canLay0 = true ∧ d.depth ≤ n) : (PyData.list ds).canLay0 = true ∧ (PyData.list ds).depth ≤ n + 1 := by
  obtain ⟨h1, h2⟩ := lay_all n ds h
  rw [PyData.canLay0, PyData.depth]
  exact ⟨h1, by omega⟩
theorem lay_int {i : Int} : (PyData.int i).canLay0 = true ∧ (PyData.int i).depth ≤ 0 := ⟨rfl, by simp [PyData.depth]⟩
theorem lay_str {i : Str} (h : (PyData.str i).canLay0 = true) : (PyData.str i).canLay0 = true ∧ (PyData.str i).depth ≤ 0 := ⟨h, by simp [PyData.depth]⟩
theorem lay_none : (PyData.none).canLay0 = true ∧ (PyData.none).depth ≤ 0 := ⟨rfl, by simp [PyData.depth]⟩
theorem shaped_lay {n : Nat} {d : D} (h : d.canLay0 = true ∧ d.depth ≤ n) (hn : n ≤ 64) : SeqAt.shaped d = true := shaped_of h.1 (by omega)
/-- a draw, the bound as a plain number -/
theorem draw_w0 {m : Int} {dr : Dr} {Q : D × Dr → Prop} (h0 : 0 < m) (h1 : m < 1180591620717411303424) (h : ∀ r dr', 0 ≤ r → r < m → Go (Q (.int r, dr'))) : WO0 (drawF [.dict [], .int m] dr) Q := draw_wo0 h0 (by omega) h
end Mi
/-! Mi, eleventh part: the same, in a form in which simp leaves alone what comes behind until its turn. -/
namespace Mi
open PySem PySem.Spec PyProof.Rows L2
/-- a Prop whose type names its parts, so that simp does not go into them -/
abbrev P1.{u} {α : Sort u} (_ : α) : Type := Prop
abbrev P2.{u, v} {α : Sort u} {β : Sort v} (_ : α) (_ : β) : Type := Prop
abbrev P5 (_ : SR) (_ : MS → Prop) (_ : D → Dr → Prop) (_ _ : MS → Prop) : Type := Prop
@[irreducible] def W (r : SR) (N : MS → Prop) (R : D → Dr → Prop) (Bk Ct : MS → Prop) : P5 r N R Bk Ct := W0 r N R Bk Ct
@[irreducible] def WM {α : Type} (o : Option (α × MS)) (P : α → MS → Prop) : P2 o P := WM0 o P
@[irreducible] def WO {α : Type} (o : Option α) (P : α → Prop) : P1 P := WO0 o P
def WS (μ : MS) (N : MS → Prop) : P1 N := N μ
@[simp] theorem WS_mk {l : List Sl} {dr : Dr} {N : MS → Prop} : @Eq Prop (WS ⟨l, dr⟩ N) (N ⟨l, dr⟩) := propext Iff.rfl
/-- a goal as a plain Prop -/
theorem un_go {p : Prop} (h : Go p) : p := h
section
variable {α β : Type} {N : MS → Prop} {R : D → Dr → Prop} {Bk Ct : MS → Prop} {μ : MS} {P : D → MS → Prop}
@[simp ↓] theorem W_nx : @Eq Prop (W (.nx μ) N R Bk Ct) (N μ) := by with_unfolding_all exact W0_nx
@[simp ↓] theorem W_rt {d : D} {dr : Dr} : @Eq Prop (W (.rt d dr) N R Bk Ct) (R d dr) := by with_unfolding_all exact W0_rt
@[simp ↓] theorem W_bk : @Eq Prop (W (.bk μ) N R Bk Ct) (Bk μ) := by with_unfolding_all exact W0_bk
@[simp ↓] theorem W_ct : @Eq Prop (W (.ct μ) N R Bk Ct) (Ct μ) := by with_unfolding_all exact W0_ct
@[simp ↓] theorem W_bad : @Eq Prop (W .bad N R Bk Ct) (False) := by with_unfolding_all exact W0_bad
@[simp ↓] theorem WM_some {a : α} {Q : α → MS → Prop} : @Eq Prop (WM (some (a, μ)) Q) (Q a μ) := by with_unfolding_all exact WM0_some
@[simp ↓] theorem WM_none {Q : α → MS → Prop} : @Eq Prop (WM none Q) (False) := by with_unfolding_all exact WM0_none
@[simp] theorem WO_some {a : α} {Q : α → Prop} : @Eq Prop (WO (some a) Q) (Q a) := by with_unfolding_all exact WO0_some
@[simp] theorem WO_none {Q : α → Prop} : @Eq Prop (WO none Q) (False) := by with_unfolding_all exact WO0_none
@[simp ↓] theorem WM_bind {γ : Type} {o : Option γ} {f : γ → Option (α × MS)} {Q : α → MS → Prop} : @Eq Prop (WM (o.bind f) Q) (WO o fun x => WM (f x) Q) := by with_unfolding_all exact WM0_bind
@[simp] theorem WO_bind {γ : Type} {o : Option γ} {f : γ → Option α} {Q : α → Prop} : @Eq Prop (WO (o.bind f) Q) (WO o fun x => WO (f x) Q) := by with_unfolding_all exact WO0_bind
theorem WM_WO {o : Option (α × MS)} {Q : α → MS → Prop} : WM o Q = WO o fun p => Q p.1 p.2 := by with_unfolding_all exact WM0_WO
theorem WO_ext {o : Option α} {Q Q' : α → Prop} (h : ∀ a, Q a = Q' a) : WO o Q = WO o Q' := by with_unfolding_all exact WO0_ext h
@[simp] theorem WO_ite {c : Prop} [Decidable c] {o p : Option α} {Q : α → Prop} : @Eq Prop (WO (if c then o else p) Q) (if c then WO o Q else WO p Q) := by with_unfolding_all exact WO0_ite
@[simp ↓] theorem WM_ite {c : Prop} [Decidable c] {o p : Option (α × MS)} {Q : α → MS → Prop} : @Eq Prop (WM (if c then o else p) Q) (if c then WM o Q else WM p Q) := by with_unfolding_all exact WM0_ite
@[simp ↓] theorem W_ite {c : Prop} [Decidable c] {o p : SR} : @Eq Prop (W (if c then o else p) N R Bk Ct) (if c then W o N R Bk Ct else W p N R Bk Ct) := by with_unfolding_all exact W0_ite
theorem W_mono {r : SR} {N' : MS → Prop} {R' : D → Dr → Prop} {Bk' Ct' : MS → Prop} (h : W r N R Bk Ct) (h1 : ∀ μ, N μ → N' μ) (h2 : ∀ d dr, R d dr → R' d dr) (h3 : ∀ μ, Bk μ → Bk' μ) (h4 : ∀ μ, Ct μ → Ct' μ) : W r N' R' Bk' Ct' := by with_unfolding_all exact W0_mono h h1 h2 h3 h4
theorem WM_mono {o : Option (α × MS)} {Q Q' : α → MS → Prop} (h : WM o Q) (h1 : ∀ a μ, Q a μ → Q' a μ) : WM o Q' := by with_unfolding_all exact WM0_mono h h1
theorem WO_mono {o : Option α} {Q Q' : α → Prop} (h : WO o Q) (h1 : ∀ a, Q a → Q' a) : WO o Q' := by with_unfolding_all exact WO0_mono h h1
theorem WO_eq {o : Option α} {a : α} {Q : α → Prop} (h : o = some a) (q : Q a) : WO o Q := by with_unfolding_all exact WO0_eq h q
@[simp ↓] theorem w_seq {s t : MT} : @Eq Prop (W (sSeq s t μ) N R Bk Ct) (W (s μ) (fun μ' => W (t μ') N R Bk Ct) R Bk Ct) := by with_unfolding_all exact w0_seq
@[simp ↓] theorem w_nil : @Eq Prop (W (sNil μ) N R Bk Ct) (N μ) := by with_unfolding_all exact w0_nil
@[simp ↓] theorem w_if {m : M Bool} {s t : MT} : @Eq Prop (W (sIf m s t μ) N R Bk Ct) (WM (m μ) fun b μ' => if b = true then W (s μ') N R Bk Ct else W (t μ') N R Bk Ct) := by with_unfolding_all exact w0_if
@[simp ↓] theorem w_ret {m : M D} : @Eq Prop (W (sRet m μ) N R Bk Ct) (WM (m μ) fun d μ' => R d μ'.dr) := by with_unfolding_all exact w0_ret
@[simp ↓] theorem w_retN : @Eq Prop (W (sRetN μ) N R Bk Ct) (R .none μ.dr) := by with_unfolding_all exact w0_retN
@[simp ↓] theorem w_drop {m : M D} : @Eq Prop (W (sDrop m μ) N R Bk Ct) (WM (m μ) fun _ μ' => N μ') := by with_unfolding_all exact w0_drop
@[simp ↓] theorem w_set {i : Nat} {m : M D} : @Eq Prop (W (sSet i m μ) N R Bk Ct) (WM (m μ) fun d μ' => WS (setS μ' i (.val d)) N) := by with_unfolding_all exact w0_set
@[simp ↓] theorem w_new {i : Nat} {m : M (List D)} : @Eq Prop (W (sNew i m μ) N R Bk Ct) (WM (m μ) fun d μ' => WS (setS μ' i (.own d)) N) := by with_unfolding_all exact w0_new
@[simp ↓] theorem w_break : @Eq Prop (W (sBreak μ) N R Bk Ct) (Bk μ) := by with_unfolding_all exact w0_break
@[simp ↓] theorem w_cont : @Eq Prop (W (sCont μ) N R Bk Ct) (Ct μ) := by with_unfolding_all exact w0_cont
@[simp ↓] theorem w_aug {g : D → D → Option D} {i : Nat} {m : M D} : @Eq Prop (W (sAug g i m μ) N R Bk Ct) (WO (valAt μ i) fun x => WM (m μ) fun y μ' => WO (g x y) fun z => WS (setS μ' i (.val z)) N) := by with_unfolding_all exact w0_aug
@[simp ↓] theorem w_unp {g : D → MS → Option MS} {m : M D} : @Eq Prop (W (sUnp g m μ) N R Bk Ct) (WM (m μ) fun d μ' => WO (g d μ') N) := by with_unfolding_all exact w0_unp
@[simp ↓] theorem w_par {is : List Nat} {m : M (List Sv)} : @Eq Prop (W (sPar is m μ) N R Bk Ct) (WM (m μ) fun ss μ' => WO (putA is ss μ') N) := by with_unfolding_all exact w0_par
@[simp ↓] theorem w_ix {i : Nat} {mi me : M D} : @Eq Prop (W (sIx i mi me μ) N R Bk Ct) (WM (me μ) fun d μ1 => WO (owned μ1 i) fun _ => WM (mi μ1) fun k μ2 => match k with
    | .int k => WO (owned μ2 i) fun ds => WO (ixN ds.length k) fun j => WS (setS μ2 i (.own (ds.set j d))) N
    | _ => False) := by with_unfolding_all exact w0_ix
theorem w_for {γ δ : Type} {m : M (List D)} {g : D → MS → Option MS} {s : MT} (emb : δ → D) (A : γ → MS → Prop) (f : γ → δ → γ) {xs : List δ} {μ1 : MS} (hm : m μ = some (xs.map emb, μ1)) {a : γ} (h0 : A a μ1)
    (hs : ∀ (pre : List δ) (x : δ) (post : List δ) (μ : MS), xs = pre ++ x :: post → A (pre.foldl f a) μ → WO (g (emb x) μ) fun μ2 => W (s μ2) (A ((pre ++ [x]).foldl f a)) R N (A ((pre ++ [x]).foldl f a)))
    (hd : ∀ μ, A (xs.foldl f a) μ → N μ) : W (sFor m g s μ) N R Bk Ct := by with_unfolding_all exact w0_for emb A f hm h0 hs hd
theorem w_forI {δ : Type} {m : M (List D)} {g : D → MS → Option MS} {s : MT} (emb : δ → D) (A : Nat → MS → Prop) {xs : List δ} {μ1 : MS} (hm : m μ = some (xs.map emb, μ1)) (h0 : A 0 μ1)
    (hs : ∀ (i : Nat) (x : δ) (μ : MS), xs[i]? = some x → A i μ → WO (g (emb x) μ) fun μ2 => W (s μ2) (A (i + 1)) R N (A (i + 1)))
    (hd : ∀ μ, A xs.length μ → N μ) : W (sFor m g s μ) N R Bk Ct := by with_unfolding_all exact w0_forI emb A hm h0 hs hd
theorem w_forW {γ δ : Type} {m : M (List D)} {g : D → MS → Option MS} {s : MT} (emb : δ → D) (A : γ → MS → Prop) (f : γ → δ → γ) (xs : List δ) (a : γ) (hm : Go (WM (m μ) fun ds μ1 => ds = xs.map emb ∧ A a μ1))
    (hs : ∀ (pre : List δ) (x : δ) (post : List δ) (μ : MS), xs = pre ++ x :: post → A (pre.foldl f a) μ → Go (WO (g (emb x) μ) fun μ2 => W (s μ2) (A (f (pre.foldl f a) x)) R N (A (f (pre.foldl f a) x))))
    (hd : ∀ μ, A (xs.foldl f a) μ → Go (N μ)) : W (sFor m g s μ) N R Bk Ct := by with_unfolding_all exact w0_forW emb A f xs a hm hs hd
theorem w_forN {δ : Type} {m : M (List D)} {g : D → MS → Option MS} {s : MT} (emb : δ → D) (A : Nat → MS → Prop) (xs : List δ) (hm : Go (WM (m μ) fun ds μ1 => ds = xs.map emb ∧ A 0 μ1))
    (hs : ∀ (i : Nat) (x : δ) (μ : MS), xs[i]? = some x → A i μ → Go (WO (g (emb x) μ) fun μ2 => W (s μ2) (A (i + 1)) R N (A (i + 1))))
    (hd : ∀ μ, A xs.length μ → Go (N μ)) : W (sFor m g s μ) N R Bk Ct := by with_unfolding_all exact w0_forN emb A xs hm hs hd
theorem w_while {m : M Bool} {s : MT} (A : Nat → MS → Prop) {n : Nat} (hn : n < fuel) (h0 : A n μ)
    (hs : ∀ n μ, A n μ → Go (WM (m μ) fun b μ1 => if b = true then W (s μ1) (fun μ2 => ∃ k, k < n ∧ A k μ2) R N (fun μ2 => ∃ k, k < n ∧ A k μ2) else N μ1)) : W (sWhile m s μ) N R Bk Ct := by with_unfolding_all exact w0_while A hn h0 hs
@[simp ↓] theorem wm_c {d : D} : @Eq Prop (WM (mC d μ) P) (P d μ) := by with_unfolding_all exact wm0_c
@[simp ↓] theorem wm_oVal {m : M D} {Q : O → MS → Prop} : @Eq Prop (WM (oVal m μ) Q) (WM (m μ) fun d μ' => Q (.v d) μ') := by with_unfolding_all exact wm0_oVal
@[simp ↓] theorem wm_oName {i : Nat} {Q : O → MS → Prop} : @Eq Prop (WM (oName i μ) Q) (WO (look (.s i) μ) fun _ => Q (.s i) μ) := by with_unfolding_all exact wm0_oName
@[simp ↓] theorem wm_m2 {g : D → D → Option D} {ma mb : M O} : @Eq Prop (WM (m2 g ma mb μ) P) (WM (ma μ) fun o1 μ1 => WM (mb μ1) fun o2 μ2 => WO (look o1 μ2) fun d => WO (look o2 μ2) fun e => WO (g d e) fun z => P z μ2) := by with_unfolding_all exact wm0_m2
@[simp ↓] theorem wm_m2F {g : D → D → Option (List D)} {ma mb : M O} {Q : List D → MS → Prop} : @Eq Prop (WM (m2F g ma mb μ) Q) (WM (ma μ) fun o1 μ1 => WM (mb μ1) fun o2 μ2 => WO (look o1 μ2) fun d => WO (look o2 μ2) fun e => WO (g d e) fun z => Q z μ2) := by with_unfolding_all exact wm0_m2F
@[simp ↓] theorem wm_m1 {g : D → Option D} {ma : M O} : @Eq Prop (WM (m1 g ma μ) P) (WM (ma μ) fun o1 μ1 => WO (look o1 μ1) fun d => WO (g d) fun z => P z μ1) := by with_unfolding_all exact wm0_m1
@[simp ↓] theorem wm_mB {m : M D} {Q : Bool → MS → Prop} : @Eq Prop (WM (mB m μ) Q) (WM (m μ) fun d μ1 => match d with
    | .bool b => Q b μ1
    | _ => False) := by with_unfolding_all exact wm0_mB
@[simp ↓] theorem wm_chain {g g' : D → D → Option D} {ma mb mc : M O} : @Eq Prop (WM (mChain g g' ma mb mc μ) P) (WM (ma μ) fun o1 μ1 => WM (mb μ1) fun o2 μ2 => WO (look o1 μ2) fun d => WO (look o2 μ2) fun e => WO (g d e) fun z => match z with
    | .bool true => WM (mc μ2) fun o3 μ3 => WO (look o2 μ3) fun e' => WO (look o3 μ3) fun f => WO (g' e' f) fun z' => P z' μ3
    | .bool false => P (.bool false) μ2
    | _ => False) := by with_unfolding_all exact wm0_chain
@[simp ↓] theorem wm_aNil {Q : List O → MS → Prop} : @Eq Prop (WM (aNil μ) Q) (Q [] μ) := by with_unfolding_all exact wm0_aNil
@[simp ↓] theorem wm_aCons {m : M O} {n : M (List O)} {Q : List O → MS → Prop} : @Eq Prop (WM (aCons m n μ) Q) (WM (m μ) fun o μ1 => WM (n μ1) fun os μ2 => Q (o :: os) μ2) := by with_unfolding_all exact wm0_aCons
@[simp ↓] theorem wm_call {α : Type} {g : List D → Option α} {ma : M (List O)} {Q : α → MS → Prop} : @Eq Prop (WM (mCall g ma μ) Q) (WM (ma μ) fun os μ1 => WO (looks os μ1) fun ds => WO (g ds) fun z => Q z μ1) := by with_unfolding_all exact wm0_call
@[simp ↓] theorem wm_callU {f : FM} {ma : M (List O)} : @Eq Prop (WM (mCallU f ma μ) P) (WM (ma μ) fun os μ1 => WO (looks os μ1) fun ds => WO (f ds μ1.dr) fun z => WS (if flat z.1 = true then { μ1 with dr := z.2 } else { frzA os μ1 with dr := z.2 }) (P z.1)) := by with_unfolding_all exact wm0_callU
@[simp ↓] theorem wm_truth {ma : M O} {Q : Bool → MS → Prop} : @Eq Prop (WM (mTruth ma μ) Q) (WM (ma μ) fun o μ1 => WO (look o μ1) fun d => WO (truth d) fun b => Q b μ1) := by with_unfolding_all exact wm0_truth
@[simp ↓] theorem wm_and {m n : M Bool} {Q : Bool → MS → Prop} : @Eq Prop (WM (bAnd m n μ) Q) (WM (m μ) fun b μ1 => if b = true then WM (n μ1) Q else Q false μ1) := by with_unfolding_all exact wm0_and
@[simp ↓] theorem wm_or {m n : M Bool} {Q : Bool → MS → Prop} : @Eq Prop (WM (bOr m n μ) Q) (WM (m μ) fun b μ1 => if b = true then Q true μ1 else WM (n μ1) Q) := by with_unfolding_all exact wm0_or
@[simp ↓] theorem wm_not {m : M Bool} {Q : Bool → MS → Prop} : @Eq Prop (WM (bNot m μ) Q) (WM (m μ) fun b μ1 => Q (!b) μ1) := by with_unfolding_all exact wm0_not
@[simp ↓] theorem wm_ife {m : M Bool} {n k : M D} : @Eq Prop (WM (eIf m n k μ) P) (WM (m μ) fun b μ1 => if b = true then WM (n μ1) P else WM (k μ1) P) := by with_unfolding_all exact wm0_ife
@[simp ↓] theorem wm_eand {m n : M D} : @Eq Prop (WM (eAnd m n μ) P) (WM (m μ) fun d μ1 => WO (truth d) fun b => if b = true then WM (n μ1) P else P d μ1) := by with_unfolding_all exact wm0_eand
@[simp ↓] theorem wm_eor {m n : M D} : @Eq Prop (WM (eOr m n μ) P) (WM (m μ) fun d μ1 => WO (truth d) fun b => if b = true then P d μ1 else WM (n μ1) P) := by with_unfolding_all exact wm0_eor
@[simp ↓] theorem wm_enot {ma : M O} : @Eq Prop (WM (eNot ma μ) P) (WM (ma μ) fun o μ1 => WO (look o μ1) fun d => WO (truth d) fun b => P (.bool (!b)) μ1) := by with_unfolding_all exact wm0_enot
@[simp ↓] theorem wm_tup {m : M (List D)} : @Eq Prop (WM (mTup m μ) P) (WM (m μ) fun ds μ1 => if ds.length ≤ 16777216 then P (.tuple ds) μ1 else False) := by with_unfolding_all exact wm0_tup
@[simp ↓] theorem wm_lst {m : M (List D)} {Q : List D → MS → Prop} : @Eq Prop (WM (mLst m μ) Q) (WM (m μ) fun ds μ1 => if ds.length ≤ 16777216 then Q ds μ1 else False) := by with_unfolding_all exact wm0_lst
@[simp ↓] theorem wm_ds_nil {Q : List D → MS → Prop} : @Eq Prop (WM (mDs [] μ) Q) (Q [] μ) := by with_unfolding_all exact wm0_ds_nil
@[simp ↓] theorem wm_ds_cons {m : M D} {ms : List (M D)} {Q : List D → MS → Prop} : @Eq Prop (WM (mDs (m :: ms) μ) Q) (WM (m μ) fun d μ1 => WM (mDs ms μ1) fun ds μ2 => Q (d :: ds) μ2) := by with_unfolding_all exact wm0_ds_cons
@[simp ↓] theorem wm_new {m : M (List D)} : @Eq Prop (WM (eNew m μ) P) (WM (m μ) fun ds μ1 => P (.list ds) μ1) := by with_unfolding_all exact wm0_new
@[simp ↓] theorem wm_seq {m : M D} {Q : List D → MS → Prop} : @Eq Prop (WM (mSeq m μ) Q) (WM (m μ) fun d μ1 => WO (items d) fun ds => Q ds μ1) := by with_unfolding_all exact wm0_seq
@[simp ↓] theorem wm_xNil {Q : List Sv → MS → Prop} : @Eq Prop (WM (xNil μ) Q) (Q [] μ) := by with_unfolding_all exact wm0_xNil
@[simp ↓] theorem wm_xVal {m : M D} {n : M (List Sv)} {Q : List Sv → MS → Prop} : @Eq Prop (WM (xVal m n μ) Q) (WM (m μ) fun d μ1 => WM (n μ1) fun ss μ2 => Q (.val d :: ss) μ2) := by with_unfolding_all exact wm0_xVal
@[simp ↓] theorem wm_xNew {m : M (List D)} {n : M (List Sv)} {Q : List Sv → MS → Prop} : @Eq Prop (WM (xNew m n μ) Q) (WM (m μ) fun d μ1 => WM (n μ1) fun ss μ2 => Q (.own d :: ss) μ2) := by with_unfolding_all exact wm0_xNew
@[simp ↓] theorem wm_pNone {Q : Option Int → MS → Prop} : @Eq Prop (WM (pNone μ) Q) (Q none μ) := by with_unfolding_all exact wm0_pNone
@[simp ↓] theorem wm_pSome {m : M D} {Q : Option Int → MS → Prop} : @Eq Prop (WM (pSome m μ) Q) (WM (m μ) fun d μ1 => match d with
    | .int i => Q (some i) μ1
    | _ => False) := by with_unfolding_all exact wm0_pSome
@[simp ↓] theorem wm_sl {α : Type} {g : D → Option Int → Option Int → Option α} {ma : M O} {ml mh : M (Option Int)} {Q : α → MS → Prop} : @Eq Prop (WM (mSl g ma ml mh μ) Q) (WM (ma μ) fun o μ1 => WM (ml μ1) fun l μ2 => WM (mh μ2) fun h μ3 => WO (look o μ3) fun d => WO (g d l h) fun z => Q z μ3) := by with_unfolding_all exact wm0_sl
@[simp ↓] theorem wm_app {i : Nat} {m : M D} : @Eq Prop (WM (mApp i m μ) P) (WO (owned μ i) fun _ => WM (m μ) fun d μ1 => WO (owned μ1 i) fun ds => if ds.length < 16777216 then WS (setS μ1 i (.own (ds ++ [d]))) (P .none) else False) := by with_unfolding_all exact wm0_app
@[simp ↓] theorem wm_ext {i : Nat} {m : M O} : @Eq Prop (WM (mExt i m μ) P) (WO (owned μ i) fun _ => WM (m μ) fun o μ1 => WO (owned μ1 i) fun ds => WO (look o μ1) fun e => match e with
    | .list es => if ds.length + es.length ≤ 16777216 then WS (setS μ1 i (.own (ds ++ es))) (P .none) else False
    | _ => False) := by with_unfolding_all exact wm0_ext
@[simp ↓] theorem wm_pop {i : Nat} : @Eq Prop (WM (mPop i μ) P) (WO (owned μ i) fun ds => WO (ds[ds.length - 1]?) fun d => WS (setS μ i (.own ds.dropLast)) (P d)) := by with_unfolding_all exact wm0_pop
@[simp ↓] theorem wm_popAt {i : Nat} {m : M D} : @Eq Prop (WM (mPopAt i m μ) P) (WO (owned μ i) fun _ => WM (m μ) fun k μ1 => WO (owned μ1 i) fun ds => match k with
    | .int j => if -(2 ^ 63) ≤ j ∧ j < 2 ^ 63 then WO (seqIndex? j ds.length) fun k => WO (ds[k]?) fun d => WS (setS μ1 i (.own (ds.eraseIdx k))) (P d) else False
    | _ => False) := by with_unfolding_all exact wm0_popAt
@[simp ↓] theorem wm_var {i : Nat} : @Eq Prop (WM (mVar i μ) P) (WO ((μ.sl[i]?).bind slDt) fun d => WS (setS μ i (.val d)) (P d)) := by with_unfolding_all exact wm0_var
theorem fnM_eq {n : Nat} {b : MT} {ds : List D} {dr : Dr} {d : D} {dr' : Dr} (h : Go (W (b ⟨ds.map Sl.val ++ List.replicate (n - ds.length) Sl.un, dr⟩) (fun μ => d = .none ∧ μ.dr = dr') (fun e er => e = d ∧ er = dr') (fun _ => False) (fun _ => False))) : fnM n b ds dr = some (d, dr') := by with_unfolding_all exact fnM_eq0 h
theorem fnM_wo {n : Nat} {b : MT} {ds : List D} {dr : Dr} {Q : D × Dr → Prop} (h : Go (W (b ⟨ds.map Sl.val ++ List.replicate (n - ds.length) Sl.un, dr⟩) (fun μ => Q (.none, μ.dr)) (fun e er => Q (e, er)) (fun _ => False) (fun _ => False))) : WO (fnM n b ds dr) Q := by with_unfolding_all exact fnM_wo0 h
theorem draw_wo {m : Int} {dr : Dr} {Q : D × Dr → Prop} (h0 : 0 < m) (h1 : m < 2 ^ 8000) (h : ∀ r dr', 0 ≤ r → r < m → Go (Q (.int r, dr'))) : WO (drawF [.dict [], .int m] dr) Q := by with_unfolding_all exact draw_wo0 h0 h1 h
theorem wm_lc_forN {δ : Type} {mi : M (List D)} {g : D → MS → Option MS} {m : M D} {vs : List Nat} {μ : MS} {Q : List D → MS → Prop} (emb : δ → D) (A : Nat → List D → MS → Prop) (xs : List δ) (hl : xs.length ≤ 16777216)
    (hm : Go (WM (mi μ) fun ds μ1 => ds = xs.map emb ∧ A 0 [] (wipeS μ1 vs) ∧ ∀ acc μ2, A xs.length acc μ2 → Go (Q acc (restS μ1 vs μ2))))
    (hs : ∀ (i : Nat) (x : δ) (acc : List D) (μ : MS), xs[i]? = some x → acc.length = i → A i acc μ → Go (WO (g (emb x) μ) fun μ2 => WM (m μ2) fun d μ3 => A (i + 1) (acc ++ [d]) (wipeS μ3 vs))) : WM (mLc mi g tYesM m vs μ) Q := by with_unfolding_all exact wm0_lc_forN emb A xs hl hm hs
theorem of_W {r : SR} (h : W r (fun _ => False) (fun d _ => d = .bool true) (fun _ => False) (fun _ => False)) : ∃ dr, r = .rt (.bool true) dr := by with_unfolding_all exact of_W00 h
theorem draw_w {m : Int} {dr : Dr} {Q : D × Dr → Prop} (h0 : 0 < m) (h1 : m < 1180591620717411303424) (h : ∀ r dr', 0 ≤ r → r < m → Go (Q (.int r, dr'))) : WO (drawF [.dict [], .int m] dr) Q := by with_unfolding_all exact draw_w0 h0 h1 h
end
end Mi
/-! Mi, twelfth part: comprehensions and calls in the sealed form. -/
namespace Mi
open PySem PySem.Spec PyProof.Rows L2
@[simp] theorem restS_nil {μ0 μ : MS} : restS μ0 [] μ = μ := rfl
def keepS (s t : Sl) : Sl := match s with
  | .val d => .val d
  | _ => t
@[simp] theorem keepS_val {d : D} {t : Sl} : keepS (.val d) t = .val d := rfl
@[simp] theorem keepS_un {t : Sl} : keepS .un t = t := rfl
@[simp] theorem keepS_own {ds : List D} {t : Sl} : keepS (.own ds) t = t := rfl
@[simp] theorem keepS_keepS {s t : Sl} : keepS (keepS s t) t = keepS s t := by cases s <;> cases t <;> rfl
@[simp] theorem restS_cons {l l' : List Sl} {dr dr' : Dr} {v : Nat} {vs : List Nat} : restS ⟨l, dr⟩ (v :: vs) ⟨l', dr'⟩ = match l[v]?, l'[v]? with
    | some s, some t => restS ⟨l, dr⟩ vs ⟨l'.set v (keepS s t), dr'⟩
    | _, _ => restS ⟨l, dr⟩ vs ⟨l', dr'⟩ := by
  conv => lhs; unfold restS
  cases h : l[v]? with
  | none => simp [h]
  | some s =>
    cases h2 : l'[v]? with
    | none =>
      have : l'.length ≤ v := List.getElem?_eq_none_iff.mp h2
      cases s <;> simp [h, List.set_eq_of_length_le this]
    | some t =>
      have e : l'.set v t = l' := by
        apply List.ext_getElem?
        intro j
        by_cases hj : v = j
        · subst hj
          rw [List.getElem?_set_self (List.getElem?_eq_some_iff.mp h2).1, h2]
        · rw [List.getElem?_set_ne hj]
      cases s <;> simp [h, keepS, e]
@[simp] theorem wipeS_nil {μ : MS} : wipeS μ [] = μ := rfl
@[simp] theorem wipeS_cns {μ : MS} {v : Nat} {vs : List Nat} : wipeS μ (v :: vs) = setS (wipeS μ vs) v .un := rfl
theorem wm_lc3 {δ : Type} {mi : M (List D)} {g : D → MS → Option MS} {m : M D} {vs : List Nat} {μ : MS} {Q : List D → MS → Prop} (emb : δ → D) (μ1 : MS) (A : Nat → List D → MS → Prop) (xs : List δ) (hl : xs.length ≤ 16777216)
    (hm : Go (WM (mi μ) fun ds μ' => ds = xs.map emb ∧ μ' = μ1)) (h0 : Go (WS (wipeS μ1 vs) fun μ2 => A 0 [] μ2))
    (hs : ∀ (i : Nat) (x : δ) (acc : List D) (μ : MS), xs[i]? = some x → acc.length = i → A i acc μ → Go (WO (g (emb x) μ) fun μ2 => WM (m μ2) fun d μ3 => WS (wipeS μ3 vs) fun μ4 => A (i + 1) (acc ++ [d]) μ4))
    (hd : ∀ acc μ2, A xs.length acc μ2 → Go (WS (restS μ1 vs μ2) fun μ3 => Q acc μ3)) : WM (mLc mi g tYesM m vs μ) Q := by
  refine wm_lc_forN emb A xs hl (WM_mono hm fun ds μ' h => ?_) hs
  obtain ⟨rfl, rfl⟩ := h
  exact ⟨rfl, h0, hd⟩
/-- the whole comprehension told at once: every element by its item, the state as it was -/
theorem wm_lcmap {δ : Type} {mi : M (List D)} {g : D → MS → Option MS} {m : M D} {vs : List Nat} {μ : MS} {Q : List D → MS → Prop} (emb : δ → D) (f : δ → D) (μ1 : MS) (xs : List δ) (hl : xs.length ≤ 16777216)
    (hm : Go (WM (mi μ) fun ds μ' => ds = xs.map emb ∧ μ' = μ1))
    (hs : ∀ x ∈ xs, Go (WS (wipeS μ1 vs) fun μ2 => WO (g (emb x) μ2) fun μ2 => WM (m μ2) fun d μ3 => d = f x ∧ wipeS μ3 vs = wipeS μ1 vs))
    (hd : Go (WS (restS μ1 vs (wipeS μ1 vs)) fun μ3 => Q (xs.map f) μ3)) : WM (mLc mi g tYesM m vs μ) Q := by
  refine wm_lc3 emb μ1 (fun i acc μ2 => acc = (xs.take i).map f ∧ μ2 = wipeS μ1 vs) xs hl hm ⟨rfl, rfl⟩ ?_ ?_
  · rintro i x acc μ hx ha ⟨rfl, rfl⟩
    have hx' : x ∈ xs := List.mem_of_getElem? hx
    refine WO_mono (hs x hx') fun μ2 h => ?_
    refine WM_mono h fun d μ3 h => ?_
    refine ⟨?_, h.2⟩
    rw [List.take_add_one, hx, List.map_append, h.1]
    rfl
  · rintro acc μ2 ⟨rfl, rfl⟩
    rw [List.take_length]
    exact hd
theorem range_get {n i j : Nat} (h : (List.range n)[i]? = some j) : i = j ∧ i < n := by
  rw [List.getElem?_eq_some_iff] at h
  obtain ⟨h1, h2⟩ := h
  rw [List.getElem_range] at h2
  rw [List.length_range] at h1
  exact ⟨h2, h1⟩
theorem ix2_0 {a b : D} : ixD (.tuple [a, b]) (.int 0) = some a := rfl
theorem ix2_1 {a b : D} : ixD (.tuple [a, b]) (.int 1) = some b := rfl
/-- a comprehension over a drawn number of turns -/
theorem wm_lcD {mi : M (List D)} {m : M D} {v : Nat} {μ : MS} {Q : List D → MS → Prop} (B : Nat) (hB : B ≤ 1000000) (l l' : List Sl) (f : Int → Prop)
    (hm : Go (WM (mi μ) fun ds μ' => ∃ n : Nat, n ≤ B ∧ ds = (List.range n).map (fun i : Nat => .int i) ∧ μ'.sl = l))
    (hw : ∀ dr, wipeS ⟨l, dr⟩ [v] = ⟨l', dr⟩)
    (hs : ∀ (i : Nat) dr, i < B → Go (WO (gN v (.int (i : Int)) ⟨l', dr⟩) fun μ2 => WM (m μ2) fun d μ3 => ∃ k, d = .int k ∧ f k ∧ (wipeS μ3 [v]).sl = l'))
    (hd : ∀ row : List Int, row.length ≤ B → (∀ k ∈ row, f k) → ∀ dr dr', Go (WS (restS ⟨l, dr⟩ [v] ⟨l', dr'⟩) fun μ3 => Q (row.map .int) μ3)) : WM (mLc mi (gN v) tYesM m [v] μ) Q := by
  cases h : mi μ with
  | none => rw [h] at hm; simp at hm
  | some p =>
    obtain ⟨ds, μ1⟩ := p
    rw [h] at hm
    simp only [go_eq, WM_some] at hm
    obtain ⟨n, hn, rfl, rfl⟩ := hm
    obtain ⟨l, dr⟩ := μ1
    refine wm_lc3 (fun i : Nat => .int i) ⟨l, dr⟩ (fun i acc μ2 => ∃ row : List Int, acc = row.map .int ∧ row.length = i ∧ (∀ k ∈ row, f k) ∧ μ2.sl = l') (List.range n) (by simp; omega) ?_ ?_ ?_ ?_
    · rw [h]
      simp
    · rw [hw dr]
      exact ⟨[], rfl, rfl, (fun _ h => by cases h), rfl⟩
    · rintro i x acc ⟨l2, dr2⟩ hx ha ⟨row, rfl, rfl, hf, rfl⟩
      obtain ⟨rfl, hi⟩ := range_get hx
      refine WO_mono (hs row.length dr2 (by omega)) fun μ2 h => WM_mono h fun d μ3 h => ?_
      obtain ⟨k, hd, hk, e⟩ := h
      refine ⟨row ++ [k], by rw [List.map_append, hd]; rfl, by simp, fun j hj => ?_, e⟩
      rw [List.mem_append, List.mem_singleton] at hj
      rcases hj with hj | rfl
      · exact hf j hj
      · exact hk
    · rintro acc ⟨l2, dr2⟩ ⟨row, rfl, hl, hf, rfl⟩
      exact hd row (by rw [hl, List.length_range]; exact hn) hf dr dr2
/-- a comprehension over a known number of turns -/
theorem wm_lcX {mi : M (List D)} {m : M D} {v : Nat} {μ : MS} {Q : List D → MS → Prop} (n : Nat) (hB : n ≤ 1000000) (l l' : List Sl) (f : Int → Prop)
    (hm : Go (WM (mi μ) fun ds μ' => ds = (List.range n).map (fun i : Nat => .int i) ∧ μ'.sl = l))
    (hw : ∀ dr, wipeS ⟨l, dr⟩ [v] = ⟨l', dr⟩)
    (hs : ∀ (i : Nat) dr, i < n → Go (WO (gN v (.int (i : Int)) ⟨l', dr⟩) fun μ2 => WM (m μ2) fun d μ3 => ∃ k, d = .int k ∧ f k ∧ (wipeS μ3 [v]).sl = l'))
    (hd : ∀ row : List Int, row.length = n → (∀ k ∈ row, f k) → ∀ dr dr', Go (WS (restS ⟨l, dr⟩ [v] ⟨l', dr'⟩) fun μ3 => Q (row.map .int) μ3)) : WM (mLc mi (gN v) tYesM m [v] μ) Q := by
  cases h : mi μ with
  | none => rw [h] at hm; simp at hm
  | some p =>
    obtain ⟨ds, μ1⟩ := p
    rw [h] at hm
    simp only [go_eq, WM_some] at hm
    obtain ⟨rfl, rfl⟩ := hm
    obtain ⟨l, dr⟩ := μ1
    refine wm_lc3 (fun i : Nat => .int i) ⟨l, dr⟩ (fun i acc μ2 => ∃ row : List Int, acc = row.map .int ∧ row.length = i ∧ (∀ k ∈ row, f k) ∧ μ2.sl = l') (List.range n) (by simp; omega) ?_ ?_ ?_ ?_
    · rw [h]
      simp
    · rw [hw dr]
      exact ⟨[], rfl, rfl, (fun _ h => by cases h), rfl⟩
    · rintro i x acc ⟨l2, dr2⟩ hx ha ⟨row, rfl, rfl, hf, rfl⟩
      obtain ⟨rfl, hi⟩ := range_get hx
      refine WO_mono (hs row.length dr2 (by omega)) fun μ2 h => WM_mono h fun d μ3 h => ?_
      obtain ⟨k, hd, hk, e⟩ := h
      refine ⟨row ++ [k], by rw [List.map_append, hd]; rfl, by simp, fun j hj => ?_, e⟩
      rw [List.mem_append, List.mem_singleton] at hj
      rcases hj with hj | rfl
      · exact hf j hj
      · exact hk
    · rintro acc ⟨l2, dr2⟩ ⟨row, rfl, hl, hf, rfl⟩
      exact hd row (by rw [hl, List.length_range]) hf dr dr2
end Mi
/-! Mi, thirteenth part: slices, sums, the greatest and the least. -/
namespace Mi
open PySem PySem.Spec PyProof.Rows L2
theorem slA_from {ds : List D} {i : Int} (h : 0 ≤ i) : slA (.tuple ds) (some i) none = some (.tuple (ds.drop i.toNat)) := by
  have e : i = (i.toNat : Int) := by omega
  show some (PyData.tuple ((ds.drop (HT.sIx ds.length 0 (some i))).take (HT.sIx ds.length ds.length none - HT.sIx ds.length 0 (some i)))) = _
  rw [e, HT.sIx_nat, HT.sIx_none, Int.toNat_natCast]
  rcases Nat.le_total i.toNat ds.length with hl | hl
  · rw [Nat.min_eq_left hl, List.take_of_length_le (by rw [List.length_drop]; exact Nat.le_refl _)]
  · rw [Nat.min_eq_right hl, List.drop_of_length_le (Nat.le_refl _), List.drop_of_length_le hl, List.take_nil]
theorem slA_cut {ds : List D} {i j : Int} (h : 0 ≤ i) (hij : i ≤ j) (hj : j ≤ ds.length) : slA (.tuple ds) (some i) (some j) = some (.tuple ((ds.drop i.toNat).take (j - i).toNat)) := by
  obtain ⟨i, rfl⟩ := Int.eq_ofNat_of_zero_le h
  obtain ⟨j, rfl⟩ := Int.eq_ofNat_of_zero_le (Int.le_trans h hij)
  show some (PyData.tuple ((ds.drop (HT.sIx ds.length 0 (some (i : Int)))).take (HT.sIx ds.length ds.length (some (j : Int)) - HT.sIx ds.length 0 (some (i : Int))))) = _
  rw [HT.sIx_nat, HT.sIx_nat, Nat.min_eq_left (by omega), Nat.min_eq_left (by omega), Int.toNat_natCast, show ((j : Int) - (i : Int)).toNat = j - i by omega]
theorem slA_listFrom {ds : List D} {i : Int} (h : 0 ≤ i) : slA (.list ds) (some i) none = some (.list (ds.drop i.toNat)) := by
  have e : i = (i.toNat : Int) := by omega
  show some (PyData.list ((ds.drop (HT.sIx ds.length 0 (some i))).take (HT.sIx ds.length ds.length none - HT.sIx ds.length 0 (some i)))) = _
  rw [e, HT.sIx_nat, HT.sIx_none, Int.toNat_natCast]
  rcases Nat.le_total i.toNat ds.length with hl | hl
  · rw [Nat.min_eq_left hl, List.take_of_length_le (by rw [List.length_drop]; exact Nat.le_refl _)]
  · rw [Nat.min_eq_right hl, List.drop_of_length_le (Nat.le_refl _), List.drop_of_length_le hl, List.take_nil]
theorem sumD_tuple {ns : List Int} : sumD [.tuple (ns.map .int)] = some (.int ns.sum) := by simp [sumD, ints?_map]
theorem sumD_list {ns : List Int} : sumD [.list (ns.map .int)] = some (.int ns.sum) := by simp [sumD, ints?_map]
theorem maxD_list {ns : List Int} (h : 0 < ns.length) : maxD [.list (ns.map .int)] = some (.int (maxL ns)) := by simp [maxD, ints?_map, h]
theorem maxD_tuple {ns : List Int} (h : 0 < ns.length) : maxD [.tuple (ns.map .int)] = some (.int (maxL ns)) := by simp [maxD, ints?_map, h]
theorem minDL_list {ns : List Int} (h : 0 < ns.length) : minDL [.list (ns.map .int)] = some (.int (minL ns)) := by simp [minDL, ints?_map, h]
@[simp] theorem addD_tuple {a b : List D} : addD (.tuple a) (.tuple b) = if a.length + b.length ≤ 16777216 then some (.tuple (a ++ b)) else none := rfl
@[simp] theorem addD_list {a b : List D} : addD (.list a) (.list b) = if a.length + b.length ≤ 16777216 then some (.list (a ++ b)) else none := rfl
theorem isi_tuple {ds : List D} : isiN "tuple" (.tuple ds) = some (.bool true) := by rfl
theorem isi_i {i : Int} : isiN "int" (.int i) = some (.bool true) := by rfl
theorem isi_b {i : Int} : isiN "bool" (.int i) = some (.bool false) := by rfl
theorem wm_ex {α : Type} {o : Option (α × MS)} {P : α → MS → Prop} (h : WM o P) : ∃ a μ, o = some (a, μ) ∧ P a μ := by
  cases o with
  | none => simp at h
  | some p => obtain ⟨a, μ⟩ := p; simp at h; exact ⟨a, μ, rfl, h⟩
theorem wo_ex {α : Type} {o : Option α} {P : α → Prop} (h : WO o P) : ∃ a, o = some a ∧ P a := by
  cases o with
  | none => simp at h
  | some p => simp at h; exact ⟨p, rfl, h⟩
/-- a comprehension with a condition; the state may move -/
theorem wm_lcc {δ : Type} {mi : M (List D)} {g : D → MS → Option MS} {tc : M Bool} {m : M D} {vs : List Nat} {μ : MS} {Q : List D → MS → Prop} (emb : δ → D) (μ1 : MS) (A : Nat → List D → MS → Prop) (xs : List δ) (hl : xs.length ≤ 16777216)
    (hm : Go (WM (mi μ) fun ds μ' => ds = xs.map emb ∧ μ' = μ1)) (h0 : Go (WS (wipeS μ1 vs) fun μ2 => A 0 [] μ2))
    (hs : ∀ (i : Nat) (x : δ) (acc : List D) (μ : MS), xs[i]? = some x → acc.length ≤ i → A i acc μ → Go (WO (g (emb x) μ) fun μ2 => WM (tc μ2) fun b μ3 => if b = true then WM (m μ3) fun d μ4 => WS (wipeS μ4 vs) fun μ5 => A (i + 1) (acc ++ [d]) μ5 else WS (wipeS μ3 vs) fun μ5 => A (i + 1) acc μ5))
    (hd : ∀ acc μ2, A xs.length acc μ2 → Go (WS (restS μ1 vs μ2) fun μ3 => Q acc μ3)) : WM (mLc mi g tc m vs μ) Q := by
  obtain ⟨ds, μ', e, rfl, rfl⟩ := wm_ex hm
  unfold mLc
  rw [e]
  simp only [Option.bind_some]
  have key : ∀ (ys : List δ) (i : Nat) (acc : List D) (μ : MS), ys = xs.drop i → i + ys.length = xs.length → acc.length ≤ i → A i acc μ → ∃ acc' μ', loopC g tc m vs (ys.map emb) acc μ = some (acc', μ') ∧ A xs.length acc' μ' := by
    intro ys
    induction ys with
    | nil =>
      intro i acc μ e hi ha hA
      simp only [List.length_nil, Nat.add_zero] at hi
      exact ⟨acc, μ, rfl, hi ▸ hA⟩
    | cons y ys ih =>
      intro i acc μ e hi ha hA
      simp only [List.length_cons] at hi
      have hy : xs[i]? = some y := by
        have := List.getElem?_drop (xs := xs) (i := i) (j := 0)
        rw [← e] at this
        simpa using this.symm
      have hys : ys = xs.drop (i + 1) := by
        have := congrArg List.tail e
        simpa [List.tail_drop] using this
      have q := hs i y acc μ hy ha hA
      obtain ⟨μ2, e2, q⟩ := wo_ex q
      obtain ⟨b, μ3, e3, q⟩ := wm_ex q
      simp only [List.map_cons, loopC, e2, e3, Option.bind_some]
      cases b with
      | false =>
        simp only [Bool.false_eq_true, if_false] at q ⊢
        exact ih (i + 1) acc _ hys (by omega) (by omega) (by with_unfolding_all exact q)
      | true =>
        simp only [if_true] at q ⊢
        obtain ⟨d, μ4, e4, q⟩ := wm_ex q
        simp only [e4, Option.bind_some]
        rw [if_pos (show acc.length < lineN by show acc.length < 16777216; omega)]
        exact ih (i + 1) _ _ hys (by omega) (by rw [List.length_append, List.length_singleton]; omega) (by with_unfolding_all exact q)
  obtain ⟨acc', μ2, e5, hA'⟩ := key xs 0 [] _ rfl (by simp) (Nat.zero_le _) (by with_unfolding_all exact h0)
  rw [e5]
  simp only [Option.bind_some, WM_some]
  have := hd _ _ hA'
  with_unfolding_all exact this
/-- the whole told at once: those that are taken -/
theorem wm_lcfil {δ : Type} {mi : M (List D)} {g : D → MS → Option MS} {tc : M Bool} {m : M D} {vs : List Nat} {μ : MS} {Q : List D → MS → Prop} (emb : δ → D) (c : δ → Bool) (f : δ → D) (μ1 : MS) (xs : List δ) (hl : xs.length ≤ 16777216)
    (hm : Go (WM (mi μ) fun ds μ' => ds = xs.map emb ∧ μ' = μ1))
    (hs : ∀ x ∈ xs, Go (WS (wipeS μ1 vs) fun μ2 => WO (g (emb x) μ2) fun μ2 => WM (tc μ2) fun b μ3 => b = c x ∧ if b = true then WM (m μ3) fun d μ4 => d = f x ∧ wipeS μ4 vs = wipeS μ1 vs else wipeS μ3 vs = wipeS μ1 vs))
    (hd : Go (WS (restS μ1 vs (wipeS μ1 vs)) fun μ3 => Q ((xs.filter c).map f) μ3)) : WM (mLc mi g tc m vs μ) Q := by
  refine wm_lcc emb μ1 (fun i acc μ2 => acc = ((xs.take i).filter c).map f ∧ μ2 = wipeS μ1 vs) xs hl hm ⟨rfl, rfl⟩ ?_ ?_
  · rintro i x acc μ hx ha ⟨rfl, rfl⟩
    have hx' : x ∈ xs := List.mem_of_getElem? hx
    refine WO_mono (hs x hx') fun μ2 h => ?_
    refine WM_mono h fun b μ3 h => ?_
    obtain ⟨rfl, h⟩ := h
    rw [List.take_add_one, hx]
    cases hc : c x with
    | false =>
      rw [hc] at h
      simp only [Bool.false_eq_true, if_false] at h ⊢
      refine ⟨?_, h⟩
      simp [hc]
    | true =>
      rw [hc] at h
      simp only [if_true] at h ⊢
      refine WM_mono h fun d μ4 h => ?_
      refine ⟨?_, h.2⟩
      simp [hc, h.1]
  · rintro acc μ2 ⟨rfl, rfl⟩
    rw [List.take_length]
    exact hd
end Mi
/-! Mi, fourteenth part: sorted(set(t)). -/
namespace Mi
open PySem PySem.Spec PyProof.Rows L2
def insU (x : Int) : List Int → List Int
  | [] => [x]
  | y :: r => if x < y then x :: y :: r else if x = y then y :: r else y :: insU x r
def srtU (ns : List Int) : List Int := ns.foldr insU []
theorem mem_insU {x k : Int} : ∀ {r : List Int}, k ∈ insU x r ↔ k = x ∨ k ∈ r
  | [] => by simp [insU]
  | y :: r => by
    unfold insU
    split
    · simp
    · split
      · rename_i h; subst h; simp
      · rw [List.mem_cons, mem_insU (r := r), List.mem_cons]
        constructor
        · rintro (h | h | h)
          · exact .inr (.inl h)
          · exact .inl h
          · exact .inr (.inr h)
        · rintro (h | h | h)
          · exact .inr (.inl h)
          · exact .inl h
          · exact .inr (.inr h)
theorem insU_srt {x : Int} : ∀ {r : List Int}, r.Pairwise (· < ·) → (insU x r).Pairwise (· < ·)
  | [], _ => by simp [insU]
  | y :: r, h => by
    rw [List.pairwise_cons] at h
    unfold insU
    split
    · rename_i hx
      refine List.pairwise_cons.mpr ⟨fun z hz => ?_, List.pairwise_cons.mpr h⟩
      rcases List.mem_cons.mp hz with rfl | hz
      · exact hx
      · exact Int.lt_trans hx (h.1 z hz)
    · split
      · exact List.pairwise_cons.mpr h
      · refine List.pairwise_cons.mpr ⟨fun z hz => ?_, insU_srt h.2⟩
        rcases mem_insU.mp hz with rfl | hz
        · omega
        · exact h.1 z hz
theorem srtU_mem {k : Int} : ∀ {ns : List Int}, k ∈ srtU ns ↔ k ∈ ns
  | [] => by simp [srtU]
  | n :: ns => by
    show k ∈ insU n (srtU ns) ↔ _
    rw [mem_insU, srtU_mem, List.mem_cons]
theorem srtU_srt : ∀ (ns : List Int), (srtU ns).Pairwise (· < ·)
  | [] => by simp [srtU]
  | n :: ns => insU_srt (srtU_srt ns)
theorem srt_eq : ∀ {as bs : List Int}, as.Pairwise (· < ·) → bs.Pairwise (· < ·) → (∀ k, k ∈ as ↔ k ∈ bs) → as = bs
  | [], [], _, _, _ => rfl
  | [], b :: bs, _, _, h => by have := (h b).mpr List.mem_cons_self; cases this
  | a :: as, [], _, _, h => by have := (h a).mp List.mem_cons_self; cases this
  | a :: as, b :: bs, ha, hb, h => by
    rw [List.pairwise_cons] at ha hb
    have e : a = b := by
      rcases List.mem_cons.mp ((h a).mp List.mem_cons_self) with e | e
      · exact e
      · rcases List.mem_cons.mp ((h b).mpr List.mem_cons_self) with e2 | e2
        · exact e2.symm
        · have := hb.1 a e
          have := ha.1 b e2
          omega
    subst e
    rw [srt_eq ha.2 hb.2 fun k => ?_]
    have hk := h k
    constructor
    · intro hm
      rcases List.mem_cons.mp (hk.mp (List.mem_cons_of_mem _ hm)) with e | e
      · have := ha.1 k hm; omega
      · exact e
    · intro hm
      rcases List.mem_cons.mp (hk.mpr (List.mem_cons_of_mem _ hm)) with e | e
      · have := hb.1 k hm; omega
      · exact e
theorem srtU_self {ns : List Int} : srtU ns = ns ↔ ns.Pairwise (· < ·) :=
  ⟨fun h => h ▸ srtU_srt ns, fun h => srt_eq (srtU_srt ns) h fun k => srtU_mem⟩
/-- the mirror of sorted(set(t)) -/
def srtSetF : D → Option (List D)
  | .tuple ds => (ints? ds).bind fun ns => if ns.length < 60 then some ((srtU ns).map .int) else none
  | _ => none
def m1F (g : D → Option (List D)) (ma : M O) : M (List D) := fun μ => (ma μ).bind fun p => (look p.1 p.2).bind fun d => (g d).bind fun z => some (z, p.2)
section
variable {X : Cx}
def rSetTI (X : Cx) : List V → Hp → VK → Prop := fun xs H Q => ∃ (l : Addr) (ns : List Int), xs = [V.ref l] ∧ SqT X.K H l (ns.map V.int) ∧ ns.length + 1 < scanBound ∧ ∀ p c, H p = none → c ≤ ns.length → Q (.ref p) (upd H p (SetO X.w p (fun j => decide (j ∈ ns)) c))
theorem cr_setTI (hc : X.calm = true) : CallR X (.type "set") (rSetTI X) := by
  intro pins s σ H vs us Q I r h
  obtain ⟨a, ns, rfl, hs, hb, q⟩ := h
  obtain ⟨its, rv, hl, _⟩ := I.tuple hs
  rw [Vals.ref1 r]
  exact call_set_tupI ns (I.ok.hd hc) hl rv.ints hb fun h' tk c R hcl hk => ⟨.ref _, upd H s.heap.objs.size (SetO X.w s.heap.objs.size (fun j => decide (j ∈ ns)) c), I.laid (t' := tk) hk (Nat.le_refl _) (setO_new R), rfl, q _ c (I.hok.fresh (Nat.le_refl _)) hcl⟩
variable {p p2 q pos : Pos} {e : Expr} {m : M O}
theorem f_sortedSet (hc : X.calm = true) (hm : X.mg "sorted" = none) (hm2 : X.mg "set" = none) (ha : DO X e m) (hg : Gl X "sorted" := by rfl) (hg2 : Gl X "set" := by rfl)
    (he : starEach [e] X.env = [(false, eval e X.env)] := by rfl) : DF X (.Call (.Name "sorted" p) [.Call (.Name "set" p2) [e] [] q] [] pos) (m1F srtSetF m) := by
  obtain ⟨t, ht, o⟩ := ha.ex
  refine ⟨_, pe_callB (cr_sortedSet hc) hg hm (by decide +kernel) (pa_cons (pe_callTy (cr_setTI hc) hg2 hm2 (by decide +kernel) (pa_cons ht pa_nil he) (by decide) (by decide) he) pa_nil), fun c B σ H μ ds μ' Q rel hm k => ?_⟩
  unfold m1F at hm
  simp only [Option.bind_eq_some_iff] at hm
  obtain ⟨⟨o1, μ1⟩, h1, d, h2, z, h3, h4⟩ := hm
  cases h4
  unfold srtSetF at h3
  split at h3
  · rename_i ds2
    simp only [Option.bind_eq_some_iff] at h3
    obtain ⟨ns, h5, h6⟩ := h3
    split at h6
    · rename_i hlen
      cases h6
      refine o c B σ H μ o1 μ1 _ rel h1 fun B1 H1 x e1 r1 x1 => ?_
      obtain ⟨a, vs, rfl, s1, s2, s3⟩ := (look_ok r1 x1 h2).tuple r1.r0.ext
      rw [ints?_some h5] at s3
      refine ⟨a, ns, rfl, by rw [← s3.ints]; exact s1, by unfold scanBound; omega, fun p0 c0 hp0 hc0 => ?_⟩
      refine ⟨p0, _, c0, rfl, upd_same, by omega, fun out p1 hsrt hmem hl hp1 => ?_⟩
      have r2 := r1.hide (o := SetO X.w p0 (fun j => decide (j ∈ ns)) c0) hp0
      have r3 := r2.hide (o := .lst (out.map V.int)) hp1
      obtain ⟨f0, fb⟩ := r2.r0.fresh hp1
      have eq : out = srtU ns := srt_eq hsrt (srtU_srt ns) fun k => by rw [hmem k, srtU_mem, decide_eq_true_iff]
      rw [eq] at r3 ⊢
      exact k B1 _ p1 _ e1 r3 upd_same fb f0 (r2.noOwn hp1) (RpA.ofInts _)
    · cases h6
  · cases h3
end
end Mi
/-! Mi, fifteenth part: helpers for the maths. -/
namespace Mi
open PySem PySem.Spec PyProof.Rows L2
theorem WO_get {α : Type} {o : Option α} {P : α → Prop} (h : Go (WO o P)) : ∃ z, o = some z ∧ P z := by
  cases o with
  | none => simp -dsimp at h
  | some z => simp -dsimp at h; exact ⟨z, rfl, un_go h⟩
/-- a comprehension whose elements are told by a property; the state may move -/
theorem wm_lcY {δ ε : Type} {mi : M (List D)} {g : D → MS → Option MS} {m : M D} {vs : List Nat} {μ : MS} {Q : List D → MS → Prop} (emb : δ → D) (out : ε → D) (xs : List δ) (hB : xs.length ≤ 1000000) (l l' : List Sl) (f : δ → ε → Prop)
    (hm : Go (WM (mi μ) fun ds μ' => ds = xs.map emb ∧ μ'.sl = l))
    (hw : ∀ dr, wipeS ⟨l, dr⟩ vs = ⟨l', dr⟩)
    (hs : ∀ (i : Nat) (x : δ) dr, xs[i]? = some x → Go (WO (g (emb x) ⟨l', dr⟩) fun μ2 => WM (m μ2) fun d μ3 => ∃ k, d = out k ∧ f x k ∧ (wipeS μ3 vs).sl = l'))
    (hd : ∀ row : List ε, row.length = xs.length → (∀ (i : Nat) (x : δ) (k : ε), xs[i]? = some x → row[i]? = some k → f x k) → ∀ dr dr', Go (WS (restS ⟨l, dr⟩ vs ⟨l', dr'⟩) fun μ3 => Q (row.map out) μ3)) : WM (mLc mi g tYesM m vs μ) Q := by
  cases h : mi μ with
  | none => rw [h] at hm; simp at hm
  | some p =>
    obtain ⟨ds, μ1⟩ := p
    rw [h] at hm
    simp only [go_eq, WM_some] at hm
    obtain ⟨rfl, rfl⟩ := hm
    obtain ⟨l, dr⟩ := μ1
    refine wm_lc3 emb ⟨l, dr⟩ (fun i acc μ2 => ∃ row : List ε, acc = row.map out ∧ row.length = i ∧ (∀ (j : Nat) (x : δ) (k : ε), xs[j]? = some x → row[j]? = some k → f x k) ∧ μ2.sl = l') xs (by omega) ?_ ?_ ?_ ?_
    · rw [h]
      simp
    · rw [hw dr]
      exact ⟨[], rfl, rfl, (fun j x k _ h => by simp at h), rfl⟩
    · rintro i x acc ⟨l2, dr2⟩ hx ha ⟨row, rfl, rfl, hf, rfl⟩
      refine WO_mono (hs row.length x dr2 hx) fun μ2 h => WM_mono h fun d μ3 h => ?_
      obtain ⟨k, hd, hk, e⟩ := h
      refine ⟨row ++ [k], by rw [List.map_append, hd]; rfl, by simp, fun j y k' hj hk' => ?_, e⟩
      by_cases hjl : j < row.length
      · rw [List.getElem?_append_left hjl] at hk'
        exact hf j y k' hj hk'
      · have hl := (List.getElem?_eq_some_iff.mp hk').1
        simp only [List.length_append, List.length_singleton] at hl
        have hje : j = row.length := by omega
        subst hje
        rw [List.getElem?_append_right (Nat.le_refl _), Nat.sub_self] at hk'
        cases hk'
        rw [hx] at hj
        cases hj
        exact hk
    · rintro acc ⟨l2, dr2⟩ ⟨row, rfl, hl, hf, rfl⟩
      exact hd row hl hf dr dr2
theorem allD_true {α : Type} {xs : List α} : allD [.list (xs.map fun _ => .bool true)] = some (.bool true) := by
  rw [allD_map (p := fun _ => true)]
  simp
theorem bits_lt {s : Int} : s.natAbs < 2 ^ Builtin.Int.intBits s := by
  unfold Builtin.Int.intBits
  split
  · rename_i h
    simp at h
    subst h
    decide
  · exact Nat.lt_log2_self
theorem bits_le {s : Int} (h : s ≠ 0) : 0 < Builtin.Int.intBits s ∧ 2 ^ (Builtin.Int.intBits s - 1) ≤ s.natAbs := by
  unfold Builtin.Int.intBits
  rw [if_neg (by simpa using h)]
  exact ⟨by omega, Nat.log2_self_le (by omega)⟩
end Mi
/-! Mi, sixteenth part: xs[::-1] of a list. -/
namespace Mi
open PySem PySem.Spec PyProof.Rows L2
def revF : D → Option (List D)
  | .list ds => some ds.reverse
  | _ => none
@[simp] theorem revF_list {ds : List D} : revF (.list ds) = some ds.reverse := rfl
theorem RpA.rev {K : PySem.W.Frag} {st : Option (Addr × Addr)} {B : Hp} : ∀ {vs : List V} {ds : List D}, RpA K st B vs ds → RpA K st B vs.reverse ds.reverse
  | _, _, .nil => .nil
  | _, _, .cons r t => by
    rw [List.reverse_cons, List.reverse_cons]
    exact (RpA.rev t).append (.cons r .nil)
section
variable {X : Cx} {e : Expr} {m : M O} {k : Nat} {p1 p2 p3 pos : Pos}
theorem f_revL (ha : DO X e m) : DF X (.Subscript e (.Slice none none (some (.UnaryOp .USub (.Constant (.int 1) k p1) p2)) p3) pos) (m1F revF m) := by
  obtain ⟨t, pt, o⟩ := ha.ex
  refine ⟨_, pe_revL pt, fun c B σ H μ ds μ' Q rel hm k => ?_⟩
  unfold m1F at hm
  simp only [Option.bind_eq_some_iff] at hm
  obtain ⟨⟨o1, μ1⟩, h1, d, h2, z, h3, h4⟩ := hm
  cases h4
  unfold revF at h3
  split at h3
  · cases h3
    refine o c B σ H μ o1 μ1 _ rel h1 fun B1 H1 x e1 r1 x1 => ?_
    obtain ⟨p, vs, rfl, h7, h8⟩ := (look_ok r1 x1 h2).list r1.r0.ext
    refine ⟨p, vs, rfl, SqL.of h7, fun a ha => ?_⟩
    obtain ⟨f0, fb⟩ := r1.r0.fresh ha
    exact k B1 _ a _ e1 (r1.hide ha) upd_same fb f0 (r1.noOwn ha) h8.rev
  · cases h3
end
theorem wm0_m1F {g : D → Option (List D)} {ma : M O} {μ : MS} {Q : List D → MS → Prop} : WM0 (m1F g ma μ) Q = WM0 (ma μ) fun o1 μ1 => WO0 (look o1 μ1) fun d => WO0 (g d) fun z => Q z μ1 := by
  unfold m1F
  cases ma μ with
  | none => rfl
  | some p =>
    obtain ⟨o, μ1⟩ := p
    simp only [Option.bind_some]
    show _ = WO0 (look o μ1) _
    cases look o μ1 with
    | none => rfl
    | some d =>
      simp only [Option.bind_some]
      show _ = WO0 (g d) _
      cases g d <;> rfl
@[simp ↓] theorem wm_m1F {g : D → Option (List D)} {ma : M O} {μ : MS} {Q : List D → MS → Prop} : @Eq Prop (WM (m1F g ma μ) Q) (WM (ma μ) fun o1 μ1 => WO (look o1 μ1) fun d => WO (g d) fun z => Q z μ1) := by with_unfolding_all exact wm0_m1F
end Mi
/-! Mx, first part: an own error's __init__ that says super().__init__(place) first. -/
namespace Mi
open PySem PySem.Spec PyProof.Rows L2 NdefX
/-- what the written part says of the __init__ of the class at D: at f, its cell at cc -/
structure InitTxt (P : Program) (K : PySem.W.Frag) (D f cc : Addr) (F : NF) : Prop where
  lk : ∃ oc od doc pm ctv sl, K.lookup f = some (⟨oc, od, .func (F.fd doc pm ctv), sl⟩ : Obj)
  cd : PySem.W.codeIn K (.ref F.c) F.qual = true
  co : ∃ a b vs d file tf, K.lookup F.c = some (⟨a, b, .fields vs, d⟩ : Obj) ∧ vs[2]? = some (.str file tf) ∧ ((P.main.file : Str) == file) = true
  ce : ∃ a b d, K.lookup cc = some (⟨a, b, .cell (some (.ref D)), d⟩ : Obj)
  cD : ∃ cd, PySem.W.clsIn K D = some cd
  cl : F.cl = [(("__class__" : Str), cc)]
  hd : ∃ ar, (F.params.posonlyargs ++ F.params.args).head? = some ar ∧ ar.arg = "self"
  sc : NScope ["self", "place", "__class__"] ["self", "place"] ["__class__"] F.scope
  su : F.scope.names.lookup ("super" : Str) = some .globalImplicit
  tp : (P.main.scope.names.lookup ("super" : Str)).isSome = false
section
variable {CX : CXT} {P : Program} {w : World} {K : PySem.W.Frag} {mg : Str → Option Value} {base : Heap} {D f cc C x : Addr} {F : NF} {A : Around} {outer : List Env} {s0 s : Shared} {H0 H : Hp} {E0 : XK} {pins : List (Addr × Obj)} {σ : L2.St} {d : Option Addr} {E : Value → Shared → Prop}
theorem sup_base (T : InitTxt P K D f cc F) (I : Inv (ncx CX P w K mg base ["self", "place", "__class__"] F f A outer s0 H0 E0) pins σ H s) (hσ : σ[0]? = some (some (.ref x))) (hx : H x = some (exo x C d))
    (hsub : PySem.W.mroIn K C (.ref D) = some true) (hsp : mg "super" = none) {body : List Stmt} {p0 p1 : Pos} {whole : Sem Value} {Q : Value → Shared → Prop}
    (h : ∀ h', (∀ b o, s.heap.get? b = some o → h'.get? b = some o) → h'.get? s.heap.objs.size = some (PySem.W.ks_superObj D x C) → Q (.ref s.heap.objs.size) { s with heap := h' }) :
    _root_.PySem.wpAt (model P w) (A.deeper (envF F f s0.heap.objs.size)) (.func body (envF F f s0.heap.objs.size)) (attributeBase (.Call (.Name "super" p0) [] [] p1) "__init__" (envF F f s0.heap.objs.size) whole) Q E s := by
  have KX : K.In s.heap := I.kIn
  obtain ⟨oc, od, doc, pm, ctv, sl, hf⟩ := T.lk
  obtain ⟨ca, cb, vs, cd, file, tf, hco, hvs, hfile⟩ := T.co
  obtain ⟨ea, eb, ed, hce⟩ := T.ce
  obtain ⟨cdD, hD⟩ := T.cD
  obtain ⟨ar, hp, har⟩ := T.hd
  obtain ⟨t1, hxo⟩ := exo_at I.hok hx
  obtain ⟨m, hns, hlk⟩ := I.loc
  obtain ⟨u, ru, hu⟩ := hlk 0 "self" (.ref x) rfl hσ (.inl (T.sc.par "self" (by simp)))
  obtain ⟨mb, hmb, hmb2⟩ := I.ok.mod.blt
  obtain ⟨oD, hD1, hD2⟩ : ∃ oD, s.heap.get? D = some oD ∧ oD.data = .cls cdD := by
    unfold PySem.W.clsIn at hD
    split at hD
    · rename_i c d cd' sl ho
      cases hD
      exact ⟨_, KX _ _ ho, rfl⟩
    · cases hD
  have hx' : u = Value.ref x := ru
  subst hx'
  have hms : m "self" = some (Value.ref x) := by
    rcases hu with ⟨_, e⟩ | ⟨k, _⟩
    · exact e
    · have k0 : F.scope.names.lookup ("self" : Str) = some .local := T.sc.par "self" (by simp)
      have k' : F.scope.names.lookup ("self" : Str) = some .cell ∨ F.scope.names.lookup ("self" : Str) = some .free := k
      rw [k0] at k'
      rcases k' with k' | k' <;> cases k'
  refine ks_wpAt_super_base (env := envF F f s0.heap.objs.size) (f := f) (fd := F.fd doc pm ctv) (ar := ar) T.su ?_ (by decide) rfl (KX _ _ hf) rfl hp rfl (KX _ _ hco) rfl hvs hfile T.tp ?_
  · exact T.sc.frk "__class__" (by simp)
  refine PySem.W.ks_loadName_global T.sc.kind T.su (PySem.Calls.loadGlobal_builtin (env := envF F f s0.heap.objs.size) (I.ok.mod.glob.keeps I.bk) hsp (hmb.keeps I.bk) ((hmb2 _ (by decide)).trans PyProof.Rows.Boot.«super») ⟨rfl, ?_⟩)
  refine wpAny_loadName_free (c := cc) T.sc.kind (T.sc.frk "__class__" (by simp)) (by show F.cl.lookup _ = _; rw [T.cl]; rfl) ⟨_, KX _ _ hce, rfl⟩ ?_
  refine wpAny_loadName_local T.sc.kind (T.sc.par ar.arg (by rw [har]; simp)) hns (by rw [har]; exact hms) ?_
  refine PySem.ks_wpAny_isType_cls hD1 hD2 ⟨rfl, ?_⟩
  obtain ⟨hp1, g, dd, t, os⟩ := s
  exact PySem.ks_wpAny_call_super hD1 hD2 hxo rfl (fun c e => by cases e) (PySem.W.looks_mroIn KX hsub) fun h' e k => h h' k e
end
end Mi
/-! Mx, second part: super().__init__(place), of ValueError. -/
namespace Mi
open PySem PySem.Spec PyProof.Rows L2 NdefX
/-- what the written part says of the class at C seen from the class at D -/
structure UpTxt (K : PySem.W.Frag) (C D : Addr) (tgt : Value) : Prop where
  oex : OexC K C
  sub : PySem.W.mroIn K C (.ref D) = some true
  nx : PySem.W.ks_superIn K C D "__init__" = some (some tgt)
  op : PySem.W.nsIn K PySem.cStatics "thirdparty.any" = some none
  ve : PySem.W.subIn K (.ref C) (.type "ValueError") = some true
/-- how super().__init__(place) goes, by its places in the text -/
def SupEq (env : Env) (p0 p1 p2 p3 pos : Pos) (pl : Sem Bool) : Prop := eval (.Call (.Attribute (.Call (.Name "super" p0) [] [] p1) "__init__" p2) [.Name "place" p3] [] pos) env = (do
      let ov ← attributeBase (.Call (.Name "super" p0) [] [] p1) "__init__" env (eval (.Call (.Name "super" p0) [] [] p1) env)
      standAt p2.atName
      let (f, first) ← holding [ov] (getMethod ov "__init__" pl)
      callWith pos f first (backTo pos (starEach [.Name "place" p3] env)) [])
section
variable {CX : CXT} {P : Program} {w : World} {K : PySem.W.Frag} {mg : Str → Option Value} {base : Heap} {D f cc C x : Addr} {F : NF} {A : Around} {outer : List Env} {s0 s : Shared} {H0 H : Hp} {E0 : XK} {pins : List (Addr × Obj)} {σ : L2.St} {d : Option Addr} {E : Value → Shared → Prop} {v : V}
/-- the value of place -/
theorem place_at (T : InitTxt P K D f cc F) (I : Inv (ncx CX P w K mg base ["self", "place", "__class__"] F f A outer s0 H0 E0) pins σ H s) (hσ : σ[1]? = some (some v)) : ∃ m u, s.heap.Ns s0.heap.objs.size m ∧ m "place" = some u ∧ RelV v u := by
  obtain ⟨m, hns, hlk⟩ := I.loc
  obtain ⟨u, ru, hu⟩ := hlk 1 "place" v rfl hσ (.inl (T.sc.par "place" (by simp)))
  refine ⟨m, u, hns, ?_, ru⟩
  rcases hu with ⟨_, e⟩ | ⟨k, _⟩
  · exact e
  · have k0 : F.scope.names.lookup ("place" : Str) = some .local := T.sc.par "place" (by simp)
    have k' : F.scope.names.lookup ("place" : Str) = some .cell ∨ F.scope.names.lookup ("place" : Str) = some .free := k
    rw [k0] at k'
    rcases k' with k' | k' <;> cases k'
theorem sup_ve (T : InitTxt P K D f cc F) (U : UpTxt K C D (.builtin "ValueError.__init__")) (I : Inv (ncx CX P w K mg base ["self", "place", "__class__"] F f A outer s0 H0 E0) pins σ H s) (hσ : σ[0]? = some (some (.ref x))) (hv : σ[1]? = some (some v)) (hx : H x = some (exo x C none))
    (hsp : mg "super" = none) {body : List Stmt} {p0 p1 p2 p3 pos : Pos} {pl : Sem Bool} {Q : Value → Shared → Prop} (he : SupEq (envF F f s0.heap.objs.size) p0 p1 p2 p3 pos pl)
    (h : ∀ s', Inv (ncx CX P w K mg base ["self", "place", "__class__"] F f A outer s0 H0 E0) pins σ H s' → Q .none s') :
    _root_.PySem.wpAt (model P w) (A.deeper (envF F f s0.heap.objs.size)) (.func body (envF F f s0.heap.objs.size)) (eval (.Call (.Attribute (.Call (.Name "super" p0) [] [] p1) "__init__" p2) [.Name "place" p3] [] pos) (envF F f s0.heap.objs.size)) Q E s := by
  refine ks_wpAt_MethodCall (pl := pl) (sup_base T I hσ hx U.sub hsp fun h' k hso => ?_) he
  have I1 := I.kept (t' := s.toks) k
  have KX : K.In h' := I1.kIn
  obtain ⟨t1, hxo⟩ := exo_at I1.hok hx
  obtain ⟨hp0, g, dd, t, os⟩ := s
  have hIn : PySem.W.Looks (model P w) h' (isInstance (.ref x) (.type "ValueError")) true := (show PySem.W.InstAt h' x _ C none from ⟨hxo, rfl, rfl, trivial⟩).type.andThen (PySem.W.looks_subIn KX U.ve)
  have hnx := U.nx
  unfold PySem.W.ks_superIn at hnx
  cases hc : PySem.W.clsIn K C with
  | none => rw [hc] at hnx; cases hnx
  | some cd =>
  rw [hc] at hnx
  refine PySem.W.kxs_getMethod PySem.W.kxs_ValueError hso (PySem.W.looks_opaque KX U.op) (l₀ := cd.mro) (fun A Q E s k q => wpAny_bind ((PySem.W.looks_clsIn KX hc) A _ E s k (wpAny_pure q))) rfl KX hnx hIn (PySem.W.ks_ne KX (show PySem.W.InstAt h' x _ C none from ⟨hxo, rfl, rfl, trivial⟩) hc) (by decide) ?_
  have kk : ∀ b o, h'.get? b = some o → (h'.push (PySem.W.kxs_mw "ValueError.__init__" x)).get? b = some o := fun b o e => Heap.get?_push_of_some _ e
  have I2 := I1.kept (t' := t + 1) kk
  have hmw : (h'.push (PySem.W.kxs_mw "ValueError.__init__" x)).get? h'.objs.size = some (PySem.W.kxs_mw "ValueError.__init__" x) := Heap.get?_push_at rfl rfl
  obtain ⟨m, u, hns, hm, ru⟩ := place_at T I2 hv
  refine PySem.W.kxs_callWith (i := "ValueError.__init__") (x := x) rfl (Calls.evalArgs_plain (Calls.spliced_cons (wpAny_Name (wpAny_loadName_local T.sc.kind (T.sc.par "place" (by simp)) hns hm ?_) (by decide))))
  refine Calls.spliced_nil ⟨hmw, ?_⟩
  obtain ⟨nm, q, N, bs, bm, sn, sub, ab, col, dC, k0, k1, k2, k3, k5, hC, hbm⟩ := U.oex.cls
  obtain ⟨t2, hxo2⟩ := exo_at I2.hok hx
  have hC2 := I2.kIn _ _ hC
  refine wpAny_call (codeAny_of_tree ?_)
  show wpAny _ (A.deeper (envF F f s0.heap.objs.size)).in1 (callAny (.ref h'.objs.size) ⟨[u], []⟩) _ _ _
  simp only [callAny]
  refine wpAny_bind (wpAny_load hmw ?_)
  simp only [PySem.W.kxs_mw, show (Value.type "method-wrapper" == Value.type "method" || Value.type "method-wrapper" == Value.type "builtin_function_or_method" || Value.type "method-wrapper" == Value.type "method-wrapper") = true by decide, if_true]
  refine PySem.W.KFB.if_so (by decide) ?_
  refine wpAny_bind (PySem.W.check_bound_init PySem.F.excBase_ValueError.toExcCallFacts hC2 hxo2 rfl ?_)
  refine wpAny_bind (wpAny_pure (wpAny_pure ?_))
  refine ⟨plainId_quiet PySem.F.excBase_ValueError.init.plain _, codeAny_builtin PySem.F.excBase_ValueError.initEntry ?_⟩
  refine PySem.W.exc_init_tree (cls := .ref C) (t0 := t2) (dv := none) (c2 := .none) (c3 := .none) (b4 := .bool false) hxo2 (by simp [sizeLine_eq]) fun h3 k3 e3 _ => ?_
  have J := I2.write (t' := t + 1) (x := x) (e := x) (o := exo x C none) (by rw [hx]; exact True.intro) (.inl rfl) k3 ⟨_, e3⟩ (exo_ok e3)
  have eu : upd H x (exo x C none) = H := by
    funext b
    by_cases hb : b = x
    · rw [hb, upd_same, hx]
    · rw [upd_ne hb]
  rw [eu] at J
  exact h _ J
end
end Mi
/-! Mx, third part: super().__init__(place), of an own class. -/
namespace Mi
open PySem PySem.Spec PyProof.Rows L2 NdefX
section
variable {CX : CXT} {P : Program} {w : World} {K : PySem.W.Frag} {mg : Str → Option Value} {base : Heap} {D f cc C x f2 : Addr} {F : NF} {A : Around} {outer : List Env} {s0 s : Shared} {H0 H : Hp} {E0 : XK} {pins : List (Addr × Obj)} {σ : L2.St} {d : Option Addr} {E : Value → Shared → Prop} {v : V} {k : Nat} {fd2 : FuncData} {sp : Sp} {Q0 : VK}
theorem sup_fn (T : InitTxt P K D f cc F) (U : UpTxt K C D (.ref f2)) (ht : PySem.W.typeIn K (.ref f2) = some (.type "function")) (hfn : PySem.W.fnIn K f2 = true) (F2 : FnOk P w K mg base CX k f2 fd2 ["self", "place"] sp) (hb : Binds K fd2 ["self", "place"] []) (hr : Room k (A.deeper (envF F f s0.heap.objs.size)))
    (hCX : ∀ outer H s e s', ¬ CX outer H s (fun _ _ _ => False) e s')
    (I : Inv (ncx CX P w K mg base ["self", "place", "__class__"] F f A outer s0 H0 E0) pins σ H s) (hσ : σ[0]? = some (some (.ref x))) (hv : σ[1]? = some (some v)) (hx : H x = some (exo x C none))
    (hsp : mg "super" = none) {body : List Stmt} {p0 p1 p2 p3 pos : Pos} {pl : Sem Bool} {Q : Value → Shared → Prop} (he : SupEq (envF F f s0.heap.objs.size) p0 p1 p2 p3 pos pl) (q0 : sp [.ref x, v] H Q0 (fun _ _ _ => False))
    (h : ∀ s' H' v' u', Inv (ncx CX P w K mg base ["self", "place", "__class__"] F f A outer s0 H0 E0) pins σ H' s' → RelV v' u' → Q0 v' H' → Q u' s') :
    _root_.PySem.wpAt (model P w) (A.deeper (envF F f s0.heap.objs.size)) (.func body (envF F f s0.heap.objs.size)) (eval (.Call (.Attribute (.Call (.Name "super" p0) [] [] p1) "__init__" p2) [.Name "place" p3] [] pos) (envF F f s0.heap.objs.size)) Q E s := by
  refine ks_wpAt_MethodCall (pl := pl) (sup_base T I hσ hx U.sub hsp fun h' kq hso => ?_) he
  have I1 := I.kept (t' := s.toks) kq
  have KX : K.In h' := I1.kIn
  obtain ⟨t1, hxo⟩ := exo_at I1.hok hx
  obtain ⟨hp0, g, dd, t, os⟩ := s
  have hnx := U.nx
  unfold PySem.W.ks_superIn at hnx
  cases hc : PySem.W.clsIn K C with
  | none => rw [hc] at hnx; cases hnx
  | some cd =>
  rw [hc] at hnx
  obtain ⟨of, hof, hofc⟩ : ∃ of, h'.get? f2 = some of ∧ of.cls = .type "function" := by
    have ht' : (K.lookup f2).map (·.cls) = some (.type "function") := ht
    cases z : K.lookup f2 with
    | none => rw [z] at ht'; cases ht'
    | some of => rw [z] at ht'; exact ⟨of, KX _ _ z, Option.some.inj ht'⟩
  refine PySem.ks_wpAny_getMethod_super hso (PySem.W.looks_opaque KX U.op) (l₀ := cd.mro) (fun A Q E s k q => wpAny_bind ((PySem.W.looks_clsIn KX hc) A _ E s k (wpAny_pure q))) rfl KX hnx hof hofc (PySem.W.ks_ne KX (show PySem.W.InstAt h' x _ C none from ⟨hxo, rfl, rfl, trivial⟩) hc) (by decide) ?_
  have kk : ∀ b o, h'.get? b = some o → (h'.push { cls := .type "method", data := .fields #[.ref f2, .ref x] }).get? b = some o := fun b o e => Heap.get?_push_of_some _ e
  have I2 := I1.kept (t' := t + 1) kk
  have hmw : (h'.push { cls := .type "method", data := .fields #[.ref f2, .ref x] }).get? h'.objs.size = some (PySem.W.methodObj (.ref f2) (.ref x)) := Heap.get?_push_at rfl rfl
  obtain ⟨m, u, hns, hm, ru⟩ := place_at T I2 hv
  refine PySem.W.callWith_of (P := PySem.W.MethP K h'.objs.size f2 (.ref x)) rfl (PySem.W.keeps_M hfn) (Calls.evalArgs_plain (Calls.spliced_cons (wpAny_Name (wpAny_loadName_local T.sc.kind (T.sc.par "place" (by simp)) hns hm ?_) (by decide))))
  refine Calls.spliced_nil ⟨⟨hmw, I2.kIn⟩, ?_⟩
  have r2 : Vals [V.ref x, v] [Value.ref x, u] := .cons rfl (.cons ru .nil)
  refine wpAny_call (PySem.W.method_call hmw (codeAny_mono (F2.run _ _ _ H ⟨[.ref x, u], []⟩ [.ref x, u] [.ref x, v] Q0 (fun _ _ _ => False) hr I2.env0 (hb _ [.ref x, u] I2.kIn rfl) r2 q0) fun r s' hq => ?_))
  cases r with
  | error e => exact (hCX _ _ _ _ _ hq).elim
  | ok fl =>
    cases fl with
    | ret u1 =>
      obtain ⟨v', H', J, rv, q⟩ := I2.after (Q := Q0) hq
      exact h _ _ _ _ J rv q
    | next => exact False.elim hq
    | brk => exact False.elim hq
    | cont => exact False.elim hq
end
end Mi
/-! Mx, fourth part: such an __init__ as a def that keeps a promise. -/
namespace Mi
open PySem PySem.Spec PyProof.Rows L2 NdefX
/-- super().__init__(place) -/
abbrev supE (p0 p1 p2 p3 pos : Pos) : Expr := .Call (.Attribute (.Call (.Name "super" p0) [] [] p1) "__init__" p2) [.Name "place" p3] [] pos
abbrev N3 : List Str := ["self", "place", "__class__"]
section
variable {CX : CXT} {P : Program} {w : World} {K : PySem.W.Frag} {mg : Str → Option Value} {base : Heap} {D f cc : Addr} {F : NF} {k : Nat} {sp : Sp} {oc doc pm ctv : Value} {od : Option Addr} {sl : Array (Option Value)}
theorem cells_K (T : InitTxt P K D f cc F) {A : Around} {outer : List Env} {s : Shared} {H : Hp} (e0 : Env0 P w K mg base A outer s H) : CellsAt F.cl ["__class__"] [some (.ref D)] s.heap H := by
  obtain ⟨ea, eb, ed, hce⟩ := T.ce
  obtain ⟨h1, h2⟩ := e0.bs _ _ (e0.mod.kin _ _ hce)
  have hl : ∀ y c, F.cl.lookup y = some c → y = ("__class__" : Str) ∧ c = cc := by
    intro y c e
    rw [T.cl] at e
    by_cases hy : y = ("__class__" : Str)
    · subst hy
      simp [List.lookup] at e
      exact ⟨rfl, e.symm⟩
    · have hb : (y == ("__class__" : Str)) = false := by simpa using hy
      simp [List.lookup, hb] at e
  refine ⟨rfl, fun y c e => ?_, fun x y c e1 e2 => (hl x c e1).1.trans (hl y c e2).1.symm, fun i y e => ?_⟩
  · obtain ⟨_, rfl⟩ := hl y c e
    exact ⟨h2, _, _, h1, rfl⟩
  · cases i with
    | zero =>
      simp at e
      subst e
      refine ⟨cc, by rw [T.cl]; simp [List.lookup], fun v hv => ?_⟩
      simp at hv
      subst hv
      exact ⟨.ref D, rfl, _, h1, rfl⟩
    | succ i => simp at e
theorem init_of (T : InitTxt P K D f cc F) (lk : K.lookup f = some (⟨oc, od, .func (F.fd doc pm ctv), sl⟩ : Obj)) {p0 p1 p2 p3 pos pos' : Pos} {rest : List Stmt} (hbody : F.body = .Expr (supE p0 p1 p2 p3 pos) pos' :: rest) (len : ∀ vs H Q E, sp vs H Q E → vs.length = 2)
    (hstep : ∀ (A : Around) (outer : List Env) (s : Shared) (H : Hp) (vs : List V) (Q : VK) (E : XK) (Ex : Value → Shared → Prop) (s1 : Shared), Room k (A.deeper (envF F f s.heap.objs.size)) → sp vs H Q E → Inv (ncx CX P w K mg base N3 F f A outer s H E) [] (startF N3 vs [some (.ref D)]) H s1 →
      _root_.PySem.wpAt (model P w) (A.deeper (envF F f s.heap.objs.size)) (.func F.body (envF F f s.heap.objs.size)) (eval (supE p0 p1 p2 p3 pos) (envF F f s.heap.objs.size))
        (fun _ s2 => ∃ H2, Inv (ncx CX P w K mg base N3 F f A outer s H E) [] (startF N3 vs [some (.ref D)]) H2 s2 ∧ ∃ t, PSs (ncx CX P w K mg base N3 F f A outer s H E) rest t ∧ t { nx := fun _ H' => Q .non H', rt := Q } (startF N3 vs [some (.ref D)]) H2) Ex s1) :
    FnOk P w K mg base CX (k + 1) f (F.fd doc pm ctv) ["self", "place"] sp := by
  refine ⟨fun vs H Q E h => len vs H Q E h, fun A outer s H args us vs Q E hr e0 hb r hsp => ?_⟩
  have S := T.sc
  have hl := len _ _ _ _ hsp
  have KX : K.In s.heap := e0.mod.kin.keeps fun b o e => (e0.bs b o e).1
  have lim : s.heap.NoLimit := e0.mod.nolimit.keeps fun b o e => (e0.bs b o e).1
  refine codeAny_call_function hr.depth (KX _ _ lk) rfl S.co S.gen rfl (PySem.W.codeRec_of KX T.cd) (hb _ _ _ _ ?_)
  refine wpAny_newFunctionEnv S.nocell (fun ⟨n, _⟩ hy => S.par n (List.of_mem_zip hy).1) (fun h₁ hns hsb => ⟨lim.fresh _ hsb, ?_⟩) S.kind
  show codeAny _ _ (.func F.body (envF F f s.heap.objs.size)) _ _
  have kp : ∀ b o, s.heap.get? b = some o → h₁.get? b = some o := fun b o e => hsb.extBut b o (Nat.ne_of_lt (Heap.lt_size e)) (Heap.get?_push_of_some _ e)
  have I : Inv (ncx CX P w K mg base N3 F f A outer s H E) [] (startF N3 vs [some (.ref D)]) H { s with heap := h₁, toks := s.toks + ([("self" : Str), "place"].zip us).length } := inv_startN S hr.hd e0 hl r (cells_K T e0) hns kp
  refine ks_codeAny_funcAt ?_
  have hst := fun Ex => hstep A outer s H vs Q E Ex _ (hr.deeper _) hsp I
  rw [hbody] at hst ⊢
  refine ks_wpAt_execs_cons (ks_wpAt_Expr_any (hi := by unfold interactive; rw [show (envF F f s.heap.objs.size).scope.kind = .function from S.kind]; rfl) (_root_.PySem.wpAt_mono (hst _) (fun u s2 hq => ?_) fun e s1 h => h))
  obtain ⟨H2, J, t, pt, q⟩ := hq
  show _root_.PySem.wpAt _ _ _ (execs rest (envF F f s.heap.objs.size)) _ _ s2
  refine _root_.PySem.wpAt_of_wpAny (wpAny_mono (pt.run [] _ _ H2 _ J q) (fun fl s' hs => ?_) fun e s' hs => hs)
  have fin : ∀ {σ' : L2.St} {H' : Hp} {v : V} {u : Value}, Inv (ncx CX P w K mg base N3 F f A outer s H E) [] σ' H' s' → L2.RelV v u → Q v H' → CE outer P w H s Q u s' :=
    fun {σ' H' v u} J rv q => ⟨v, H', J.os, J.bare, J.base, J.hok, rv, q⟩
  cases fl with
  | ret u =>
    obtain ⟨v, σ', H', J, rv, q⟩ := hs
    exact fin J rv q
  | next =>
    obtain ⟨σ', H', J, q⟩ := hs
    exact fin (v := V.non) (u := Value.none) J rfl q
  | brk =>
    obtain ⟨_, _, _, q⟩ := hs
    exact False.elim q
  | cont =>
    obtain ⟨_, _, _, q⟩ := hs
    exact False.elim q
end
end Mi
/-! Mx, fifth part: the two __init__s, and making such an error. -/
namespace Mi
open PySem PySem.Spec PyProof.Rows L2 NdefX
/-- the heap with the error at x, its fields at dx -/
def errH (H : Hp) (x C dx : Addr) (fs : List (Str × V)) : Hp := upd (upd H dx (exd dx fs)) x (exo x C (some dx))
theorem errH_x {H : Hp} {x C dx : Addr} {fs : List (Str × V)} : errH H x C dx fs x = some (exo x C (some dx)) := upd_same
theorem errH_d {H : Hp} {x C dx : Addr} {fs : List (Str × V)} (h : dx ≠ x) : errH H x C dx fs dx = some (exd dx fs) := by
  unfold errH
  rw [upd_ne h, upd_same]
theorem errH_upd {H : Hp} {x C dx : Addr} {fs fs' : List (Str × V)} (h : dx ≠ x) : upd (errH H x C dx fs) dx (exd dx fs') = errH H x C dx fs' := by
  funext b
  unfold errH
  by_cases h1 : b = dx
  · subst h1
    rw [upd_same, upd_ne h, upd_same]
  · rw [upd_ne h1]
    by_cases h2 : b = x
    · subst h2
      rw [upd_same, upd_same]
    · rw [upd_ne h2, upd_ne h2, upd_ne h1, upd_ne h1]
/-- nothing of the class hides the fields -/
structure NoTxt (K : PySem.W.Frag) (C : Addr) : Prop where
  pl : PySem.W.findIn K (.ref C) "place" = some none
  nm : PySem.W.findIn K (.ref C) "name" = some none
def spCut (K : PySem.W.Frag) (D : Addr) (n : Str) : Sp := fun vs H Q _ => ∃ x C v, vs = [.ref x, v] ∧ UpTxt K C D (.builtin "ValueError.__init__") ∧ NoTxt K C ∧ H x = some (exo x C none) ∧ ∀ dx, H dx = none → dx ≠ x → Q .non (errH H x C dx [("name", .str n), ("place", v)])
def spSub (C : Addr) (n n0 : Str) : Sp := fun vs H Q _ => ∃ x v, vs = [.ref x, v] ∧ H x = some (exo x C none) ∧ ∀ dx, H dx = none → dx ≠ x → Q .non (errH H x C dx [("name", .str n), ("name", .str n0), ("place", v)])
section
variable {CX : CXT} {P : Program} {w : World} {K : PySem.W.Frag} {mg : Str → Option Value} {base : Heap} {D f cc C B fB : Addr} {F : NF} {k : Nat} {sp : Sp} {oc doc pm ctv : Value} {od : Option Addr} {sl : Array (Option Value)} {n n0 : Str}
theorem cut_ok (T : InitTxt P K D f cc F) (lk : K.lookup f = some (⟨oc, od, .func (F.fd doc pm ctv), sl⟩ : Obj)) (hsp : mg "super" = none) {p0 p1 p2 p3 pos pos' a1 a2 a3 a4 b1 b2 b4 b5 : Pos} {b3 : Nat} {pl : Sem Bool}
    (hbody : F.body = [.Expr (supE p0 p1 p2 p3 pos) pos', .Assign [.Attribute (.Name "self" a1) "place" a2] (.Name "place" a3) a4, .Assign [.Attribute (.Name "self" b1) "name" b2] (.Constant (.str n) b3 b4) b5])
    (he : ∀ L, SupEq (envF F f L) p0 p1 p2 p3 pos pl) : FnOk P w K mg base CX (k + 1) f (F.fd doc pm ctv) ["self", "place"] (spCut K D n) := by
  refine init_of T lk hbody (fun vs H Q E h => ?_) fun A outer s H vs Q E Ex s1 hr hs I => ?_
  · obtain ⟨x, C, v, rfl, _⟩ := h
    rfl
  obtain ⟨x, C, v, rfl, U, NT, hx, q⟩ := hs
  refine sup_ve T U I rfl rfl hx hsp (he _) fun s' J => ⟨H, J, ?_⟩
  have vS : Vis (envF F f s.heap.objs.size).scope "self" := .inl (T.sc.par "self" (by simp))
  have vP : Vis (envF F f s.heap.objs.size).scope "place" := .inl (T.sc.par "place" (by simp))
  refine ⟨_, pss_cons (ps_ost (pv 0 rfl vS) (pv 1 rfl vP)) (pss_one (ps_ost (pv 0 rfl vS) pe_str)), ?_⟩
  refine ⟨_, rfl, _, rfl, x, C, rfl, U.oex, NT.pl, .inl ⟨hx, fun dx hdx hne => ?_⟩⟩
  refine ⟨_, rfl, x, C, rfl, U.oex, NT.nm, .inr ⟨dx, _, errH_x, errH_d hne, by simp, ?_⟩⟩
  show Q .non _
  have e := errH_upd (H := H) (x := x) (C := C) (fs := [("place", v)]) (fs' := [("name", .str n), ("place", v)]) hne
  exact (congrArg (Q V.non) e).mpr (q dx hdx hne)
theorem sub_ok (T : InitTxt P K C f cc F) (lk : K.lookup f = some (⟨oc, od, .func (F.fd doc pm ctv), sl⟩ : Obj)) (hsp : mg "super" = none) (U : UpTxt K C C (.ref fB)) (U2 : UpTxt K C B (.builtin "ValueError.__init__")) (NT : NoTxt K C)
    (ht : PySem.W.typeIn K (.ref fB) = some (.type "function")) (hfn : PySem.W.fnIn K fB = true) {fd2 : FuncData} (F2 : FnOk P w K mg base CX k fB fd2 ["self", "place"] (spCut K B n0)) (hb : Binds K fd2 ["self", "place"] [])
    (hCX : ∀ outer H s e s', ¬ CX outer H s (fun _ _ _ => False) e s') {p0 p1 p2 p3 pos pos' b1 b2 b4 b5 : Pos} {b3 : Nat} {pl : Sem Bool}
    (hbody : F.body = [.Expr (supE p0 p1 p2 p3 pos) pos', .Assign [.Attribute (.Name "self" b1) "name" b2] (.Constant (.str n) b3 b4) b5])
    (he : ∀ L, SupEq (envF F f L) p0 p1 p2 p3 pos pl) : FnOk P w K mg base CX (k + 1) f (F.fd doc pm ctv) ["self", "place"] (spSub C n n0) := by
  refine init_of T lk hbody (fun vs H Q E h => ?_) fun A outer s H vs Q E Ex s1 hr hs I => ?_
  · obtain ⟨x, v, rfl, _⟩ := h
    rfl
  obtain ⟨x, v, rfl, hx, q⟩ := hs
  have vS : Vis (envF F f s.heap.objs.size).scope "self" := .inl (T.sc.par "self" (by simp))
  refine sup_fn T U ht hfn F2 hb hr hCX I rfl rfl hx hsp (he _) (Q0 := fun v' H2 => ∃ dx, v' = .non ∧ H dx = none ∧ dx ≠ x ∧ H2 = errH H x C dx [("name", .str n0), ("place", v)]) ⟨x, C, v, rfl, U2, NT, hx, fun dx hdx hne => ⟨dx, rfl, hdx, hne, rfl⟩⟩ fun s' H' v' u' J rv hq => ?_
  obtain ⟨dx, rfl, hdx, hne, rfl⟩ := hq
  refine ⟨_, J, _, pss_one (ps_ost (pv 0 rfl vS) pe_str), ?_⟩
  refine ⟨_, rfl, x, C, rfl, U.oex, NT.nm, .inr ⟨dx, _, errH_x, errH_d hne, by simp, ?_⟩⟩
  show Q .non _
  have e := errH_upd (H := H) (x := x) (C := C) (fs := [("name", .str n0), ("place", v)]) (fs' := [("name", .str n), ("name", .str n0), ("place", v)]) hne
  exact (congrArg (Q V.non) e).mpr (q dx hdx hne)
end
/-- the fields of such an error -/
def errFs (n n0 : Str) (v : V) : List (Str × V) := [("name", .str n), ("name", .str n0), ("place", v)]
/-- what making C(v) wishes -/
def CondE (C : Addr) (n n0 : Str) (Q : XK) (vs : List V) (H1 : Hp) : Prop := vs.length ≤ 1000 ∧ ∀ a, H1 a = none → spSub C n n0 (.ref a :: (vs ++ [])) (upd H1 a (exo a C none))
  (fun v H2 => v = .non ∧ ∃ (d : Addr) (fs : List (Str × V)), H2 a = some (exo a C (some d)) ∧ H2 d = some (exd d fs) ∧ H1 d = none ∧ Q (.ref C) (some d) (upd (del H2 a) d (.xd fs))) (fun _ _ _ => False)
theorem condE {C : Addr} {n n0 : Str} {Q : XK} {v : V} {H1 : Hp} (h : ∀ dx, H1 dx = none → Q (.ref C) (some dx) (upd H1 dx (.xd (errFs n n0 v)))) : CondE C n n0 Q [v] H1 := by
  refine ⟨by simp, fun a ha => ⟨a, v, rfl, upd_same, fun dx hdx hne => ⟨rfl, dx, _, errH_x, errH_d hne, ?_, ?_⟩⟩⟩
  · rw [upd_ne hne] at hdx
    exact hdx
  · rw [upd_ne hne] at hdx
    have e : upd (del (errH (upd H1 a (exo a C none)) a C dx [("name", .str n), ("name", .str n0), ("place", v)]) a) dx (.xd [("name", .str n), ("name", .str n0), ("place", v)]) = upd H1 dx (.xd (errFs n n0 v)) := by
      funext b
      by_cases h1 : b = dx
      · subst h1
        rw [upd_same, upd_same]
        rfl
      · rw [upd_ne h1, upd_ne h1]
        by_cases h2 : b = a
        · subst h2
          rw [del_same, ha]
        · rw [del_ne h2]
          unfold errH
          rw [upd_ne h2, upd_ne h1, upd_ne h2]
    rw [e]
    exact h dx hdx
/-- C(e) -/
def tMkE (C : Addr) (n n0 : Str) (te : TE) : L2.St → Hp → XK → Prop := fun σ H Q => te σ H fun v H1 => CondE C n n0 Q [v] H1
theorem pmk_err {X : Cx} {CX : CXT} {x n n0 : Str} {C fI : Addr} {k : Nat} {fd : FuncData} {e : Expr} {te : TE} {p pos : Pos} (T : OexC X.K C) (iC : PySem.W.findIn X.K (.ref C) "__init__" = some (some (.ref fI))) (tI : PySem.W.typeIn X.K (.ref fI) = some (.type "function"))
    (F1 : FnOk X.prog X.w X.K X.mg X.base CX k fI fd ["self", "place"] (spSub C n n0)) (hr : Room (k + 1) X.A) (hb : Binds X.K fd ["self", "place"] []) (hx : Passes CX X (fun _ _ _ => False)) (hg : Gl X x) (hm : X.mg x = some (.ref C)) (he : PE X e te)
    (hdb : (x == ("__debug__" : Str)) = false := by decide) (hst : starEach [e] X.env = (false, eval e X.env) :: starEach [] X.env := by rfl) : PMk X (.Call (.Name x p) [e] [] pos) (tMkE C n n0 te) :=
  pmk_oex (p := p) (pos := pos) (dvs := []) (ds := []) T iC tI F1 hr hb .nil hx hg hm (pa_cons he pa_nil hst) hdb hst
end Mi
/-! Mx, sixth part: defs that may raise; their mirrors hand back the error as a datum of its own shape. -/
namespace Mi
open PySem PySem.Spec PyProof.Rows L2
/-- the error of the i-th class, with its name and place: no value is represented so -/
def errD (i : Nat) (n : Str) (p : D) : D := .dict [(.none, .int i), (.str n, p)]
def errOf : D → Option (Nat × Str × D)
  | .dict [(.none, .int i), (.str n, p)] => some (i.toNat, n, p)
  | _ => none
@[simp] theorem errOf_err {i : Nat} {n : Str} {p : D} : errOf (errD i n p) = some (i, n, p) := by simp [errOf, errD]
theorem not_rp {K : PySem.W.Frag} {st : Option (Addr × Addr)} {B : Hp} {v : V} {i : Nat} {n : Str} {p : D} (h : Rp K st B v (errD i n p)) : False := by
  unfold errD at h
  cases h
theorem errOf_of {d : D} {i : Nat} {n : Str} {p : D} (h : d = errD i n p) : errOf d ≠ none := by
  subst h
  simp
/-- the mirror where no error comes -/
def noErr (f : FM) : FM := fun ds dr => (f ds dr).bind fun z => match errOf z.1 with
  | some _ => none
  | none => some z
section
variable (K : PySem.W.Frag) (ca : Nat → Addr) (n0 : Str)
def ErrTo (st : Option (Addr × Addr)) (R0 : Hp → Hp → Prop) (B : Hp) (d : D) (W : Value → Option Addr → Hp → Prop) : Prop := ∀ (i : Nat) (n : Str) (p : D), d = errD i n p → ∀ (B' H' : Hp) (v : V) (dx : Addr), Ext B B' → R0 B' H' → Rp K st B' v p → H' dx = none → W (.ref (ca i)) (some dx) (upd H' dx (.xd (errFs n n0 v)))
def AfterW (c : C) (B : Hp) (W : WX) (r : SR) (E : Ends) : Prop := After K c B r E ∧ ∀ d dr, r = .rt d dr → ∀ σ', ErrTo K ca n0 c.st (fun B' H' => Rel0 c B' H' dr) B d (fun cls dx H' => W cls dx σ' H')
def OkW (W : WX) (t : TS) (s : MT) : Prop := ∀ (c : C) (B : Hp) (σ : L2.St) (H : Hp) (μ : MS) (E : Ends), Rel K c B σ H μ → AfterW K ca n0 c B W (s μ) E → t E σ H
structure DR (X : Cx) (W : WX) (st : Stmt) (s : MT) : Prop where
  ex : ∃ t, PS X st t ∧ OkW X.K ca n0 W t s
structure DRs (X : Cx) (W : WX) (st : List Stmt) (s : MT) : Prop where
  ex : ∃ t, PSs X st t ∧ OkW X.K ca n0 W t s
def spX (n : Nat) (f : FM) : Sp := fun vs H Q E => vs.length = n ∧ ∃ (st : Option (Addr × Addr)) (B : Hp) (ds : List D) (dr : Dr) (d : D) (dr' : Dr), Rel0 ⟨st, H, B⟩ B H dr ∧ RpA K st B vs ds ∧ f ds dr = some (d, dr') ∧
  (∀ B' H' v, Ext B B' → Rel0 ⟨st, H, B⟩ B' H' dr' → Rp K st B' v d → Q v H') ∧ ErrTo K ca n0 st (fun B' H' => Rel0 ⟨st, H, B⟩ B' H' dr') B d E
end
theorem ErrTo.ext {K : PySem.W.Frag} {ca : Nat → Addr} {n0 : Str} {st : Option (Addr × Addr)} {R0 : Hp → Hp → Prop} {B B1 : Hp} {d : D} {W : Value → Option Addr → Hp → Prop} (h : ErrTo K ca n0 st R0 B d W) (e : Ext B B1) : ErrTo K ca n0 st R0 B1 d W :=
  fun i n p hd B' H' v dx e1 r hv hx => h i n p hd B' H' v dx (e.trans e1) r hv hx
theorem AfterW.ext {K : PySem.W.Frag} {ca : Nat → Addr} {n0 : Str} {c : C} {B B1 : Hp} {W : WX} {r : SR} {E : Ends} (h : AfterW K ca n0 c B W r E) (e : Ext B B1) : AfterW K ca n0 c B1 W r E := ⟨h.1.ext e, fun d dr hr σ' => (h.2 d dr hr σ').ext e⟩
section
variable {K : PySem.W.Frag} {ca : Nat → Addr} {n0 : Str} {X : Cx} {W : WX} {st : Stmt} {rest : List Stmt} {s t : MT} {pos : Pos}
theorem ps_nox {t : TS} (h : PS X.nox st t) : PS X st t := ⟨fun pins s σ H D I hw =>
  wpAny_mono (h.run pins s σ H D (I.wish _) hw) (fun _ _ q => q.unwish) fun _ _ z => False.elim z⟩
theorem pa_nox {es : List Expr} {t : TA} (h : PA X.nox es t) : PA X es t := ⟨fun pos pins s σ H Q I hw =>
  wpAny_mono (h.run pos pins s σ H Q (I.wish _) hw) (fun us s' hq => by
    obtain ⟨vs, H', I', r, q⟩ := hq
    exact ⟨vs, H', I'.unwish, r, q⟩) fun _ _ z => False.elim z⟩
theorem x_lift (h : DS X.nox st s) : DR ca n0 X W st s := by
  obtain ⟨t, p, o⟩ := h.ex
  exact ⟨t, ps_nox p, fun c B σ H μ E r a => o c B σ H μ E r a.1⟩
theorem xs_lift (h : DSs X.nox rest s) : DRs ca n0 X W rest s := by
  obtain ⟨t, p, o⟩ := h.ex
  exact ⟨t, p.nox, fun c B σ H μ E r a => o c B σ H μ E r a.1⟩
theorem xs_nil : DRs ca n0 X W [] sNil := ⟨_, pss_nil, fun c B σ H μ E r a => a.1 B σ H (Ext.refl _) r⟩
theorem okW_seq {t1 t2 : TS} (o1 : OkW K ca n0 W t1 s) (o2 : OkW K ca n0 W t2 t) : OkW K ca n0 W (tSeq t1 t2) (sSeq s t) := by
  intro c B σ H μ E r a
  refine o1 c B σ H μ _ r ?_
  unfold sSeq at a
  cases hs : s μ with
  | nx μ' =>
    rw [hs] at a
    exact ⟨fun B' σ' H' e' r' => o2 c B' σ' H' μ' E r' (a.ext e'), fun d dr hr => by cases hr⟩
  | rt d dr => rw [hs] at a; exact ⟨fun B' H' v => a.1 B' H' v, fun d' dr' hr => a.2 d' dr' hr⟩
  | bk μ' => rw [hs] at a; exact ⟨fun B' σ' H' => a.1 B' σ' H', fun d dr hr => by cases hr⟩
  | ct μ' => rw [hs] at a; exact ⟨fun B' σ' H' => a.1 B' σ' H', fun d dr hr => by cases hr⟩
  | bad => rw [hs] at a; exact a.1.elim
theorem xs_cons (h1 : DR ca n0 X W st s) (h2 : DRs ca n0 X W rest t) : DRs ca n0 X W (st :: rest) (sSeq s t) := by
  obtain ⟨t1, p1, o1⟩ := h1.ex
  obtain ⟨t2, p2, o2⟩ := h2.ex
  exact ⟨_, pss_cons p1 p2, okW_seq o1 o2⟩
theorem xs_one (h : DR ca n0 X W st s) : DRs ca n0 X W [st] s := by
  obtain ⟨t, p, o⟩ := h.ex
  exact ⟨_, pss_one p, o⟩
theorem x_if {cnd : Expr} {a b : List Stmt} {mc : M Bool} (hc : DT X.nox cnd mc) (ha : DRs ca n0 X W a s) (hb : DRs ca n0 X W b t) : DR ca n0 X W (.If cnd a b pos) (sIf mc s t) := by
  obtain ⟨tc, pc, oc⟩ := hc.ex
  obtain ⟨ta, pa, oa⟩ := ha.ex
  obtain ⟨tb, pb, ob⟩ := hb.ex
  refine ⟨_, ps_if pc.nox pa pb, fun c B σ H μ E r h => ?_⟩
  unfold sIf at h
  split at h
  · rename_i μ' hm
    refine oc c B σ H μ _ μ' _ r hm fun B' H' e' r' => ?_
    rw [if_pos rfl]
    exact oa c B' σ H' μ' E r' (h.ext e')
  · rename_i μ' hm
    refine oc c B σ H μ _ μ' _ r hm fun B' H' e' r' => ?_
    rw [if_neg Bool.false_ne_true]
    exact ob c B' σ H' μ' E r' (h.ext e')
  · exact h.1.elim
def sRaise (i : Nat) (n : Str) (m : M D) : MT := fun μ => match m μ with
  | some (d, μ') => .rt (errD i n d) μ'.dr
  | none => .bad
/-- raise C(e) -/
theorem x_raise {CX : CXT} {x n : Str} {i fI k : Nat} {fd : FuncData} {e : Expr} {m : M D} {p pos pos' : Pos} (hc : X.calm = true) (tk : Takes X W) (T : OexC X.K (ca i)) (iC : PySem.W.findIn X.K (.ref (ca i)) "__init__" = some (some (.ref fI))) (tI : PySem.W.typeIn X.K (.ref fI) = some (.type "function"))
    (F1 : FnOk X.prog X.w X.K X.mg X.base CX k fI fd ["self", "place"] (spSub (ca i) n n0)) (hr : Room (k + 1) X.A) (hb : Binds X.K fd ["self", "place"] []) (hx : Passes CX X (fun _ _ _ => False)) (hm : X.mg x = some (.ref (ca i))) (he : DE X.nox e m)
    (hg : Gl X x := by rfl) (hdb : (x == ("__debug__" : Str)) = false := by decide) (hst : starEach [e] X.env = (false, eval e X.env) :: starEach [] X.env := by rfl) : DR ca n0 X W (.Raise (some (.Call (.Name x p) [e] [] pos)) none pos') (sRaise i n m) := by
  obtain ⟨t, pt, o⟩ := he.ex
  refine ⟨_, ps_raise hc tk (pmk_err T iC tI F1 hr hb hx hg hm pt.nox hdb hst), fun c B σ H μ E r h => ?_⟩
  unfold sRaise at h
  split at h
  · rename_i d μ' hm'
    refine o c B σ H μ d μ' _ r hm' fun B' H' v e' r' hv => condE fun dx hdx => ?_
    exact h.2 _ _ rfl σ i n d rfl B' H' v dx e' r'.r0 hv hdx
  · exact h.1.elim
end
end Mi
/-! Mx, seventh part: calls of defs that may raise, such defs, try. -/
namespace Mi
open PySem PySem.Spec PyProof.Rows L2
theorem call_core {K : PySem.W.Frag} {c : C} {B H : Hp} {σ : L2.St} {μ : MS} {os : List O} {vs : List V} {ds : List D} (r1 : Rel K c B σ H μ) (hv : ORA K c.st B σ vs os) (hl : looks os μ = some ds) :
    ∃ B2, Ext B B2 ∧ Rel0 ⟨c.st, H, B2⟩ B2 H μ.dr ∧ RpA K c.st B2 vs ds ∧ ∀ (B3 H3 : Hp) (dr3 : Dr), Ext B2 B3 → Rel0 ⟨c.st, H, B2⟩ B3 H3 dr3 → Rel K c B3 σ H3 { frzA os μ with dr := dr3 } ∧ Rel K c B σ H3 { μ with dr := dr3 } := by
  obtain ⟨B2, e2, r2, hvs⟩ := frzA_ok r1 hv hl
  have dr2 : Rel0 ⟨c.st, H, B2⟩ B2 H μ.dr := by
    have q := r2.r0
    rw [frzA_dr] at q
    refine ⟨q.ext, fun a b e => ?_, fun a o e _ => e, fun a o e => .inl e, Ext.refl _⟩
    obtain ⟨z1, z2, z3, z4, z5, z6, z7⟩ := q.dr a b e
    exact ⟨z1, z2, z3, z4, z5, (fun z => by rw [show H a = none from z] at z2; cases z2), (fun z => by rw [show H b = none from z] at z3; cases z3)⟩
  refine ⟨B2, e2, dr2, hvs, fun B3 H3 dr3 e3 r3 => ?_⟩
  have noSt : ∀ a, (∃ o, H a = some o) → B2 a = none → B3 a = none := fun a ⟨o, ho⟩ hb => by
    cases q : B3 a with
    | none => rfl
    | some u =>
      rcases r3.nw a u q with z | z
      · have z' : B2 a = some u := z
        rw [hb] at z'; cases z'
      · have z' : H a = none := z
        rw [ho] at z'; cases z'
  have isSt : ∀ a, IsSt ⟨c.st, H, B2⟩ a → IsSt c a := fun a s => s
  have r0' : Rel0 c B3 H3 dr3 := by
    refine ⟨r3.ext, fun a b e => ?_, fun a o e s => ?_, fun a o e => ?_, (r2.r0.b0).trans e3⟩
    · obtain ⟨z1, z2, z3, z4, z5, z6, z7⟩ := r3.dr a b e
      obtain ⟨y1, y2, y3, y4, y5, y6, y7⟩ := r1.r0.dr a b e
      exact ⟨z1, z2, z3, z4, z5, y6, y7⟩
    · exact r3.fr a o (r1.r0.fr a o e s) fun z => s (isSt a z)
    · rcases r3.nw a o e with z | z
      · exact r2.r0.nw a o z
      · exact .inr (r1.r0.fresh z).1
  have own1 : ∀ {μ2 : MS} {B' : Hp}, Rel K c B' σ H μ2 → (Ext B' B2) → ∀ (i : Nat) (ds : Ob) (q : Addr), μ2.sl[i]? = some (.ow ds) → σ[i]? = some (some (.ref q)) → H3 q = H q := fun {μ2 B'} rr _ i ds q hi hs => by
    obtain ⟨q', ws, f1, f2, f3, f4, f5⟩ := rr.owAt hi
    rw [hs] at f1; cases f1
    rw [f2]
    exact r3.fr q _ f2 fun z => by
      obtain ⟨_, _, zz⟩ := (isSt q z).some rr.r0.dr
      exact zz f4
  constructor
  · refine r2.move r0' e3 fun i ds q hi hs => ⟨own1 r2 (Ext.refl _) i ds q hi hs, ?_⟩
    obtain ⟨q', ws, f1, f2, f3, f4, f5⟩ := r2.owAt hi
    rw [hs] at f1; cases f1
    exact noSt q ⟨_, f2⟩ f3
  · refine r1.move ⟨(e2.trans e3).trans r3.ext, fun a b e => ?_, r0'.fr, r1.r0.nw, r1.r0.b0⟩ (Ext.refl _) fun i ds q hi hs => ⟨own1 r1 e2 i ds q hi hs, ?_⟩
    · obtain ⟨z1, z2, z3, z4, z5, z6, z7⟩ := r0'.dr a b e
      exact ⟨z1, z2, z3, (e2.trans e3).none z4, (e2.trans e3).none z5, z6, z7⟩
    · obtain ⟨q', ws, f1, f2, f3, f4, f5⟩ := r1.owAt hi
      rw [hs] at f1; cases f1
      exact f3
theorem ora_len {K : PySem.W.Frag} {st : Option (Addr × Addr)} {B : Hp} {σ : L2.St} : ∀ {vs : List V} {os : List O}, ORA K st B σ vs os → vs.length = os.length
  | _, _, .nil => rfl
  | _, _, .cons _ t => by simp [ora_len t]
/-- the state behind a call -/
def behind (os : List O) (μ : MS) (d : D) (dr : Dr) : MS := if flat d = true then { μ with dr := dr } else { frzA os μ with dr := dr }
/-- f(..) as a statement, f may raise -/
def sCallX (f : FM) (ma : M (List O)) : MT := fun μ => match (ma μ).bind fun p => (looks p.1 p.2).bind fun ds => (f ds p.2.dr).bind fun z => some (p, z) with
  | some ((os, μ1), (d, dr)) => match errOf d with
    | some _ => .rt d dr
    | none => .nx (behind os μ1 d dr)
  | none => .bad
/-- try: f(..) except C: su -/
def sTry (f : FM) (ma : M (List O)) (i : Nat) (su : MT) : MT := fun μ => match (ma μ).bind fun p => (looks p.1 p.2).bind fun ds => (f ds p.2.dr).bind fun z => some (p, z) with
  | some ((os, μ1), (d, dr)) => match errOf d with
    | some (j, _, _) => if j = i then su { frzA os μ1 with dr := dr } else .bad
    | none => .nx (behind os μ1 d dr)
  | none => .bad
section
variable {K : PySem.W.Frag} {ca : Nat → Addr} {n0 : Str}
theorem flat_noErr {d : D} (f : flat d = true) : errOf d = none := by
  cases d <;> simp [flat] at f <;> rfl
/-- the promise of a def that may raise, met -/
theorem spX_of {c : C} {B H : Hp} {σ : L2.St} {μ : MS} {os : List O} {vs : List V} {ds : List D} {n : Nat} {f : FM} {d : D} {dr : Dr} {Q : VK} {E : XK} (r1 : Rel K c B σ H μ) (hv : ORA K c.st B σ vs os) (hl : looks os μ = some ds) (hn : os.length = n) (hf : f ds μ.dr = some (d, dr))
    (hQ : errOf d = none → ∀ B' H' v, Ext B B' → Rel K c B' σ H' (behind os μ d dr) → Rp K c.st B' v d → Q v H')
    (hE : ErrTo K ca n0 c.st (fun B' H' => Rel K c B' σ H' { frzA os μ with dr := dr }) B d E) : spX K ca n0 n f vs H Q E := by
  obtain ⟨B2, e2, r0, hvs, back⟩ := call_core r1 hv hl
  refine ⟨by rw [ora_len hv]; exact hn, c.st, B2, ds, μ.dr, d, dr, r0, hvs, hf, fun B' H' v e' r' hv' => ?_, fun i nm p hd B' H' v dx e' r' hv' hx => ?_⟩
  · have hne : errOf d = none := by
      cases h : errOf d with
      | none => rfl
      | some q =>
        exfalso
        unfold errOf at h
        split at h
        · cases hv'
        · cases h
    obtain ⟨b1, b2⟩ := back B' H' dr e' r'
    unfold behind at hQ
    by_cases hfl : flat d = true
    · rw [if_pos hfl] at hQ
      exact hQ hne B H' v (Ext.refl _) b2 (hv'.flat_any hfl)
    · rw [if_neg hfl] at hQ
      exact hQ hne B' H' v (e2.trans e') b1 hv'
  · exact hE i nm p hd B' H' v dx (e2.trans e') (back B' H' dr e' r').1 hv' hx
end
end Mi
/-! Mx, eighth part: the rules. -/
namespace Mi
open PySem PySem.Spec PyProof.Rows L2
/-- readings made of mirrors -/
def tAr (K : PySem.W.Frag) (m : M (List O)) : TA := fun σ H Q => ∃ c B μ os μ', Rel K c B σ H μ ∧ m μ = some (os, μ') ∧ ∀ B' H' vs, Ext B B' → Rel K c B' σ H' μ' → ORA K c.st B' σ vs os → Q vs H'
def tSr (K : PySem.W.Frag) (s : MT) : TS := fun E σ H => ∃ c B μ, Rel K c B σ H μ ∧ After K c B (s μ) E
section
variable {X : Cx} {es : List Expr} {st : List Stmt}
theorem DA.pa {m : M (List O)} (h : DA X es m) : PA X es (tAr X.K m) := by
  obtain ⟨t, p, o⟩ := h.ex
  exact ⟨fun pos pins s σ H Q I ⟨c, B, μ, os, μ', r, hm, k⟩ => p.run pos pins s σ H Q I (o c B σ H μ os μ' Q r hm k)⟩
theorem DSs.pss {s : MT} (h : DSs X st s) : PSs X st (tSr X.K s) := by
  obtain ⟨t, p, o⟩ := h.ex
  exact ⟨fun pins s' σ H D I ⟨c, B, μ, r, a⟩ => p.run pins s' σ H D I (o c B σ H μ D r a)⟩
end
theorem passX {X : Cx} {P : Program} {w : World} : Passes (L2.CX P w) X (fun _ _ _ => False) := fun pins σ H s e s' I h => by
  obtain ⟨_, _, _, _, _, _, _, _, _, _, _, _, h⟩ := h
  exact h.elim
theorem noCX {P : Program} {w : World} : ∀ outer H s e s', ¬ L2.CX P w outer H s (fun _ _ _ => False) e s' := fun outer H s e s' h => by
  obtain ⟨_, _, _, _, _, _, _, _, _, _, _, _, h⟩ := h
  exact h
section
variable {ca : Nat → Addr} {n0 : Str} {X : Cx} {W : WX} {k n : Nat} {f : Addr} {fd : FuncData} {ps : List Str} {fm : FM} {x : Str} {p pos pos' : Pos} {e : Expr} {es : List Expr} {m : M (List O)}
theorem noErr_some {fm : FM} {ds : List D} {dr : Dr} {z : D × Dr} (h : noErr fm ds dr = some z) : fm ds dr = some z ∧ errOf z.1 = none := by
  unfold noErr at h
  simp only [Option.bind_eq_some_iff] at h
  obtain ⟨z', h1, h2⟩ := h
  split at h2
  · cases h2
  · rename_i h3
    cases h2
    exact ⟨h1, h3⟩
/-- where no error comes, it is a def as any -/
theorem fnX_no {P : Program} {w : World} {K : PySem.W.Frag} {mg : Str → Option Value} {base : Heap} {CX : CXT} (F : FnOk P w K mg base CX k f fd ps (spX K ca n0 n fm)) : FnOk P w K mg base CX k f fd ps (spM K n (noErr fm)) :=
  F.imp fun vs H Q E h => by
    obtain ⟨hl, st, B, ds, dr, d, dr', r0, hv, hf, kq⟩ := h
    obtain ⟨h1, h2⟩ := noErr_some hf
    refine ⟨hl, st, B, ds, dr, d, dr', r0, hv, h1, kq, fun i nm p hd => ?_⟩
    exact absurd h2 (errOf_of hd)
/-- f(..) as a statement of a def that may raise -/
theorem x_call (F : FnOk X.prog X.w X.K X.mg X.base (L2.CX X.prog X.w) k f fd ps (spX X.K ca n0 n fm)) (hr : Room k X.A) (tk : Takes X W) (hm : X.mg x = some (.ref f)) (hk : PySem.W.keepIn X.K (.ref f) = true) (hb : Binds X.K fd ps [])
    (ha : DA X.nox (e :: es) m) (hl : ∀ (μ : MS) (os : List O) (μ' : MS), m μ = some (os, μ') → os.length = n) (hg : Gl X x := by rfl) (hdb : (x == ("__debug__" : Str)) = false := by decide) (he : starEach (e :: es) X.env = (false, eval e X.env) :: starEach es X.env := by rfl) (hpl : (backTo pos (starEach es X.env)).any (·.1) = false := by rfl)
    (hs : swapsWith (.Call (.Name x p) (e :: es) [] pos) none pos'.line X.env = pure false := by rfl) : DR ca n0 X W (.Expr (.Call (.Name x p) (e :: es) [] pos) pos') (sCallX fm m) := by
  refine ⟨_, ps_expr (pe_callS F hr hg hm hk hb (fun σ => passAt tk σ) (pa_nox ha.pa) hdb he hpl) hs, fun c B σ H μ E r h => ?_⟩
  unfold sCallX at h
  split at h
  · rename_i os μ1 d dr hz
    simp only [Option.bind_eq_some_iff] at hz
    obtain ⟨⟨os', μ1'⟩, h1, ds, h2, ⟨d', dr'⟩, h3, h4⟩ := hz
    cases h4
    refine ⟨c, B, μ, os, μ1, r, h1, fun B1 H1 vs e1 r1 hv => spX_of r1 hv h2 (hl _ _ _ h1) h3 (fun hne B' H' v e' r' hv' => ?_) fun i nm pl hd B' H' v dx e' r' hv' hx => ?_⟩
    · rw [hne] at h
      exact h.1 B' σ H' (e1.trans e') r'
    · subst hd
      rw [errOf_err] at h
      exact h.2 _ _ rfl σ i nm pl rfl B' H' v dx (e1.trans e') r'.r0 hv' hx
  · exact h.1.elim
/-- a def that may raise, from its body -/
theorem fn_okX {P : Program} {w : World} {K : PySem.W.Frag} {mg : Str → Option Value} {base : Heap} {qual : Str} {st : Stmt} {N : List Str} {body : MT} (F : Fun K x qual st f fd) (S : FnScope N ps (defScope st)) (hN : ps.length ≤ N.length)
    (h : ∀ (cdv : Value) (A : Around) (outer : List Env) (s : Shared) (H : Hp) (E : XK), Room k (A.deeper (envOfC qual (defScope st) s.heap.objs.size f cdv)) → DRs ca n0 (cxOf (L2.CX P w) P w K mg base N qual (defScope st) f cdv A outer s H E) (fun cls d _ H => E cls d H) (defBody st) body) :
    FnOk P w K mg base (L2.CX P w) (k + 1) f fd ps (spX K ca n0 ps.length (fnM N.length body)) := by
  refine F.okX S (fun vs H Q E h => h.1) fun cdv A outer s H vs Q E hr hsp => ?_
  obtain ⟨t, pt, o⟩ := (h cdv A outer s H E hr).ex
  refine ⟨t, pt, ?_⟩
  obtain ⟨hlen, sst, B, ds, dr, d, dr', r0, hv, hm, kq, ke⟩ := hsp
  refine o ⟨sst, H, B⟩ B _ H _ _ (start_rel r0 hv (by omega)) ?_
  unfold fnM at hm
  split at hm
  · rename_i μ hb
    cases hm
    rw [hb]
    exact ⟨fun B' σ' H' e' r' => kq B' H' _ e' r'.r0 .non, fun d dr hr => by cases hr⟩
  · rename_i d2 dr2 hb
    cases hm
    rw [hb]
    exact ⟨fun B' H' v e' r' hv' => kq B' H' v e' r' hv', fun d dr hr σ' => by cases hr; exact ke⟩
  · cases hm
/-- try: f(..) except C: su -/
theorem s_try {i : Nat} {cn : Str} {b0 : Stmt} {suite : List Stmt} {np hp tp : Pos} {su : MT} (F : FnOk X.prog X.w X.K X.mg X.base (L2.CX X.prog X.w) k f fd ps (spX X.K ca n0 n fm)) (hr : Room k X.A) (hm : X.mg x = some (.ref f)) (hk : PySem.W.keepIn X.K (.ref f) = true) (hb : Binds X.K fd ps [])
    (ha : ∀ pn xe, DA (X.tr pn xe).nox (e :: es) m) (hl : ∀ (μ : MS) (os : List O) (μ' : MS), m μ = some (os, μ') → os.length = n) (hcn : X.mg cn = some (.ref (ca i))) (hex : PySem.W.exmOne X.K (.ref (ca i)) (.ref (ca i)) = some true)
    (hsu : ∀ a oe pn, DSs (X.suite a ((a, oe) :: pn)) (b0 :: suite) su) (hgc : Gl X cn := by rfl) (hdc : (cn == ("__debug__" : Str)) = false := by decide) (hst : X.stack = X.env :: X.outer := by rfl) (hfr : X.env.frame = some X.env.locals := by rfl)
    (hg : Gl X x := by rfl) (hdb : (x == ("__debug__" : Str)) = false := by decide) (he : starEach (e :: es) X.env = (false, eval e X.env) :: starEach es X.env := by rfl) (hpl : (backTo pos (starEach es X.env)).any (·.1) = false := by rfl)
    (hs : swapsWith (.Call (.Name x p) (e :: es) [] pos) none pos'.line X.env = pure false := by rfl) :
    DS X (.Try [.Expr (.Call (.Name x p) (e :: es) [] pos) pos'] [.ExceptHandler (some (.Name cn np)) none (b0 :: suite) hp] [] [] tp) (sTry fm m i su) := by
  have tk0 : Takes X (fun _ _ _ _ => False) := fun u s' z => by
    obtain ⟨a, B, sI, pins, σ, H, cls, d, _, _, _, _, _, _, _, _, z⟩ := z
    exact z.elim
  refine ⟨_, ps_try_only (tb := fun W D σ H => tCallS (spX X.K ca n0 n fm) (WE W) (tAr X.K m) σ H fun _ H2 => D.nx σ H2) (ts := fun _ _ _ => tSr X.K su) hst hfr ⟨hgc, hdc, .inl hcn⟩ tk0 (fun W pn xe tk _ => pss_one (ps_expr (pe_callS (X := X.tr pn xe) F hr hg hm hk hb (fun σ => passAt tk σ) (pa_nox (ha pn xe).pa) hdb he hpl) hs)) (fun a oe cls d pn hz hd => (hsu a oe pn).pss), fun c B σ H μ E r h => ?_⟩
  unfold sTry at h
  split at h
  · rename_i os μ1 d dr hz
    simp only [Option.bind_eq_some_iff] at hz
    obtain ⟨⟨os', μ1'⟩, h1, ds, h2, ⟨d', dr'⟩, h3, h4⟩ := hz
    cases h4
    refine ⟨c, B, μ, os, μ1, r, h1, fun B1 H1 vs e1 r1 hv => spX_of r1 hv h2 (hl _ _ _ h1) h3 (fun hne B' H' v e' r' hv' => ?_) fun j nm pl hd B' H' v dx e' r' hv' hx => ?_⟩
    · rw [hne] at h
      exact h B' σ H' (e1.trans e') r'
    · subst hd
      rw [errOf_err] at h
      simp only at h
      split at h
      · rename_i hj
        subst hj
        exact ⟨true, hex, fun _ a0 ha0 => ⟨c, B', _, r'.hide hx, h.ext (e1.trans e')⟩, fun z => by cases z⟩
      · exact h.elim
  · exact h.elim
end
end Mi
/-! Mx, ninth part: what the written part says of an own error over CutError-like ones. -/
namespace Mi
open PySem PySem.Spec PyProof.Rows L2 NdefX
/-- the __init__ of a class statement -/
def clsInit (s : Stmt) : Stmt := match s with
  | .ClassDef _ _ _ b _ _ _ _ _ _ _ => b.getD 0 (.Pass ⟨0, 0, 0, 0⟩)
  | _ => .Pass ⟨0, 0, 0, 0⟩
abbrev nfOf (q : Str) (st : Stmt) (cc cd : Addr) : NF := { name := "__init__", qual := q, params := defArgs (clsInit st), body := defBody (clsInit st), scope := defScope (clsInit st), cl := [(("__class__" : Str), cc)], c := cd }
/-- the base class B and its __init__ -/
structure CutTxt (P : Program) (K : PySem.W.Frag) (B fB : Addr) (n0 q : Str) (st : Stmt) : Prop where
  ex : ∃ (cc cd : Addr) (oc doc pm ctv : Value) (od : Option Addr) (sl : Array (Option Value)), InitTxt P K B fB cc (nfOf q st cc cd) ∧ K.lookup fB = some (⟨oc, od, .func ((nfOf q st cc cd).fd doc pm ctv), sl⟩ : Obj)
  ty : PySem.W.typeIn K (.ref fB) = some (.type "function")
  fn : PySem.W.fnIn K fB = true
structure SubTxt (P : Program) (K : PySem.W.Frag) (mg : Str → Option Value) (B fB C fC : Addr) (n q : Str) (st : Stmt) : Prop where
  ex : ∃ (cc cd : Addr) (oc doc pm ctv : Value) (od : Option Addr) (sl : Array (Option Value)), InitTxt P K C fC cc (nfOf q st cc cd) ∧ K.lookup fC = some (⟨oc, od, .func ((nfOf q st cc cd).fd doc pm ctv), sl⟩ : Obj)
  mC : mg n = some (.ref C)
  oex : OexC K C
  iC : PySem.W.findIn K (.ref C) "__init__" = some (some (.ref fC))
  ty : PySem.W.typeIn K (.ref fC) = some (.type "function")
  u1 : UpTxt K C C (.ref fB)
  u2 : UpTxt K C B (.builtin "ValueError.__init__")
  nt : NoTxt K C
  exm : PySem.W.exmOne K (.ref C) (.ref C) = some true
theorem oexC_mk {K : PySem.W.Frag} {C N : Addr} {nm q : Str} {bs bm sub : List Value} {sn : List Str} {ab : Bool} {col : Option Bool} {dd : Option Addr} {k0 k1 k2 k3 k5 : Option Value} (h1 : K.lookup C = some (excClassObj nm q C N bs bm true sn sub ab col dd k0 k1 k2 k3 k5 "ValueError.__new__")) (h2 : PySem.HandSPX.refsVE bm = true)
    (h3 : PySem.W.findIn K (.ref C) "__setattr__" = some (some (.builtin "object.__setattr__"))) (h4 : PySem.W.subIn K (.ref C) (.type "BaseException") = some true) (h5 : PySem.W.typeIn K (.ref C) = some (.type "type")) (h6 : PySem.W.keepIn K (.ref C) = true) : OexC K C :=
  ⟨⟨nm, q, N, bs, bm, sn, sub, ab, col, dd, k0, k1, k2, k3, k5, h1, h2⟩, h3, h4, h5, h6⟩
theorem clsIn_mk {K : PySem.W.Frag} {C N : Addr} {nm q : Str} {bs bm sub : List Value} {sn : List Str} {ab : Bool} {col : Option Bool} {dd : Option Addr} {k0 k1 k2 k3 k5 : Option Value} {hd : Bool} {nw : String} (h1 : K.lookup C = some (excClassObj nm q C N bs bm hd sn sub ab col dd k0 k1 k2 k3 k5 nw)) : ∃ cd, PySem.W.clsIn K C = some cd := by
  unfold PySem.W.clsIn
  rw [h1]
  exact ⟨_, rfl⟩
/-- an error of the class is caught by the class; by a class above -/
theorem exm_mk {K : PySem.W.Frag} {S C : Addr} (h1 : PySem.W.subIn K (.ref S) (.type "BaseException") = some true) (h2 : ∃ cd, PySem.W.clsIn K S = some cd) (h3 : PySem.W.typeIn K (.ref S) = some (.type "type")) (h4 : PySem.W.subIn K (.ref C) (.ref S) = some true) :
    PySem.W.exmOne K (.ref C) (.ref S) = some true := by
  obtain ⟨cd, h2⟩ := h2
  unfold PySem.W.exmOne PySem.W.kitCls
  simp only [h1, h2, h3, h4, beq_self_eq_true, Option.isSome_some, Bool.and_self, if_true]
/-- the __init__ that such a class runs: its promise -/
theorem err_ok {P : Program} {w : World} {K : PySem.W.Frag} {mg : Str → Option Value} {base : Heap} {B fB C fC : Addr} {n n0 q q0 : Str} {st st0 : Stmt} (T0 : CutTxt P K B fB n0 q0 st0) (T : SubTxt P K mg B fB C fC n q st) (hsp : mg "super" = none)
    {p0 p1 p2 p3 pos pos' a1 a2 a3 a4 b1 b2 b4 b5 : Pos} {b3 : Nat} {pl : Sem Bool}
    (hb0 : defBody (clsInit st0) = [.Expr (supE p0 p1 p2 p3 pos) pos', .Assign [.Attribute (.Name "self" a1) "place" a2] (.Name "place" a3) a4, .Assign [.Attribute (.Name "self" b1) "name" b2] (.Constant (.str n0) b3 b4) b5])
    (he0 : ∀ env, SupEq env p0 p1 p2 p3 pos pl)
    {s0 s1 s2 s3 so so' d1 d2 d4 d5 : Pos} {d3 : Nat} {pl' : Sem Bool}
    (hb1 : defBody (clsInit st) = [.Expr (supE s0 s1 s2 s3 so) so', .Assign [.Attribute (.Name "self" d1) "name" d2] (.Constant (.str n) d3 d4) d5])
    (he1 : ∀ env, SupEq env s0 s1 s2 s3 so pl')
    (bi0 : ∀ (cc cd : Addr) (doc pm ctv : Value) (us : List Value), us.length = 2 → bindArgs ((nfOf q0 st0 cc cd).fd doc pm ctv) ⟨us, []⟩ = pure ([("self" : Str), "place"].zip us))
    (bi1 : ∀ (cc cd : Addr) (doc pm ctv : Value) (us : List Value), us.length = 2 → bindArgs ((nfOf q st cc cd).fd doc pm ctv) ⟨us, []⟩ = pure ([("self" : Str), "place"].zip us)) :
    ∃ fd, FnOk P w K mg base (L2.CX P w) 2 fC fd ["self", "place"] (spSub C n n0) ∧ Binds K fd ["self", "place"] [] := by
  obtain ⟨cc0, cd0, oc0, doc0, pm0, ctv0, od0, sl0, I0, L0⟩ := T0.ex
  obtain ⟨cc1, cd1, oc1, doc1, pm1, ctv1, od1, sl1, I1, L1⟩ := T.ex
  have G0 : FnOk P w K mg base (L2.CX P w) 1 fB ((nfOf q0 st0 cc0 cd0).fd doc0 pm0 ctv0) ["self", "place"] (spCut K B n0) := cut_ok (k := 0) I0 L0 hsp hb0 (fun L => he0 _)
  exact ⟨_, sub_ok (k := 1) I1 L1 hsp T.u1 T.u2 T.nt T0.ty T0.fn G0 (.all (bi0 cc0 cd0 doc0 pm0 ctv0)) noCX hb1 (fun L => he1 _), .all (bi1 cc1 cd1 doc1 pm1 ctv1)⟩
end Mi
/-! Mx, tenth part: try: f(..) except C as n: suite; what the suite says of the error. -/
namespace Mi
open PySem PySem.Spec PyProof.Rows L2
/-- what is known of the caught error in a suite: in slot i, at a, with class C, names n n0 and the place p -/
structure Caught (K : PySem.W.Frag) (C : Addr) (n n0 : Str) (i : Nat) (a : Addr) (cls : Value) (d : Option Addr) (p : D) (c : Mi.C) (σ : L2.St) : Prop where
  ex : ∃ (v : V) (dx : Addr), σ[i]? = some (some (.ref a)) ∧ d = some dx ∧ cls = .ref C ∧ c.B0 dx = some (.xd (errFs n n0 v)) ∧ Rp K c.st c.B0 v p
abbrev Phi := Mi.C → L2.St → Prop
structure QE (X : Cx) (Φ : Phi) (e : Expr) (m : M D) : Prop where
  ex : ∃ t, PE X e t ∧ ∀ (c : C) (B : Hp) (σ : L2.St) (H : Hp) (μ : MS) (d : D) (μ' : MS) (Q : VK), Φ c σ → Rel X.K c B σ H μ → m μ = some (d, μ') → Post X.K c B σ μ' d Q → t σ H Q
structure QT (X : Cx) (Φ : Phi) (e : Expr) (m : M Bool) : Prop where
  ex : ∃ t, PT X e t ∧ ∀ (c : C) (B : Hp) (σ : L2.St) (H : Hp) (μ : MS) (b : Bool) (μ' : MS) (Q : Bool → Hp → Prop), Φ c σ → Rel X.K c B σ H μ → m μ = some (b, μ') → (∀ B' H', Ext B B' → Rel X.K c B' σ H' μ' → Q b H') → t σ H Q
structure QW (X : Cx) (Φ : Phi) (e : Expr) (m : M Bool) : Prop where
  ex : ∃ t, PW X e t ∧ ∀ (c : C) (B : Hp) (σ : L2.St) (H : Hp) (μ : MS) (b : Bool) (μ' : MS) (Q : Bool → Hp → Prop), Φ c σ → Rel X.K c B σ H μ → m μ = some (b, μ') → (∀ B' H', Ext B B' → Rel X.K c B' σ H' μ' → Q b H') → t σ H Q
structure QS (X : Cx) (Φ : Phi) (st : Stmt) (s : MT) : Prop where
  ex : ∃ t, PS X st t ∧ ∀ (c : C) (B : Hp) (σ : L2.St) (H : Hp) (μ : MS) (E : Ends), Φ c σ → Rel X.K c B σ H μ → After X.K c B (s μ) E → t E σ H
structure QSs (X : Cx) (Φ : Phi) (st : List Stmt) (s : MT) : Prop where
  ex : ∃ t, PSs X st t ∧ ∀ (c : C) (B : Hp) (σ : L2.St) (H : Hp) (μ : MS) (E : Ends), Φ c σ → Rel X.K c B σ H μ → After X.K c B (s μ) E → t E σ H
section
variable {X : Cx} {Φ : Phi} {a b cn : Expr} {rest : List Expr} {pos : Pos} {m n k : M D} {mt nt : M Bool} {st : Stmt} {sts : List Stmt} {s t : MT}
theorem q_e (h : DE X a m) : QE X Φ a m := by
  obtain ⟨t, p, o⟩ := h.ex
  exact ⟨t, p, fun c B σ H μ d μ' Q _ => o c B σ H μ d μ' Q⟩
theorem q_t (h : DT X a mt) : QT X Φ a mt := by
  obtain ⟨t, p, o⟩ := h.ex
  exact ⟨t, p, fun c B σ H μ d μ' Q _ => o c B σ H μ d μ' Q⟩
theorem q_s (h : DS X st s) : QS X Φ st s := by
  obtain ⟨t, p, o⟩ := h.ex
  exact ⟨t, p, fun c B σ H μ E _ => o c B σ H μ E⟩
theorem q_ss (h : DSs X sts s) : QSs X Φ sts s := by
  obtain ⟨t, p, o⟩ := h.ex
  exact ⟨t, p, fun c B σ H μ E _ => o c B σ H μ E⟩
theorem q_one {op} (h : QE X Φ a m) : QE X Φ (.BoolOp op [a] pos) m := by
  obtain ⟨t, ht, ok⟩ := h.ex
  exact ⟨t, pe_one ht, ok⟩
theorem q_and (h : QE X Φ a m) (h2 : QE X Φ (.BoolOp .And (b :: rest) pos) n) : QE X Φ (.BoolOp .And (a :: b :: rest) pos) (eAnd m n) := by
  obtain ⟨t, ht, ok⟩ := h.ex
  obtain ⟨t2, ht2, ok2⟩ := h2.ex
  refine ⟨_, pe_andT ht ht2, fun c B σ H μ d μ' Q ph rel hm k => ?_⟩
  unfold eAnd at hm
  simp only [Option.bind_eq_some_iff] at hm
  obtain ⟨⟨d1, μ1⟩, h1, b1, h3, h4⟩ := hm
  refine ok c B σ H μ d1 μ1 _ ph rel h1 fun B1 H1 x e1 r1 x1 => ⟨b1, truth_ok (.of x1) r1.r0.ext h3, ?_⟩
  cases b1 with
  | true =>
    rw [if_pos rfl] at h4 ⊢
    exact ok2 c B1 σ H1 μ1 d μ' Q ph r1 h4 (k.ext e1)
  | false =>
    rw [if_neg Bool.false_ne_true] at h4 ⊢
    cases h4
    exact k B1 H1 x e1 r1 x1
theorem q_if (h : QT X Φ cn mt) (ha : QE X Φ a n) (hb : QE X Φ b k) : QE X Φ (.IfExp cn a b pos) (eIf mt n k) := by
  obtain ⟨t, ht, ok⟩ := h.ex
  obtain ⟨ta, pa, oa⟩ := ha.ex
  obtain ⟨tb, pb, ob⟩ := hb.ex
  refine ⟨_, pe_ifExp ht pa pb, fun c B σ H μ d μ' Q ph rel hm kk => ?_⟩
  unfold eIf at hm
  simp only [Option.bind_eq_some_iff] at hm
  obtain ⟨⟨b1, μ1⟩, h1, h3⟩ := hm
  refine ok c B σ H μ b1 μ1 _ ph rel h1 fun B1 H1 e1 r1 => ?_
  cases b1 with
  | true =>
    rw [if_pos rfl] at h3 ⊢
    exact oa c B1 σ H1 μ1 d μ' Q ph r1 h3 (kk.ext e1)
  | false =>
    rw [if_neg Bool.false_ne_true] at h3 ⊢
    exact ob c B1 σ H1 μ1 d μ' Q ph r1 h3 (kk.ext e1)
/-- a value as a test -/
theorem q_truth (h : QE X Φ a m) (he : ∀ whole, isTrue a X.env whole = (do let v ← whole; standAt a.pos; holding [v] (truthy v)) := by intro _; rfl) : QT X Φ a (mTruth (oVal m)) := by
  obtain ⟨t, ht, ok⟩ := h.ex
  refine ⟨_, pt_truth ht he, fun c B σ H μ b μ' Q ph rel hm k => ?_⟩
  obtain ⟨o, d, h1, h2, h3⟩ := mTruth_some hm
  unfold oVal at h1
  simp only [Option.bind_eq_some_iff] at h1
  obtain ⟨⟨d1, μ1⟩, g1, g2⟩ := h1
  cases g2
  cases h2
  refine ok c B σ H μ _ _ _ ph rel g1 fun B1 H1 x e1 r1 x1 => ?_
  exact ⟨b, truth_ok (.of x1) r1.r0.ext h3, k B1 H1 e1 r1⟩
theorem q_w (h : QW X Φ a mt) : QT X Φ a mt := by
  obtain ⟨t, ht, ok⟩ := h.ex
  exact ⟨t, ht.pt, ok⟩
theorem q_wand1 (h : QT X Φ a mt) : QW X Φ (.BoolOp .And [a] pos) mt := by
  obtain ⟨t, ht, ok⟩ := h.ex
  exact ⟨t, pw_and1 ht, ok⟩
theorem q_wor1 (h : QT X Φ a mt) : QW X Φ (.BoolOp .Or [a] pos) mt := by
  obtain ⟨t, ht, ok⟩ := h.ex
  exact ⟨t, pw_or1 ht, ok⟩
theorem q_wand (h : QT X Φ a mt) (h2 : QW X Φ (.BoolOp .And (b :: rest) pos) nt) : QW X Φ (.BoolOp .And (a :: b :: rest) pos) (bAnd mt nt) := by
  obtain ⟨t, ht, ok⟩ := h.ex
  obtain ⟨t2, ht2, ok2⟩ := h2.ex
  refine ⟨_, pw_and ht ht2, fun c B σ H μ b μ' Q ph rel hm k => ?_⟩
  unfold bAnd at hm
  simp only [Option.bind_eq_some_iff] at hm
  obtain ⟨⟨b1, μ1⟩, h1, h3⟩ := hm
  refine ok c B σ H μ b1 μ1 _ ph rel h1 fun B1 H1 e1 r1 => ?_
  cases b1 with
  | true =>
    rw [if_pos rfl] at h3 ⊢
    exact ok2 c B1 σ H1 μ1 b μ' Q ph r1 h3 fun B2 H2 e2 r2 => k B2 H2 (e1.trans e2) r2
  | false =>
    rw [if_neg Bool.false_ne_true] at h3 ⊢
    cases h3
    exact k B1 H1 e1 r1
theorem q_wor (h : QT X Φ a mt) (h2 : QW X Φ (.BoolOp .Or (b :: rest) pos) nt) : QW X Φ (.BoolOp .Or (a :: b :: rest) pos) (bOr mt nt) := by
  obtain ⟨t, ht, ok⟩ := h.ex
  obtain ⟨t2, ht2, ok2⟩ := h2.ex
  refine ⟨_, pw_or ht ht2, fun c B σ H μ b μ' Q ph rel hm k => ?_⟩
  unfold bOr at hm
  simp only [Option.bind_eq_some_iff] at hm
  obtain ⟨⟨b1, μ1⟩, h1, h3⟩ := hm
  refine ok c B σ H μ b1 μ1 _ ph rel h1 fun B1 H1 e1 r1 => ?_
  cases b1 with
  | true =>
    rw [if_pos rfl] at h3 ⊢
    cases h3
    exact k B1 H1 e1 r1
  | false =>
    rw [if_neg Bool.false_ne_true] at h3 ⊢
    exact ok2 c B1 σ H1 μ1 b μ' Q ph r1 h3 fun B2 H2 e2 r2 => k B2 H2 (e1.trans e2) r2
/-- left side: of the error -/
theorem ok_q2 {r : R2} {g : D → D → Option D} {ta tb : TE} {mb : M O} (hr : Op2 X.K r g) (oa : ∀ (c : C) (B : Hp) (σ : L2.St) (H : Hp) (μ : MS) (d : D) (μ' : MS) (Q : VK), Φ c σ → Rel X.K c B σ H μ → m μ = some (d, μ') → Post X.K c B σ μ' d Q → ta σ H Q) (ob : OkO X.K tb mb) :
    ∀ (c : C) (B : Hp) (σ : L2.St) (H : Hp) (μ : MS) (d : D) (μ' : MS) (Q : VK), Φ c σ → Rel X.K c B σ H μ → m2 g (oVal m) mb μ = some (d, μ') → Post X.K c B σ μ' d Q → tOp r ta tb σ H Q := by
  intro c B σ H μ z μ' Q ph rel hm k
  unfold m2 oVal at hm
  simp only [Option.bind_eq_some_iff] at hm
  obtain ⟨⟨o1, μ1⟩, ⟨⟨d0, μ0⟩, h0, e0⟩, ⟨o2, μ2⟩, h2, d, h3, e, h4, z', h5, h6⟩ := hm
  cases h6
  cases e0
  refine oa c B σ H μ d0 μ0 _ ph rel h0 fun B1 H1 x e1 r1 x1 => ?_
  refine ob c B1 σ H1 μ0 o2 _ _ r1 h2 fun B2 H2 y e2 r2 y2 => ?_
  cases h3
  exact hr c B2 σ H2 _ x y _ e z Q r2 (.of (Rp.mono e2 _ _ x1)) (look_ok r2 y2 h4) h5 (k.ext (e1.trans e2))
theorem q_cm {op : CmpOp} {g : D → D → Option D} {mb : M O} (h : CmpR X op g) (ha : QE X Φ a m) (hb : DO X b mb) (hm : behindInMarks op b = false := by first | exact nomark _ | rfl | with_unfolding_all rfl) : QE X Φ (.Compare a [op] [b] pos) (m2 g (oVal m) mb) := by
  obtain ⟨r, h1, h2⟩ := h.ex
  obtain ⟨ta, pa, oa⟩ := ha.ex
  obtain ⟨tb, pb, ob⟩ := hb.ex
  exact ⟨_, pe_cmpR h1 pa pb hm, ok_q2 h2 oa ob⟩
theorem q_tcm {op : CmpOp} {g : D → D → Option D} {mb : M O} (h : CmpR X op g) (ha : QE X Φ a m) (hb : DO X b mb) (hm : behindInMarks op b = false := by first | exact nomark _ | rfl | with_unfolding_all rfl) : QT X Φ (.Compare a [op] [b] pos) (mB (m2 g (oVal m) mb)) := by
  obtain ⟨r, h1, h2⟩ := h.ex
  obtain ⟨ta, pa, oa⟩ := ha.ex
  obtain ⟨tb, pb, ob⟩ := hb.ex
  refine ⟨_, pt_cmpR h1 pa pb hm, fun c B σ H μ b' μ' Q ph rel hm k => ?_⟩
  exact ok_q2 h2 oa ob c B σ H μ _ μ' _ ph rel (mB_some hm) fun B' H' v e r hv => by
    cases hv
    exact ⟨b', rfl, k B' H' e r⟩
theorem q_ret (he : QE X Φ a m) : QS X Φ (.Return (some a) pos) (sRet m) := by
  obtain ⟨t, p, o⟩ := he.ex
  refine ⟨_, ps_ret p, fun c B σ H μ E ph r h => ?_⟩
  unfold sRet at h
  split at h
  · rename_i d μ' hm
    exact o c B σ H μ d μ' _ ph r hm fun B' H' v e' r' hv => h B' H' v e' r'.r0 hv
  · exact h.elim
theorem q_sif {x y : List Stmt} (hc : QT X Φ a mt) (ha : QSs X Φ x s) (hb : QSs X Φ y t) : QS X Φ (.If a x y pos) (sIf mt s t) := by
  obtain ⟨tc, pc, oc⟩ := hc.ex
  obtain ⟨ta, pa, oa⟩ := ha.ex
  obtain ⟨tb, pb, ob⟩ := hb.ex
  refine ⟨_, ps_if pc pa pb, fun c B σ H μ E ph r h => ?_⟩
  unfold sIf at h
  split at h
  · rename_i μ' hm
    refine oc c B σ H μ _ μ' _ ph r hm fun B' H' e' r' => ?_
    rw [if_pos rfl]
    exact oa c B' σ H' μ' E ph r' (h.ext e')
  · rename_i μ' hm
    refine oc c B σ H μ _ μ' _ ph r hm fun B' H' e' r' => ?_
    rw [if_neg Bool.false_ne_true]
    exact ob c B' σ H' μ' E ph r' (h.ext e')
  · exact h.elim
theorem q_sone (h : QS X Φ st s) : QSs X Φ [st] s := by
  obtain ⟨t, p, o⟩ := h.ex
  exact ⟨_, pss_one p, o⟩
/-- the rest behind the first statement: without the error -/
theorem q_scons (h : QS X Φ st s) (h2 : DSs X sts t) : QSs X Φ (st :: sts) (sSeq s t) := by
  obtain ⟨t1, p1, o1⟩ := h.ex
  obtain ⟨t2, p2, o2⟩ := h2.ex
  refine ⟨_, pss_cons p1 p2, fun c B σ H μ E ph r a => ?_⟩
  refine o1 c B σ H μ _ ph r ?_
  unfold sSeq at a
  cases hs : s μ with
  | nx μ' =>
    rw [hs] at a
    exact fun B' σ' H' e' r' => o2 c B' σ' H' μ' E r' (a.ext e')
  | rt d dr => rw [hs] at a; exact a
  | bk μ' => rw [hs] at a; exact a
  | ct μ' => rw [hs] at a; exact a
  | bad => rw [hs] at a; exact a.elim
end
section
variable {X : Cx} {C : Addr} {n n0 : Str} {i : Nat} {a : Addr} {oe : Obj} {cls : Value} {d : Option Addr} {pn : List (Addr × Obj)} {p : D} {x : Str} {q1 pos : Pos}
theorem xfC_of (h : ExcC X.K C) : XfC X.K C := ⟨h.hg, h.hk, h.hs, h.hd⟩
theorem q_field {f : Str} {z : D} (hl : ∀ v, (errFs n n0 v).lookup f = some (if f = "place" then v else .str n)) (hz' : z = if f = "place" then p else .str n) (hno : PySem.W.findIn X.K (.ref C) f = some none) (T : ExcC X.K C) (hz : Zc cls d oe) (hf : ∃ vs, oe.data = .fields vs) (pv : PE (X.suite a ((a, oe) :: pn)) (.Name x q1) (tVar i)) (hb : attributeBase (.Name x q1) f X.env (eval (.Name x q1) X.env) = eval (.Name x q1) X.env := by rfl) :
    QE (X.suite a ((a, oe) :: pn)) (Caught X.K C n n0 i a cls d p) (.Attribute (.Name x q1) f pos) (mC z) := by
  refine ⟨_, pe_xf (X := X) (xfC_of T) hno hz hf pv hb, fun c B σ H μ d' μ' Q ph r hm k => ?_⟩
  cases hm
  obtain ⟨v, dx, h1, h2, h3, h4, h5⟩ := ph.ex
  refine ⟨_, h1, rfl, h3, dx, _, _, h2, r.r0.ext _ _ (r.r0.b0 _ _ h4), hl v, k.go r ?_⟩
  subst hz'
  by_cases hp : f = "place"
  · rw [if_pos hp, if_pos hp]
    exact Rp.mono r.r0.b0 _ _ h5
  · rw [if_neg hp, if_neg hp]
    exact .str _
theorem q_place (N : NoTxt X.K C) (T : ExcC X.K C) (hz : Zc cls d oe) (hf : ∃ vs, oe.data = .fields vs) (pv : PE (X.suite a ((a, oe) :: pn)) (.Name x q1) (tVar i)) (hb : attributeBase (.Name x q1) "place" X.env (eval (.Name x q1) X.env) = eval (.Name x q1) X.env := by rfl) :
    QE (X.suite a ((a, oe) :: pn)) (Caught X.K C n n0 i a cls d p) (.Attribute (.Name x q1) "place" pos) (mC p) :=
  q_field (f := "place") (fun v => rfl) rfl N.pl T hz hf pv hb
theorem q_name (N : NoTxt X.K C) (T : ExcC X.K C) (hz : Zc cls d oe) (hf : ∃ vs, oe.data = .fields vs) (pv : PE (X.suite a ((a, oe) :: pn)) (.Name x q1) (tVar i)) (hb : attributeBase (.Name x q1) "name" X.env (eval (.Name x q1) X.env) = eval (.Name x q1) X.env := by rfl) :
    QE (X.suite a ((a, oe) :: pn)) (Caught X.K C n n0 i a cls d p) (.Attribute (.Name x q1) "name" pos) (mC (.str n)) :=
  q_field (f := "name") (fun v => rfl) rfl N.nm T hz hf pv hb
/-- isinstance(e, c): true -/
theorem call_isX (C' : ExcC X.K C) (hz : Zc cls d oe) (hf : ∃ vs, oe.data = .fields vs) : CallR (X.suite a ((a, oe) :: pn)) (.builtin "isinstance") (fun xs H Q => ∃ (c : V) (cv : Value) (dx : Addr) (fs : List (Str × V)), xs = [.ref a, c] ∧ cls = .ref C ∧ (∀ u, RelV c u → u = cv) ∧ PySem.W.kitOne X.K (.ref C) cv = some true ∧ d = some dx ∧ H dx = some (.xd fs) ∧ Q (.bl true) H) := by
  intro pins s σ H xs us Q I r h
  obtain ⟨c, cv, dx, fs, rfl, hcl, hcv, e, hdx, hH, q⟩ := h
  subst hcl
  cases r with
  | cons rx rr =>
    cases rr with
    | cons rt rr =>
      cases rr
      cases rx
      have ec := hcv _ rt
      subst ec
      subst hdx
      obtain ⟨hget, _⟩ := I.pin (a, oe) (List.mem_append.mpr (.inl List.mem_cons_self))
      obtain ⟨vs, hv⟩ := hf
      obtain ⟨mA, hns, _⟩ := I.hok dx _ hH
      obtain ⟨od, ho, hl⟩ := lookIn_ns hns
      have J : PySem.W.InstAt s.heap a oe C (some od) := ⟨hget, hz.1, by unfold PySem.W.notCls; rw [hv] <;> rfl, by rw [hz.2]; exact ho⟩
      obtain ⟨cd, hcd, _⟩ := PySem.W.any_some C'.hd
      exact PySem.W.kia_one (PySem.W.kitx_exc (by rw [hcd]; rfl) C'.hg C'.hk C'.hs C'.ha C'.hn C'.ht C'.hm) I.kIn J e (fun z => nomatch z) fun tk => ⟨.bl true, H, I.kept (t' := tk) fun _ _ z => z, rfl, q⟩
/-- isinstance(e, y), y a class above -/
theorem q_isi {y : Str} {vy : V} {cv : Value} {q2 q3 : Pos} (hm : X.mg "isinstance" = none) (C' : ExcC X.K C) (hk : PySem.W.kitOne X.K (.ref C) cv = some true) (hcv : ∀ u, RelV vy u → u = cv) (py : PE (X.suite a ((a, oe) :: pn)) (.Name y q2) (tC vy))
    (hz : Zc cls d oe) (hf : ∃ vs, oe.data = .fields vs) (pv : PE (X.suite a ((a, oe) :: pn)) (.Name x q1) (tVar i)) (hg : Gl X "isinstance" := by rfl)
    (h1 : starEach [.Name x q1, .Name y q2] X.env = (false, eval (.Name x q1) X.env) :: starEach [.Name y q2] X.env := by rfl) (h2 : starEach [.Name y q2] X.env = (false, eval (.Name y q2) X.env) :: starEach [] X.env := by rfl) (hpl : (backTo pos (starEach [.Name y q2] X.env)).any (·.1) = false := by rfl) :
    QE (X.suite a ((a, oe) :: pn)) (Caught X.K C n n0 i a cls d p) (.Call (.Name "isinstance" q3) [.Name x q1, .Name y q2] [] pos) (mC (.bool true)) := by
  refine ⟨_, pe_callB (X := X.suite a ((a, oe) :: pn)) (call_isX C' hz hf) hg hm (by decide +kernel) (pa_cons pv (pa_cons py pa_nil h2) h1) (by decide) (by decide) h1 hpl, fun c B σ H μ d' μ' Q ph r hmm k => ?_⟩
  cases hmm
  obtain ⟨v, dx, h1, h2, h3, h4, h5⟩ := ph.ex
  exact ⟨_, h1, vy, cv, dx, _, rfl, h3, hcv, hk, h2, r.r0.ext _ _ (r.r0.b0 _ _ h4), k.go r (.bl true)⟩
end
theorem isi_mk {K : PySem.W.Frag} {S C : Addr} (h2 : ∃ cd, PySem.W.clsIn K S = some cd) (h3 : PySem.W.typeIn K (.ref S) = some (.type "type")) (h4 : PySem.W.subIn K (.ref C) (.ref S) = some true) : PySem.W.kitOne K (.ref C) (.ref S) = some true := by
  obtain ⟨cd, h2⟩ := h2
  unfold PySem.W.kitOne PySem.W.kitCls
  simp only [h2, h3, h4, beq_self_eq_true, Option.isSome_some, Bool.and_self, if_true, ite_self]
theorem isi_mk0 {K : PySem.W.Frag} {C : Addr} : PySem.W.kitOne K (.ref C) (.ref C) = some true := by
  unfold PySem.W.kitOne
  simp only [beq_self_eq_true, if_true]
theorem isi_mkT {K : PySem.W.Frag} {C : Addr} {T : String} (h : PySem.W.kitMeta T = true) (h4 : PySem.W.subIn K (.ref C) (.type T) = some true) : PySem.W.kitOne K (.ref C) (.type T) = some true := by
  unfold PySem.W.kitOne PySem.W.kitCls
  simp only [h, h4, if_true, ite_self]
def killS (j : Nat) : SR → SR
  | .nx μ => .nx (setS μ j .un)
  | .bk μ => .bk (setS μ j .un)
  | .ct μ => .ct (setS μ j .un)
  | r => r
/-- try: f(..) except C as n: su; n in slot j -/
def sTryAs (f : FM) (ma : M (List O)) (i : Nat) (nm : Str) (j : Nat) (su : D → MT) : MT := fun μ => match (ma μ).bind fun p => (looks p.1 p.2).bind fun ds => (f ds p.2.dr).bind fun z => some (p, z) with
  | some ((os, μ1), (d, dr)) => match errOf d with
    | some (k, n, p) => if k = i ∧ n = nm ∧ j < (frzA os μ1).sl.length then killS j (su p (setS { frzA os μ1 with dr := dr } j .un)) else .bad
    | none => .nx (behind os μ1 d dr)
  | none => .bad
theorem putUn {K : PySem.W.Frag} {c : C} {B H : Hp} {σ : L2.St} {μ : MS} (r : Rel K c B σ H μ) (j : Nat) (v : Option V) : Rel K c B (σ.set j v) H (setS μ j .un) :=
  r.put (fun _ => trivial) fun ds k dk h => by cases h
theorem after_kill {K : PySem.W.Frag} {c : C} {B : Hp} {j : Nat} {r : SR} {E : Ends} (h : After K c B (killS j r) E) : After K c B r { nx := fun σ' H' => E.nx (σ'.set j none) H', rt := E.rt, bk := fun σ' H' => E.bk (σ'.set j none) H', ct := fun σ' H' => E.ct (σ'.set j none) H' } := by
  cases r with
  | nx μ => exact fun B' σ' H' e r => h B' _ H' e (putUn r j none)
  | bk μ => exact fun B' σ' H' e r => h B' _ H' e (putUn r j none)
  | ct μ => exact fun B' σ' H' e r => h B' _ H' e (putUn r j none)
  | rt d dr => exact h
  | bad => exact h.elim
/-- one more thing known at the entry -/
theorem rel_more {K : PySem.W.Frag} {c : C} {B H : Hp} {σ : L2.St} {μ : MS} (r : Rel K c B σ H μ) : Rel K { c with B0 := B } B σ H μ :=
  ⟨⟨r.r0.ext, r.r0.dr, r.r0.fr, fun a o h => .inl h, Ext.refl _⟩, r.len, r.sl, r.sep⟩
theorem rel0_less {c : C} {B B' H H' : Hp} {dr dr' : Dr} (r : Rel0 c B H dr) (r' : Rel0 { c with B0 := B } B' H' dr') : Rel0 c B' H' dr' :=
  ⟨r'.ext, r'.dr, r'.fr, fun a o h => by
    rcases r'.nw a o h with z | z
    · exact r.nw a o z
    · exact .inr z, r.b0.trans r'.b0⟩
theorem rel_less {K : PySem.W.Frag} {c : C} {B B' H H' : Hp} {dr : Dr} {σ' : L2.St} {μ' : MS} (r : Rel0 c B H dr) (r' : Rel K { c with B0 := B } B' σ' H' μ') : Rel K c B' σ' H' μ' :=
  ⟨rel0_less r r'.r0, r'.len, r'.sl, r'.sep⟩
theorem after_more {K : PySem.W.Frag} {c : C} {B H : Hp} {dr : Dr} {x : SR} {E : Ends} (r : Rel0 c B H dr) (h : After K c B x E) : After K { c with B0 := B } B x E := by
  cases x with
  | nx μ => exact fun B' σ' H' e r' => h B' σ' H' e (rel_less r r')
  | bk μ => exact fun B' σ' H' e r' => h B' σ' H' e (rel_less r r')
  | ct μ => exact fun B' σ' H' e r' => h B' σ' H' e (rel_less r r')
  | rt d dr => exact fun B' H' v e r' hv => h B' H' v e (rel0_less r r') hv
  | bad => exact h.elim
/-- the suite's reading -/
def tCr (K : PySem.W.Frag) (C : Addr) (n n0 : Str) (j : Nat) (su : D → MT) (a : Addr) (cls : Value) (d : Option Addr) : TS := fun E σ H => ∃ (c : Mi.C) (B : Hp) (μ : MS) (p : D), Caught K C n n0 j a cls d p c σ ∧ Rel K c B σ H μ ∧ After K c B (su p μ) E
section
variable {X : Cx} {ca : Nat → Addr} {n0 nm : Str} {k n j : Nat} {f : Addr} {fd : FuncData} {ps : List Str} {fm : FM} {x : Str} {p pos pos' : Pos} {e : Expr} {es : List Expr} {m : M (List O)}
theorem qss_pss {C a : Addr} {cls : Value} {d : Option Addr} {sts : List Stmt} {su : D → MT} {Y : Cx} (h : ∀ pl, QSs Y (Caught Y.K C nm n0 j a cls d pl) sts (su pl)) : PSs Y sts (tCr Y.K C nm n0 j su a cls d) :=
  ⟨fun pins s σ H D I ⟨c, B, μ, pl, hc, r, h'⟩ => by
    obtain ⟨t, pt, o⟩ := (h pl).ex
    exact pt.run pins s σ H D I (o c B σ H μ D hc r h')⟩
theorem s_tryAs {i : Nat} {cn en : Str} {b0 : Stmt} {suite : List Stmt} {np hp tp : Pos} {su : D → MT} (hN : X.N.Nodup) (F : FnOk X.prog X.w X.K X.mg X.base (L2.CX X.prog X.w) k f fd ps (spX X.K ca n0 n fm)) (hr : Room k X.A) (hm : X.mg x = some (.ref f)) (hk : PySem.W.keepIn X.K (.ref f) = true) (hb : Binds X.K fd ps [])
    (ha : ∀ pn xe, DA (X.tr pn xe).nox (e :: es) m) (hl : ∀ (μ : MS) (os : List O) (μ' : MS), m μ = some (os, μ') → os.length = n) (hcn : X.mg cn = some (.ref (ca i))) (hex : PySem.W.exmOne X.K (.ref (ca i)) (.ref (ca i)) = some true)
    (hsu : ∀ a oe cls d pn pl, Zc cls d oe → (∃ vs, oe.data = .fields vs) → QSs (X.suite a ((a, oe) :: pn)) (Caught X.K (ca i) nm n0 j a cls d pl) (b0 :: suite) (su pl)) (hi : X.N[j]? = some en := by rfl) (hln : X.env.kindOf en = some .local := by rfl) (hgc : Gl X cn := by rfl) (hdc : (cn == ("__debug__" : Str)) = false := by decide) (hst : X.stack = X.env :: X.outer := by rfl) (hfr : X.env.frame = some X.env.locals := by rfl)
    (hg : Gl X x := by rfl) (hdb : (x == ("__debug__" : Str)) = false := by decide) (he : starEach (e :: es) X.env = (false, eval e X.env) :: starEach es X.env := by rfl) (hpl : (backTo pos (starEach es X.env)).any (·.1) = false := by rfl)
    (hs : swapsWith (.Call (.Name x p) (e :: es) [] pos) none pos'.line X.env = pure false := by rfl) :
    DS X (.Try [.Expr (.Call (.Name x p) (e :: es) [] pos) pos'] [.ExceptHandler (some (.Name cn np)) (some en) (b0 :: suite) hp] [] [] tp) (sTryAs fm m i nm j su) := by
  have tk0 : Takes X (fun _ _ _ _ => False) := fun u s' z => by
    obtain ⟨a, B, sI, pins, σ, H, cls, d, _, _, _, _, _, _, _, _, z⟩ := z
    exact z.elim
  refine ⟨_, ps_try_as (i := j) (tb := fun W D σ H => tCallS (spX X.K ca n0 n fm) (WE W) (tAr X.K m) σ H fun _ H2 => D.nx σ H2) (ts := fun a cls d => tCr X.K (ca i) nm n0 j su a cls d) hst hfr hN hi hln ⟨hgc, hdc, .inl hcn⟩ tk0 (fun W pn xe tk _ => pss_one (ps_expr (pe_callS (X := X.tr pn xe) F hr hg hm hk hb (fun σ => passAt tk σ) (pa_nox (ha pn xe).pa) hdb he hpl) hs)) (fun a oe cls d pn hz hd => qss_pss (Y := X.suite a ((a, oe) :: pn)) fun pl => hsu a oe cls d pn pl hz hd), fun c B σ H μ E r h => ?_⟩
  unfold sTryAs at h
  split at h
  · rename_i os μ1 d dr hz
    simp only [Option.bind_eq_some_iff] at hz
    obtain ⟨⟨os', μ1'⟩, h1, ds, h2, ⟨d', dr'⟩, h3, h4⟩ := hz
    cases h4
    refine ⟨c, B, μ, os, μ1, r, h1, fun B1 H1 vs e1 r1 hv => spX_of r1 hv h2 (hl _ _ _ h1) h3 (fun hne B' H' v e' r' hv' => ?_) fun l nm' pl hd B' H' v dx e' r' hv' hx => ?_⟩
    · rw [hne] at h
      exact h B' σ H' (e1.trans e') r'
    · subst hd
      rw [errOf_err] at h
      simp only at h
      split at h
      · rename_i hj
        obtain ⟨hj1, hj2, hj3⟩ := hj
        subst hj1
        subst hj2
        refine ⟨true, hex, fun _ a0 ha0 => ?_, fun z => by cases z⟩
        have r2 := putUn (r'.know (o := .xd (errFs nm' n0 v)) hx) j (some (.ref a0))
        have ex2 : Ext B' (upd B' dx (.xd (errFs nm' n0 v))) := Ext.new (r'.r0.fresh hx).2
        have hlt : j < σ.length := by
          rw [r'.len]
          exact hj3
        refine ⟨_, _, _, pl, ⟨v, dx, by rw [List.getElem?_set_self hlt], rfl, rfl, upd_same, Rp.mono ex2 _ _ hv'⟩, rel_more r2, ?_⟩
        exact after_more r2.r0 (after_kill (h.ext ((e1.trans e').trans ex2)))
      · exact h.elim
  · exact h.elim
end
end Mi
/-! Mx, eleventh part: what raise, calls that may raise, and try come to. -/
namespace Mi
open PySem PySem.Spec PyProof.Rows L2
def caseE0 (d : D) (A : Nat → Str → D → Prop) (B : Prop) : Prop := match errOf d with
  | some (i, n, p) => A i n p
  | none => B
@[irreducible] def caseE (d : D) (A : Nat → Str → D → Prop) (B : Prop) : P2 A B := caseE0 d A B
section
variable {N : MS → Prop} {R : D → Dr → Prop} {Bk Ct : MS → Prop} {μ : MS} {A : Nat → Str → D → Prop} {B : Prop}
@[simp ↓] theorem caseE_err {i : Nat} {n : Str} {p : D} : @Eq Prop (caseE (errD i n p) A B) (A i n p) := by
  with_unfolding_all exact (show caseE0 (errD i n p) A B = A i n p by unfold caseE0; rw [errOf_err])
@[simp ↓] theorem caseE_none : @Eq Prop (caseE .none A B) B := by with_unfolding_all exact (show caseE0 .none A B = B from rfl)
@[simp ↓] theorem caseE_bool {b : Bool} : @Eq Prop (caseE (.bool b) A B) B := by with_unfolding_all exact (show caseE0 (.bool b) A B = B from rfl)
@[simp ↓] theorem caseE_int {b : Int} : @Eq Prop (caseE (.int b) A B) B := by with_unfolding_all exact (show caseE0 (.int b) A B = B from rfl)
@[simp ↓] theorem caseE_str {b : Str} : @Eq Prop (caseE (.str b) A B) B := by with_unfolding_all exact (show caseE0 (.str b) A B = B from rfl)
@[simp ↓] theorem caseE_list {b : List D} : @Eq Prop (caseE (.list b) A B) B := by with_unfolding_all exact (show caseE0 (.list b) A B = B from rfl)
@[simp ↓] theorem caseE_tuple {b : List D} : @Eq Prop (caseE (.tuple b) A B) B := by with_unfolding_all exact (show caseE0 (.tuple b) A B = B from rfl)
theorem caseE_no {d : D} (h : errOf d = none) : @Eq Prop (caseE d A B) B := by
  with_unfolding_all exact (show caseE0 d A B = B by unfold caseE0; rw [h])
theorem noErr_of {f : FM} {ds : List D} {dr dr' : Dr} {d : D} (h : f ds dr = some (d, dr')) (h2 : errOf d = none) : noErr f ds dr = some (d, dr') := by
  unfold noErr
  rw [h, Option.bind_some]
  simp only [h2]
theorem w0_raise {i : Nat} {n : Str} {m : M D} : W0 (sRaise i n m μ) N R Bk Ct = WM0 (m μ) fun d μ' => R (errD i n d) μ'.dr := by
  unfold sRaise
  cases m μ <;> rfl
@[simp ↓] theorem w_raise {i : Nat} {n : Str} {m : M D} : @Eq Prop (W (sRaise i n m μ) N R Bk Ct) (WM (m μ) fun d μ' => R (errD i n d) μ'.dr) := by with_unfolding_all exact w0_raise
theorem w0_callX {f : FM} {ma : M (List O)} : W0 (sCallX f ma μ) N R Bk Ct = WM0 (ma μ) fun os μ1 => WO0 (looks os μ1) fun ds => WO0 (f ds μ1.dr) fun z => caseE0 z.1 (fun _ _ _ => R z.1 z.2) (N (behind os μ1 z.1 z.2)) := by
  unfold sCallX
  cases ma μ with
  | none => rfl
  | some p =>
    obtain ⟨os, μ1⟩ := p
    simp only [Option.bind_some]
    show _ = WO0 (looks os μ1) _
    cases looks os μ1 with
    | none => rfl
    | some ds =>
      simp only [Option.bind_some]
      show _ = WO0 (f ds μ1.dr) _
      cases f ds μ1.dr with
      | none => rfl
      | some z =>
        obtain ⟨d, dr⟩ := z
        simp only [Option.bind_some]
        show _ = caseE0 d _ _
        unfold caseE0
        cases h : errOf d with
        | none => rfl
        | some q => rfl
@[simp ↓] theorem w_callX {f : FM} {ma : M (List O)} : @Eq Prop (W (sCallX f ma μ) N R Bk Ct) (WM (ma μ) fun os μ1 => WO (looks os μ1) fun ds => WO (f ds μ1.dr) fun z => caseE z.1 (fun _ _ _ => R z.1 z.2) (WS (behind os μ1 z.1 z.2) N)) := by with_unfolding_all exact w0_callX
theorem w0_try {f : FM} {ma : M (List O)} {i : Nat} {su : MT} : W0 (sTry f ma i su μ) N R Bk Ct = WM0 (ma μ) fun os μ1 => WO0 (looks os μ1) fun ds => WO0 (f ds μ1.dr) fun z => caseE0 z.1 (fun k _ _ => if k = i then W0 (su { frzA os μ1 with dr := z.2 }) N R Bk Ct else False) (N (behind os μ1 z.1 z.2)) := by
  unfold sTry
  cases ma μ with
  | none => rfl
  | some p =>
    obtain ⟨os, μ1⟩ := p
    simp only [Option.bind_some]
    show _ = WO0 (looks os μ1) _
    cases looks os μ1 with
    | none => rfl
    | some ds =>
      simp only [Option.bind_some]
      show _ = WO0 (f ds μ1.dr) _
      cases f ds μ1.dr with
      | none => rfl
      | some z =>
        obtain ⟨d, dr⟩ := z
        simp only [Option.bind_some]
        show _ = caseE0 d _ _
        unfold caseE0
        cases h : errOf d with
        | none => rfl
        | some q =>
          obtain ⟨k, n, p⟩ := q
          simp only
          split <;> rfl
@[simp ↓] theorem w_try {f : FM} {ma : M (List O)} {i : Nat} {su : MT} : @Eq Prop (W (sTry f ma i su μ) N R Bk Ct) (WM (ma μ) fun os μ1 => WO (looks os μ1) fun ds => WO (f ds μ1.dr) fun z => caseE z.1 (fun k _ _ => if k = i then WS { frzA os μ1 with dr := z.2 } (fun μ' => W (su μ') N R Bk Ct) else False) (WS (behind os μ1 z.1 z.2) N)) := by with_unfolding_all exact w0_try
theorem w0_kill {j : Nat} {r : SR} : W0 (killS j r) N R Bk Ct = W0 r (fun μ => N (setS μ j .un)) R (fun μ => Bk (setS μ j .un)) (fun μ => Ct (setS μ j .un)) := by
  cases r <;> rfl
theorem w0_tryAs {f : FM} {ma : M (List O)} {i j : Nat} {nm : Str} {su : D → MT} : W0 (sTryAs f ma i nm j su μ) N R Bk Ct = WM0 (ma μ) fun os μ1 => WO0 (looks os μ1) fun ds => WO0 (f ds μ1.dr) fun z =>
    caseE0 z.1 (fun k n p => if k = i ∧ n = nm ∧ j < (frzA os μ1).sl.length then W0 (su p (setS { frzA os μ1 with dr := z.2 } j .un)) (fun μ => N (setS μ j .un)) R (fun μ => Bk (setS μ j .un)) (fun μ => Ct (setS μ j .un)) else False) (N (behind os μ1 z.1 z.2)) := by
  unfold sTryAs
  cases ma μ with
  | none => rfl
  | some p =>
    obtain ⟨os, μ1⟩ := p
    simp only [Option.bind_some]
    show _ = WO0 (looks os μ1) _
    cases looks os μ1 with
    | none => rfl
    | some ds =>
      simp only [Option.bind_some]
      show _ = WO0 (f ds μ1.dr) _
      cases f ds μ1.dr with
      | none => rfl
      | some z =>
        obtain ⟨d, dr⟩ := z
        simp only [Option.bind_some]
        show _ = caseE0 d _ _
        unfold caseE0
        cases h : errOf d with
        | none => rfl
        | some q =>
          obtain ⟨k, n, p⟩ := q
          simp only
          split
          · rw [w0_kill]
          · rfl
@[simp ↓] theorem w_tryAs {f : FM} {ma : M (List O)} {i j : Nat} {nm : Str} {su : D → MT} : @Eq Prop (W (sTryAs f ma i nm j su μ) N R Bk Ct) (WM (ma μ) fun os μ1 => WO (looks os μ1) fun ds => WO (f ds μ1.dr) fun z =>
    caseE z.1 (fun k n p => if k = i ∧ n = nm ∧ j < (frzA os μ1).sl.length then WS (setS { frzA os μ1 with dr := z.2 } j .un) (fun μ' => W (su p μ') (fun μ => WS (setS μ j .un) N) R (fun μ => WS (setS μ j .un) Bk) (fun μ => WS (setS μ j .un) Ct)) else False) (WS (behind os μ1 z.1 z.2) N)) := by with_unfolding_all exact w0_tryAs
end
@[simp] theorem behind_flat {os : List O} {l : List Sl} {dr dr' : Dr} {d : D} (h : flat d = true) : behind os ⟨l, dr⟩ d dr' = ⟨l, dr'⟩ := by
  unfold behind
  rw [if_pos h]
end Mi
/-! Mx, twelfth part: while with raise in it. -/
namespace Mi
open PySem PySem.Spec PyProof.Rows L2
section
variable {ca : Nat → Addr} {n0 : Str} {X : Cx} {W : WX} {pos : Pos}
theorem x_while {cnd : Expr} {body : List Stmt} {m : M Bool} {s : MT} (hp : PassesOwn (model X.prog X.w) X.A X.env X.xe) (hc : DT X.nox cnd m) (hb : DRs ca n0 X W body s) : DR ca n0 X W (.While cnd body [] pos) (sWhile m s) := by
  obtain ⟨tc, pc, oc⟩ := hc.ex
  obtain ⟨tb, pb, ob⟩ := hb.ex
  refine ⟨_, ps_while hp pc.nox pb, fun c B σ H μ E r a => ?_⟩
  refine ⟨fun n σ' H' => ∃ B' μ', Ext B B' ∧ Rel X.K c B' σ' H' μ' ∧ AfterW X.K ca n0 c B' W (whileF m s n μ') E, ⟨fuel, B, μ, Ext.refl _, r, a⟩, ?_⟩
  rintro n σ1 H1 ⟨B1, μ1, e1, r1, a1⟩
  cases n with
  | zero => exact a1.1.elim
  | succ n =>
    unfold whileF at a1
    split at a1
    · rename_i μ2 hm
      refine oc c B1 σ1 H1 μ1 _ μ2 _ r1 hm fun B2 H2 e2 r2 => ?_
      rw [if_pos rfl]
      refine ⟨fun σ' H' => ∃ B' μ', Ext B B' ∧ Rel X.K c B' σ' H' μ' ∧ AfterW X.K ca n0 c B' W (whileF m s n μ') E, fun σ' H' h => ⟨n, Nat.lt_succ_self n, h⟩, ?_⟩
      refine ob c B2 σ1 H2 μ2 _ r2 ?_
      cases q : s μ2 with
      | nx μ3 => rw [q] at a1; exact ⟨fun B3 σ3 H3 e3 r3 => ⟨B3, μ3, (e1.trans e2).trans e3, r3, a1.ext (e2.trans e3)⟩, fun d dr hr => by cases hr⟩
      | ct μ3 => rw [q] at a1; exact ⟨fun B3 σ3 H3 e3 r3 => ⟨B3, μ3, (e1.trans e2).trans e3, r3, a1.ext (e2.trans e3)⟩, fun d dr hr => by cases hr⟩
      | bk μ3 => rw [q] at a1; exact ⟨fun B3 σ3 H3 e3 r3 => a1.1 B3 σ3 H3 (e2.trans e3) r3, fun d dr hr => by cases hr⟩
      | rt d dr => rw [q] at a1; exact ⟨fun B3 H3 v e3 r3 hv => a1.1 B3 H3 v (e2.trans e3) r3 hv, fun d' dr' hr σ' => (a1.2 d' dr' hr σ').ext e2⟩
      | bad => rw [q] at a1; exact ⟨a1.1, fun d dr hr => by cases hr⟩
    · rename_i μ2 hm
      refine oc c B1 σ1 H1 μ1 _ μ2 _ r1 hm fun B2 H2 e2 r2 => ?_
      rw [if_neg Bool.false_ne_true]
      exact a1.1 B2 σ1 H2 e2 r2
    · exact a1.1.elim
end
end Mi
namespace Wk
open PySem PySem.Spec PyProof.Rows L2 Mi
def topS (i : Nat) : Stmt := PySem.Challenge.pw_plaintraining_k02_the_one_rounding.main.body.getD i (.Pass ⟨0, 0, 0, 0⟩)
def d_NOUGHT : D := (.tuple [(.int (0)), (.int (0))])
structure T (P : Program) (K : PySem.W.Frag) (mg : Str → Option Value) (a : Nat → Addr) (d : Nat → FuncData) (fi : Nat → Addr) : Prop where
  z_super : mg "super" = none
  g1 : mg "CutError" = some (.ref (a 1))
  e1 : CutTxt P K (a 1) (fi 1) "CutError" "CutError.__init__" (topS 1)
  e2 : SubTxt P K mg (a 1) (fi 1) (a 2) (fi 2) "TooLarge" "TooLarge.__init__" (topS 2)
  e3 : SubTxt P K mg (a 1) (fi 1) (a 3) (fi 3) "InvalidFormat" "InvalidFormat.__init__" (topS 3)
  x2 : ExcC K (a 2)
  x3 : ExcC K (a 3)
  q3_1 : PySem.W.kitOne K (.ref (a 3)) (.ref (a 1)) = some true
  z_ValueError : mg "ValueError" = none
  z_abs : mg "abs" = none
  z_all : mg "all" = none
  z_bool : mg "bool" = none
  z_int : mg "int" = none
  z_isinstance : mg "isinstance" = none
  z_len : mg "len" = none
  z_max : mg "max" = none
  z_min : mg "min" = none
  z_range : mg "range" = none
  z_tuple : mg "tuple" = none
  F6 : Fun K "is_whole" "is_whole" (topS 6) (a 6) (d 6)
  m6 : mg "is_whole" = some (.ref (a 6))
  b6 : Binds K (d 6) ["value"] []
  F7 : Fun K "is_exact" "is_exact" (topS 7) (a 7) (d 7)
  m7 : mg "is_exact" = some (.ref (a 7))
  b7 : Binds K (d 7) ["value"] []
  F8 : Fun K "dyadic" "dyadic" (topS 8) (a 8) (d 8)
  m8 : mg "dyadic" = some (.ref (a 8))
  b8 : Binds K (d 8) ["s", "e"] []
  F9 : Fun K "minus_of" "minus_of" (topS 9) (a 9) (d 9)
  m9 : mg "minus_of" = some (.ref (a 9))
  b9 : Binds K (d 9) ["x"] []
  F10 : Fun K "top_of" "top_of" (topS 10) (a 10) (d 10)
  m10 : mg "top_of" = some (.ref (a 10))
  b10 : Binds K (d 10) ["x"] []
  F11 : Fun K "places_of_whole" "places_of_whole" (topS 11) (a 11) (d 11)
  m11 : mg "places_of_whole" = some (.ref (a 11))
  b11 : Binds K (d 11) ["n"] []
  F13 : Fun K "is_format" "is_format" (topS 13) (a 13) (d 13)
  m13 : mg "is_format" = some (.ref (a 13))
  b13 : Binds K (d 13) ["value"] []
  F14 : Fun K "check_format" "check_format" (topS 14) (a 14) (d 14)
  m14 : mg "check_format" = some (.ref (a 14))
  b14 : Binds K (d 14) ["value"] []
  F15 : Fun K "laid" "laid" (topS 15) (a 15) (d 15)
  m15 : mg "laid" = some (.ref (a 15))
  b15 : Binds K (d 15) ["form", "below", "count", "rest", "whole"] []
  F16 : Fun K "signed" "signed" (topS 16) (a 16) (d 16)
  m16 : mg "signed" = some (.ref (a 16))
  b16 : Binds K (d 16) ["told", "is_below"] []
  F17 : Fun K "rounded" "rounded" (topS 17) (a 17) (d 17)
  m17 : mg "rounded" = some (.ref (a 17))
  b17 : Binds K (d 17) ["form", "x"] []
  F18 : Fun K "is_of_format" "is_of_format" (topS 18) (a 18) (d 18)
  m18 : mg "is_of_format" = some (.ref (a 18))
  b18 : Binds K (d 18) ["form", "value"] []
  F19 : Fun K "numbers_of" "numbers_of" (topS 19) (a 19) (d 19)
  m19 : mg "numbers_of" = some (.ref (a 19))
  b19 : Binds K (d 19) ["form", "most"] []
  F21 : Fun K "_law_state" "_law_state" (topS 21) (a 21) (d 21)
  m21 : mg "_law_state" = some (.ref (a 21))
  b21 : Binds K (d 21) ["script"] []
  F22 : Fun K "_law_draw" "_law_draw" (topS 22) (a 22) (d 22)
  m22 : mg "_law_draw" = some (.ref (a 22))
  b22 : Binds K (d 22) ["state", "many"] []
  F23 : Fun K "_law_exact" "_law_exact" (topS 23) (a 23) (d 23)
  m23 : mg "_law_exact" = some (.ref (a 23))
  b23 : Binds K (d 23) ["n", "shift"] []
  F24 : Fun K "_law_form" "_law_form" (topS 24) (a 24) (d 24)
  m24 : mg "_law_form" = some (.ref (a 24))
  b24 : Binds K (d 24) ["state"] []
  F25 : Fun K "_law_due" "_law_due" (topS 25) (a 25) (d 25)
  m25 : mg "_law_due" = some (.ref (a 25))
  b25 : Binds K (d 25) ["form", "n"] []
  F26 : Fun K "_law_number" "_law_number" (topS 26) (a 26) (d 26)
  m26 : mg "_law_number" = some (.ref (a 26))
  b26 : Binds K (d 26) ["state", "form"] []
  F27 : Fun K "_law_round_all" "_law_round_all" (topS 27) (a 27) (d 27)
  m27 : mg "_law_round_all" = some (.ref (a 27))
  b27 : Binds K (d 27) ["state"] []
  F28 : Fun K "_law_listed" "_law_listed" (topS 28) (a 28) (d 28)
  m28 : mg "_law_listed" = some (.ref (a 28))
  b28 : Binds K (d 28) ["state"] []
  F29 : Fun K "_law_refused" "_law_refused" (topS 29) (a 29) (d 29)
  m29 : mg "_law_refused" = some (.ref (a 29))
  b29 : Binds K (d 29) ["value"] []
  F30 : Fun K "_law_kinds" "_law_kinds" (topS 30) (a 30) (d 30)
  m30 : mg "_law_kinds" = some (.ref (a 30))
  b30 : Binds K (d 30) [] []
  F31 : Fun K "law" "law" (topS 31) (a 31) (d 31)
  m31 : mg "law" = some (.ref (a 31))
  b31 : Binds K (d 31) ["script"] []
  k_NOUGHT : ∃ (u : Value) (v : V), mg "NOUGHT" = some u ∧ RelV v u ∧ ∀ st B, Rp K st B v d_NOUGHT
section
variable {P : Program} {w : World} {K : PySem.W.Frag} {mg : Str → Option Value} {base : Heap} {a : Nat → Addr} {d : Nat → FuncData} {fi : Nat → Addr}
theorem okE2 (T : T P K mg a d fi) : ∃ fd, FnOk P w K mg base (L2.CX P w) 2 (fi 2) fd ["self", "place"] (spSub (a 2) "TooLarge" "CutError") ∧ Binds K fd ["self", "place"] [] :=
  err_ok T.e1 T.e2 T.z_super rfl (fun _ => rfl) rfl (fun _ => rfl) (fun _ _ _ _ _ us hl => match us, hl with | [_, _], _ => rfl) (fun _ _ _ _ _ us hl => match us, hl with | [_, _], _ => rfl)
theorem okE3 (T : T P K mg a d fi) : ∃ fd, FnOk P w K mg base (L2.CX P w) 2 (fi 3) fd ["self", "place"] (spSub (a 3) "InvalidFormat" "CutError") ∧ Binds K fd ["self", "place"] [] :=
  err_ok T.e1 T.e3 T.z_super rfl (fun _ => rfl) rfl (fun _ => rfl) (fun _ _ _ _ _ us hl => match us, hl with | [_, _], _ => rfl) (fun _ _ _ _ _ us hl => match us, hl with | [_, _], _ => rfl)
/-! ### the draws, by hand -/
abbrev m_law_draw : FM := drawF
theorem sc_law_state : FnScope ["script", "seed", "cell"] ["script"] (defScope (topS 21)) := ⟨rfl, rfl, rfl, by decide +kernel, rfl, by decide +kernel, by decide +kernel⟩
theorem seed_bd : ∀ (ns : List Int) (z : Int), 0 ≤ z ∧ z < 1000003 → 0 ≤ ns.foldl (fun s c => (s * 31 + c) % 1000003) z ∧ ns.foldl (fun s c => (s * 31 + c) % 1000003) z < 1000003
  | [], z, h => h
  | n :: ns, z, h => seed_bd ns ((z * 31 + n) % 1000003) ⟨by omega, by omega⟩
theorem ok_law_state (T : T P K mg a d fi) : FnOk P w K mg base CX0 1 (a 21) (d 21) ["script"] (spState K) := by
  have nd := sc_law_state.nd
  refine T.F21.ok sc_law_state (fun vs H Q E h => ?_) (fun cdv A outer s H vs Q E hr h => ?_)
  · obtain ⟨aa, ns, rfl, _⟩ := h
    rfl
  · obtain ⟨aa, ns, rfl, hS, hlen, k⟩ := h
    refine ⟨_, pss_cons (ps_set (i := 1) nd rfl (Or.inl rfl) pe_int)
      (pss_cons (ps_for PassesOwn.never rfl (pi_list (pv 0)) (pg_name (i := 2) nd rfl (Or.inl rfl))
        (pss_one (ps_set (i := 1) nd rfl (Or.inl rfl) (pe_op op_mod (pe_callTy call_int1 (by rfl) T.z_int (by decide +kernel) (pa_cons (pe_op op_add (pe_op op_mul (pv 1) pe_int) (pv 2)) pa_nil)) pe_int))))
      (pss_one (ps_ret (pe_lst (pa_cons (pe_lc (own := [("cell", 2)]) (g := gName 2) (tt := tYes) rfl nd (pi_list (pv 0)) (blkOk_by (N := ["script", "seed", "cell"]) (sc := defScope (topS 21)) (by decide +kernel)) (fun _ _ _ _ _ => pg_name (i := 2) nd rfl (Or.inl rfl)) (fun _ _ _ _ _ => pts_nil)
        (fun _ _ _ _ _ => pe_callB call_abs (by rfl) T.z_abs (by decide +kernel) (pa_cons (pv 2) pa_nil))) (pa_cons (pe_op op_add (pv 1) pe_int) pa_nil)))))), ?_⟩
    refine ⟨_, rfl, aa, rfl, ⟨_, hS⟩, for_list (K := K) (a := aa) (xs := ns.map V.int) (fun i σ H' => ∃ v, σ = [some (.ref aa), some (.int ((ns.take i).foldl (fun s c => (s * 31 + c) % 1000003) 7)), v] ∧ H' = H) ⟨none, rfl, rfl⟩ (fun i σ H' _ ⟨_, _, e⟩ => by rw [e]; exact hS) ?_ ?_⟩
    · rintro i y σ H' hi ⟨v, rfl, rfl⟩
      rw [List.getElem?_map] at hi
      obtain ⟨n, hn, rfl⟩ := Option.map_eq_some_iff.mp hi
      have hb := seed_bd (ns.take i) 7 (by decide)
      refine ⟨_, rfl, _, _, rfl, rfl, .inl ⟨by omega, by omega⟩, _, rfl, _, _, rfl, rfl, .inl ⟨_, rfl, _, _, rfl, rfl, (show (0 : Int) < 1000003 by decide), ?_⟩⟩
      refine ⟨some (.int n), ?_, rfl⟩
      have ht : ns.take (i + 1) = ns.take i ++ [n] := by rw [List.take_add_one, hn]; rfl
      show [_, _, _] = _
      rw [ht, List.foldl_append]
      rfl
    · rintro σ H' ⟨v, rfl, rfl⟩
      rw [List.length_map, List.take_length]
      refine ⟨_, rfl, aa, rfl, ⟨_, hS⟩, fun D hD => lc_list (K := K) (a := aa) (xs := ns.map V.int) (fun i H2 => Ext H' H2 ∧ H2 D = some (.lst (((ns.take i).map fun n => if n < 0 then -n else n).map V.int))) ⟨Ext.new hD, upd_same⟩ (fun i H2 _ h => (show SqL K H2 aa (ns.map V.int) from by
        rcases hS with hS | hS
        · exact .inl (h.1.rd hS)
        · exact .inr hS)) ?_ ?_⟩
      · rintro i y H2 hi ⟨e2, h2⟩
        rw [List.getElem?_map] at hi
        obtain ⟨n, hn, rfl⟩ := Option.map_eq_some_iff.mp hi
        refine ⟨rfl, _, rfl, _, rfl, _, h2, ?_, ?_⟩
        · rw [List.length_map, List.length_map, List.length_take]
          exact Nat.lt_of_le_of_lt (Nat.le_trans (Nat.min_le_right _ _) hlen) (by decide)
        · refine ⟨fun b o e => ?_, ?_⟩
          · rw [upd_ne (fun z => by rw [z, hD] at e; cases e)]
            exact e2 b o e
          · rw [upd_same]
            have ht : ns.take (i + 1) = ns.take i ++ [n] := by rw [List.take_add_one, hn]; rfl
            rw [ht, List.map_append, List.map_append]
            rfl
      · rintro H2 ⟨e2, h2⟩
        rw [List.length_map, List.take_length] at h2
        refine ⟨_, rfl, _, _, rfl, rfl, (by show 2 ≤ sizeLine; decide), fun p hp => ?_⟩
        have npD : p ≠ D := fun z => by rw [z, h2] at hp; cases hp
        refine k _ p D (e2.none hp) hD npD (e2.trans (Ext.new hp)) ?_ ?_
        · rw [upd_same]; rfl
        · rw [upd_ne (Ne.symm npD)]; exact h2
theorem sc_law_draw : FnScope ["state", "many", "cells", "value", "mixed"] ["state", "many"] (defScope (topS 22)) := ⟨rfl, rfl, rfl, by decide +kernel, rfl, by decide +kernel, by decide +kernel⟩
theorem ok_law_draw (T : T P K mg a d fi) : FnOk P w K mg base CX0 1 (a 22) (d 22) ["state", "many"] (spM K 2 drawF) := by
  have nd := sc_law_draw.nd
  refine T.F22.ok sc_law_draw (fun vs H Q E h => h.1) (fun cdv A outer s H vs Q E hr h => ?_)
  obtain ⟨x, y, m, dr, rfl, hm0, hm1, nxy, h1, h2, k⟩ := draw_open h
  refine ⟨_, pss_cons (ps_set (i := 2) nd rfl (Or.inl rfl) (pe_ix ix_list (pv 0) pe_int (fun _ _ => rfl)))
    (pss_cons (ps_while PassesOwn.never (PW.pt (pw_and (pt_cmpR op_gt (pe_callB call_len_seq (by rfl) T.z_len PySem.boot_len (pa_cons (pv 2) pa_nil)) pe_int (nomark _)) (pw_and1 (pt_cmpR op_eq (pe_ix ix_list (pv 2) pe_int (fun _ _ => rfl)) pe_int (nomark _)))))
      (pss_one (ps_expr (pe_bm PySem.F.plainAttrs_list PySem.F.slot_list_pop PySem.F.type_list_pop mt_popAt (pv 2) (pa_cons pe_int pa_nil)))))
    (pss_cons (ps_if (pt_cmpR op_gt (pe_callB call_len_seq (by rfl) T.z_len PySem.boot_len (pa_cons (pv 2) pa_nil)) pe_int (nomark _))
      (pss_cons (ps_set (i := 3) nd rfl (Or.inl rfl) (pe_ix ix_list (pv 2) pe_int (fun _ _ => rfl)))
        (pss_cons (ps_asg (pe_op op_fdivW (pv 3) (pv 1)) (pg_sub (pv 2) pe_int set_list))
          (pss_one (ps_ret (pe_op op_mod (pe_callTy call_int1 (by rfl) T.z_int (by decide +kernel) (pa_cons (pv 3) pa_nil)) (pv 1)))))) pss_nil)
    (pss_cons (ps_set (i := 4) nd rfl (Or.inl rfl) (pe_op op_mod (pe_callTy call_int1 (by rfl) T.z_int (by decide +kernel) (pa_cons (pe_op op_add (pe_op op_mul (pe_ix ix_list (pv 0) pe_int (fun _ _ => rfl)) pe_int) pe_int) pa_nil)) pe_int))
    (pss_cons (ps_asg (pv 4) (pg_sub (pv 0) pe_int set_list))
    (pss_one (ps_ret (pe_op op_mod (pe_callTy call_int1 (by rfl) T.z_int (by decide +kernel) (pa_cons (pe_op op_fdivW (pv 4) pe_int) pa_nil)) (pv 1)))))))), ?_⟩
  refine ⟨_, rfl, x, _, _, _, rfl, rfl, SqL.of h1, rfl, ?_⟩
  refine ⟨fun n σ H' => ∃ cs : List Int, n = cs.length ∧ σ = [some (.ref x), some (.int m), some (.ref y), none, none] ∧ H' y = some (.lst (cs.map V.int)) ∧ H' x = some (.lst [.ref y, .int dr.2]) ∧ (∀ b, b ≠ x → b ≠ y → H' b = H b) ∧ cs.dropWhile (fun n => n == 0) = dr.1.dropWhile (fun n => n == 0),
    ⟨_, dr.1, rfl, rfl, h2, h1, fun _ _ _ => rfl, rfl⟩, ?_⟩
  rintro n σ1 H1 ⟨cs, rfl, rfl, hy, hx, hk, hdw⟩
  refine ⟨_, rfl, y, _, rfl, .inl (SqL.of hy), _, _, rfl, rfl, _, rfl, ?_⟩
  cases cs with
  | nil =>
    have e0 : decide ((0 : Int) < (((([] : List Int).map V.int).length : Nat) : Int)) = false := by decide
    rw [e0]
    refine iteF ?_
    refine iteF ?_
    refine ⟨_, rfl, y, _, rfl, .inl (SqL.of hy), _, _, rfl, rfl, _, rfl, ?_⟩
    rw [e0]
    refine iteF ?_
    refine ⟨_, rfl, x, _, _, _, rfl, rfl, SqL.of hx, rfl, _, _, rfl, rfl, .inr ⟨by decide, by decide⟩, _, _, rfl, rfl, .inl ⟨_, rfl, _, _, rfl, rfl, (show (0 : Int) < 2147483647 by decide), ?_⟩⟩
    refine ⟨_, rfl, _, rfl, x, _, _, 1, rfl, rfl, hx, rfl, ?_⟩
    refine ⟨_, rfl, _, _, rfl, rfl, ⟨by decide, by decide⟩, .inl ⟨_, rfl, _, rfl, _, _, rfl, rfl, hm0, ?_⟩⟩
    have hd : drawM m dr = ((((dr.2 * 48271 + 12345) % 2147483647) / 64) % m, ([], (dr.2 * 48271 + 12345) % 2147483647)) := by
      unfold drawM
      rw [← hdw]
      rfl
    have q := k (upd H1 x (.lst [.ref y, .int ((dr.2 * 48271 + 12345) % 2147483647)])) (fun b hb hb2 => by rw [upd_ne hb]; exact hk b hb hb2) (by rw [hd]; exact upd_same) (by rw [hd, upd_ne (Ne.symm nxy)]; exact hy)
    rw [hd] at q
    exact q
  | cons c cs =>
    have e0 : decide ((0 : Int) < ((((c :: cs : List Int).map V.int).length : Nat) : Int)) = true := decide_eq_true (by rw [List.length_map, List.length_cons]; omega)
    rw [e0]
    refine iteT ?_
    refine ⟨_, rfl, y, _, _, _, rfl, rfl, SqL.of hy, atI_nat (j := 0) rfl, rfl, _, rfl, ?_⟩
    by_cases hc : c = 0
    · subst hc
      rw [decide_eq_true rfl]
      refine iteT ?_
      refine ⟨fun σ' H' => ∃ cs' : List Int, cs'.length < (0 :: cs).length ∧ σ' = [some (.ref x), some (.int m), some (.ref y), none, none] ∧ H' y = some (.lst (cs'.map V.int)) ∧ H' x = some (.lst [.ref y, .int dr.2]) ∧ (∀ b, b ≠ x → b ≠ y → H' b = H b) ∧ cs'.dropWhile (fun n => n == 0) = dr.1.dropWhile (fun n => n == 0),
        fun σ' H' ⟨cs', g1, g2⟩ => ⟨cs'.length, g1, cs', rfl, g2⟩, ?_⟩
      refine ⟨_, rfl, .inl ⟨rfl, _, SqL.of hy⟩, y, _, 0, 0, _, rfl, rfl, hy, by decide, by decide, seq0, rfl, ?_⟩
      refine ⟨cs, Nat.lt_succ_self _, rfl, upd_same, by rw [upd_ne nxy]; exact hx, fun b hb hb2 => by rw [upd_ne hb2]; exact hk b hb hb2, ?_⟩
      rw [← hdw]
      rfl
    · have nc : decide (V.int c = V.int 0) = false := decide_eq_false fun e => hc (by cases e; rfl)
      rw [nc]
      refine iteF ?_
      refine ⟨_, rfl, y, _, rfl, .inl (SqL.of hy), _, _, rfl, rfl, _, rfl, ?_⟩
      rw [e0]
      refine iteT ?_
      refine ⟨_, rfl, y, _, _, _, rfl, rfl, SqL.of hy, atI_nat (j := 0) rfl, ?_⟩
      refine ⟨_, rfl, _, rfl, _, _, rfl, rfl, ⟨hm0, hm1⟩, _, rfl, y, _, _, 0, rfl, rfl, hy, ixN0, ?_⟩
      refine ⟨_, rfl, .inl ⟨_, rfl, _, rfl, _, _, rfl, rfl, hm0, ?_⟩⟩
      have hb : (c == 0) = false := by rw [beq_eq_false_iff_ne]; exact hc
      have hd : drawM m dr = (c % m, (c / m :: cs, dr.2)) := by
        unfold drawM
        rw [← hdw, List.dropWhile_cons, hb]
        rfl
      have q := k (upd H1 y (.lst ((c / m :: cs).map V.int))) (fun b hb hb2 => by rw [upd_ne hb2]; exact hk b hb hb2) (by rw [hd, upd_ne nxy]; exact hx) (by rw [hd]; exact upd_same)
      rw [hd] at q
      exact q

/-! ### is_whole(value): 0 value -/
def b_is_whole : MT :=
  (sRet (eAnd (m1 (isiN "int") (oName 0)) (eNot (oVal (m1 (isiN "bool") (oName 0))))))
def m_is_whole : FM := fnM 1 b_is_whole
theorem sc_is_whole : FnScope ["value"] ["value"] (defScope (topS 6)) := ⟨rfl, rfl, rfl, by decide +kernel, rfl, by decide +kernel, by decide +kernel⟩
theorem ok_is_whole (T : T P K mg a d fi) : FnOk P w K mg base CX0 1 (a 6) (d 6) ["value"] (spM K 1 m_is_whole) := by
  have nd := sc_is_whole.nd
  refine fn_ok (N := ["value"]) (body := b_is_whole) T.F6 sc_is_whole (by decide) fun cdv A outer s H E hr => ?_
  have hu : (A.deeper (envOfC "is_whole" (defScope (topS 6)) s.heap.objs.size (a 6) cdv)).units + 65 < cLine := by have := hr.un; omega
  have hu64 : (A.deeper (envOfC "is_whole" (defScope (topS 6)) s.heap.objs.size (a 6) cdv)).units + 64 < cLine := by have := hr.un; omega
  unfold b_is_whole
  exact (ss_one (s_ret (e_and (e_isi "int" T.z_isinstance T.z_int (o_name 0) (by decide +kernel)) (e_one (e_not (o_of (e_isi "bool" T.z_isinstance T.z_bool (o_name 0) (by decide +kernel))))))))
/-! ### dyadic(s, e): 0 s 1 e 2 step -/
def b_dyadic : MT :=
  (sSeq (sIf (mB (m2 eqD (oName 0) (oVal (mC (.int 0))))) (sRet (mC d_NOUGHT)) sNil)
  (sSeq (sSet 2 (mC (.int 1)))
  (sSeq (sWhile (mB (m2 eqD (oVal (m2 shlD (oVal (m2 shrD (oName 0) (oName 2))) (oName 2))) (oName 0))) (sSet 2 (m2 mulD (oVal (mC (.int 2))) (oName 2))))
  (sSeq (sWhile (mB (m2 gtD (oName 2) (oVal (mC (.int 0))))) (sIf (mB (m2 eqD (oVal (m2 shlD (oVal (m2 shrD (oName 0) (oName 2))) (oName 2))) (oName 0))) (sPar [0, 1] (xVal (m2 shrD (oName 0) (oName 2)) (xVal (m2 addD (oName 1) (oName 2)) xNil))) (sSet 2 (m2 fdivD (oName 2) (oVal (mC (.int 2)))))))
  (sRet (mTup (mDs [(mVar 0), (mVar 1)])))))))
def m_dyadic : FM := fnM 3 b_dyadic
theorem sc_dyadic : FnScope ["s", "e", "step"] ["s", "e"] (defScope (topS 8)) := ⟨rfl, rfl, rfl, by decide +kernel, rfl, by decide +kernel, by decide +kernel⟩
theorem ok_dyadic (T : T P K mg a d fi) : FnOk P w K mg base CX0 1 (a 8) (d 8) ["s", "e"] (spM K 2 m_dyadic) := by
  obtain ⟨u_NOUGHT, v_NOUGHT, c_NOUGHT⟩ := T.k_NOUGHT
  have nd := sc_dyadic.nd
  refine fn_ok (N := ["s", "e", "step"]) (body := b_dyadic) T.F8 sc_dyadic (by decide) fun cdv A outer s H E hr => ?_
  have hu : (A.deeper (envOfC "dyadic" (defScope (topS 8)) s.heap.objs.size (a 8) cdv)).units + 65 < cLine := by have := hr.un; omega
  have hu64 : (A.deeper (envOfC "dyadic" (defScope (topS 8)) s.heap.objs.size (a 8) cdv)).units + 64 < cLine := by have := hr.un; omega
  unfold b_dyadic
  exact (ss_cons (s_if (t_cm (c_eq hu64) (o_name 0) (o_of e_int)) (ss_one (s_ret (e_glob rfl c_NOUGHT.1 c_NOUGHT.2.1 c_NOUGHT.2.2))) ss_nil)
  (ss_cons (s_set (i := 2) nd e_int)
  (ss_cons (s_while PassesOwn.never (t_cm (c_eq hu64) (o_of (e_shl (o_of (e_shr (o_name 0) (o_name 2))) (o_name 2))) (o_name 0)) (ss_one (s_set (i := 2) nd (e_mul (o_of e_int) (o_name 2)))))
  (ss_cons (s_while PassesOwn.never (t_cm c_gt (o_name 2) (o_of e_int)) (ss_one (s_if (t_cm (c_eq hu64) (o_of (e_shl (o_of (e_shr (o_name 0) (o_name 2))) (o_name 2))) (o_name 0)) (ss_one (s_par2 (i := 0) (j := 1) rfl nd (by decide) (x_val (e_shr (o_name 0) (o_name 2)) (x_val (e_add (o_name 1) (o_name 2)) x_nil)))) (ss_one (s_set (i := 2) nd (e_fdiv (o_name 2) (o_of e_int)))))))
  (ss_one (s_ret (e_tup (v_cons (e_of (o_name 0)) (v_cons (e_of (o_name 1)) v_nil)))))))))
/-! ### minus_of(x): 0 x -/
def b_minus_of : MT :=
  (sRet (mTup (mDs [(m1 negD (oVal (m2 ixD (oName 0) (oVal (mC (.int 0)))))), (m2 ixD (oName 0) (oVal (mC (.int 1))))])))
def m_minus_of : FM := fnM 1 b_minus_of
theorem sc_minus_of : FnScope ["x"] ["x"] (defScope (topS 9)) := ⟨rfl, rfl, rfl, by decide +kernel, rfl, by decide +kernel, by decide +kernel⟩
theorem ok_minus_of (T : T P K mg a d fi) : FnOk P w K mg base CX0 1 (a 9) (d 9) ["x"] (spM K 1 m_minus_of) := by
  have nd := sc_minus_of.nd
  refine fn_ok (N := ["x"]) (body := b_minus_of) T.F9 sc_minus_of (by decide) fun cdv A outer s H E hr => ?_
  have hu : (A.deeper (envOfC "minus_of" (defScope (topS 9)) s.heap.objs.size (a 9) cdv)).units + 65 < cLine := by have := hr.un; omega
  have hu64 : (A.deeper (envOfC "minus_of" (defScope (topS 9)) s.heap.objs.size (a 9) cdv)).units + 64 < cLine := by have := hr.un; omega
  unfold b_minus_of
  exact (ss_one (s_ret (e_tup (v_cons (e_neg (o_of (e_at (o_name 0) (o_of e_int)))) (v_cons (e_at (o_name 0) (o_of e_int)) v_nil)))))
/-! ### places_of_whole(n): 0 n -/
def b_places_of_whole : MT :=
  (sRet (m1 bitsD (oName 0)))
def m_places_of_whole : FM := fnM 1 b_places_of_whole
theorem sc_places_of_whole : FnScope ["n"] ["n"] (defScope (topS 11)) := ⟨rfl, rfl, rfl, by decide +kernel, rfl, by decide +kernel, by decide +kernel⟩
theorem ok_places_of_whole (T : T P K mg a d fi) : FnOk P w K mg base CX0 1 (a 11) (d 11) ["n"] (spM K 1 m_places_of_whole) := by
  have nd := sc_places_of_whole.nd
  refine fn_ok (N := ["n"]) (body := b_places_of_whole) T.F11 sc_places_of_whole (by decide) fun cdv A outer s H E hr => ?_
  have hu : (A.deeper (envOfC "places_of_whole" (defScope (topS 11)) s.heap.objs.size (a 11) cdv)).units + 65 < cLine := by have := hr.un; omega
  have hu64 : (A.deeper (envOfC "places_of_whole" (defScope (topS 11)) s.heap.objs.size (a 11) cdv)).units + 64 < cLine := by have := hr.un; omega
  unfold b_places_of_whole
  exact (ss_one (s_ret (e_bits (o_name 0))))
/-! ### _law_exact(n, shift): 0 n 1 shift 2 e -/
def b_law_exact : MT :=
  (sSeq (sIf (mB (m2 eqD (oName 0) (oVal (mC (.int 0))))) (sRet (mTup (mDs [(mC (.int 0)), (mC (.int 0))]))) sNil)
  (sSeq (sSet 2 (m2 subD (oVal (mC (.int 0))) (oName 1)))
  (sSeq (sWhile (mB (m2 eqD (oVal (m2 modD (oName 0) (oVal (mC (.int 2))))) (oVal (mC (.int 0))))) (sPar [0, 2] (xVal (mCall intD (aCons (oVal (m2 fdivD (oName 0) (oVal (mC (.int 2))))) aNil)) (xVal (m2 addD (oName 2) (oVal (mC (.int 1)))) xNil))))
  (sRet (mTup (mDs [(mVar 0), (mVar 2)]))))))
def m_law_exact : FM := fnM 3 b_law_exact
theorem sc_law_exact : FnScope ["n", "shift", "e"] ["n", "shift"] (defScope (topS 23)) := ⟨rfl, rfl, rfl, by decide +kernel, rfl, by decide +kernel, by decide +kernel⟩
theorem ok_law_exact (T : T P K mg a d fi) : FnOk P w K mg base CX0 1 (a 23) (d 23) ["n", "shift"] (spM K 2 m_law_exact) := by
  have nd := sc_law_exact.nd
  refine fn_ok (N := ["n", "shift", "e"]) (body := b_law_exact) T.F23 sc_law_exact (by decide) fun cdv A outer s H E hr => ?_
  have hu : (A.deeper (envOfC "_law_exact" (defScope (topS 23)) s.heap.objs.size (a 23) cdv)).units + 65 < cLine := by have := hr.un; omega
  have hu64 : (A.deeper (envOfC "_law_exact" (defScope (topS 23)) s.heap.objs.size (a 23) cdv)).units + 64 < cLine := by have := hr.un; omega
  unfold b_law_exact
  exact (ss_cons (s_if (t_cm (c_eq hu64) (o_name 0) (o_of e_int)) (ss_one (s_ret (e_tup (v_cons e_int (v_cons e_int v_nil))))) ss_nil)
  (ss_cons (s_set (i := 2) nd (e_sub (o_of e_int) (o_name 1)))
  (ss_cons (s_while PassesOwn.never (t_cm (c_eq hu64) (o_of (e_mod (o_name 0) (o_of e_int))) (o_of e_int)) (ss_one (s_par2 (i := 0) (j := 2) rfl nd (by decide) (x_val (e_intc T.z_int (a_cons (o_of (e_fdiv (o_name 0) (o_of e_int))) a_nil)) (x_val (e_add (o_name 2) (o_of e_int)) x_nil)))))
  (ss_one (s_ret (e_tup (v_cons (e_of (o_name 0)) (v_cons (e_of (o_name 2)) v_nil))))))))
/-! ### is_exact(value): 0 value -/
def b_is_exact : MT :=
  (sSeq (sIf (bOr (bNot (mTruth (oVal (m1 (isiN "tuple") (oName 0))))) (bOr (mB (m2 neD (oVal (mCall lenD (aCons (oName 0) aNil))) (oVal (mC (.int 2))))) (bOr (bNot (mTruth (oVal (mCallU m_is_whole (aCons (oVal (m2 ixD (oName 0) (oVal (mC (.int 0))))) aNil))))) (bNot (mTruth (oVal (mCallU m_is_whole (aCons (oVal (m2 ixD (oName 0) (oVal (mC (.int 1))))) aNil)))))))) (sRet (mC (.bool false))) sNil)
  (sRet (eOr (m2 eqD (oName 0) (oVal (mC d_NOUGHT))) (m2 eqD (oVal (m2 modD (oVal (m2 ixD (oName 0) (oVal (mC (.int 0))))) (oVal (mC (.int 2))))) (oVal (mC (.int 1)))))))
def m_is_exact : FM := fnM 1 b_is_exact
theorem sc_is_exact : FnScope ["value"] ["value"] (defScope (topS 7)) := ⟨rfl, rfl, rfl, by decide +kernel, rfl, by decide +kernel, by decide +kernel⟩
theorem ok_is_exact (T : T P K mg a d fi) : FnOk P w K mg base CX0 2 (a 7) (d 7) ["value"] (spM K 1 m_is_exact) := by
  have G_is_whole := ok_is_whole (P := P) (w := w) (base := base) T
  obtain ⟨u_NOUGHT, v_NOUGHT, c_NOUGHT⟩ := T.k_NOUGHT
  have nd := sc_is_exact.nd
  refine fn_ok (N := ["value"]) (body := b_is_exact) T.F7 sc_is_exact (by decide) fun cdv A outer s H E hr => ?_
  have hu : (A.deeper (envOfC "is_exact" (defScope (topS 7)) s.heap.objs.size (a 7) cdv)).units + 65 < cLine := by have := hr.un; omega
  have hu64 : (A.deeper (envOfC "is_exact" (defScope (topS 7)) s.heap.objs.size (a 7) cdv)).units + 64 < cLine := by have := hr.un; omega
  unfold b_is_exact
  exact (ss_cons (s_if (t_w (w_or (t_not (t_of (o_of (e_isi "tuple" T.z_isinstance T.z_tuple (o_name 0) (by decide +kernel))))) (w_or (t_cm (c_ne hu64) (o_of (e_len T.z_len (a_cons (o_name 0) a_nil))) (o_of e_int)) (w_or (t_not (t_of (o_of (e_callU G_is_whole (hr.mono (by decide)) T.m6 T.F6.kp T.b6 pass0 (a_cons (o_of (e_at (o_name 0) (o_of e_int))) a_nil) (aCons_len aNil_len))))) (w_or1 (t_not (t_of (o_of (e_callU G_is_whole (hr.mono (by decide)) T.m6 T.F6.kp T.b6 pass0 (a_cons (o_of (e_at (o_name 0) (o_of e_int))) a_nil) (aCons_len aNil_len)))))))))) (ss_one (s_ret e_bl)) ss_nil)
  (ss_one (s_ret (e_or (e_cm (c_eq hu64) (o_name 0) (o_of (e_glob rfl c_NOUGHT.1 c_NOUGHT.2.1 c_NOUGHT.2.2))) (e_one (e_cm (c_eq hu64) (o_of (e_mod (o_of (e_at (o_name 0) (o_of e_int))) (o_of e_int))) (o_of e_int)))))))
/-! ### top_of(x): 0 x -/
def b_top_of : MT :=
  (sRet (m2 addD (oVal (mCallU m_places_of_whole (aCons (oVal (mCall absD (aCons (oVal (m2 ixD (oName 0) (oVal (mC (.int 0))))) aNil))) aNil))) (oVal (m2 ixD (oName 0) (oVal (mC (.int 1)))))))
def m_top_of : FM := fnM 1 b_top_of
theorem sc_top_of : FnScope ["x"] ["x"] (defScope (topS 10)) := ⟨rfl, rfl, rfl, by decide +kernel, rfl, by decide +kernel, by decide +kernel⟩
theorem ok_top_of (T : T P K mg a d fi) : FnOk P w K mg base CX0 2 (a 10) (d 10) ["x"] (spM K 1 m_top_of) := by
  have G_places_of_whole := ok_places_of_whole (P := P) (w := w) (base := base) T
  have nd := sc_top_of.nd
  refine fn_ok (N := ["x"]) (body := b_top_of) T.F10 sc_top_of (by decide) fun cdv A outer s H E hr => ?_
  have hu : (A.deeper (envOfC "top_of" (defScope (topS 10)) s.heap.objs.size (a 10) cdv)).units + 65 < cLine := by have := hr.un; omega
  have hu64 : (A.deeper (envOfC "top_of" (defScope (topS 10)) s.heap.objs.size (a 10) cdv)).units + 64 < cLine := by have := hr.un; omega
  unfold b_top_of
  exact (ss_one (s_ret (e_add (o_of (e_callU G_places_of_whole (hr.mono (by decide)) T.m11 T.F11.kp T.b11 pass0 (a_cons (o_of (e_abs T.z_abs (a_cons (o_of (e_at (o_name 0) (o_of e_int))) a_nil))) a_nil) (aCons_len aNil_len))) (o_of (e_at (o_name 0) (o_of e_int))))))
/-! ### is_format(value): 0 value 1 bits 2 low 3 high 4 one -/
def b_is_format : MT :=
  (sSeq (sIf (bOr (bNot (mTruth (oVal (m1 (isiN "tuple") (oName 0))))) (bOr (mB (m2 neD (oVal (mCall lenD (aCons (oName 0) aNil))) (oVal (mC (.int 3))))) (bNot (mTruth (oVal (mCall allD (aCons (oVal (eNew (mLc (mSeq (mVar 0)) (gN 4) tYesM (mCallU m_is_whole (aCons (oName 4) aNil)) [4]))) aNil))))))) (sRet (mC (.bool false))) sNil)
  (sSeq (sUnp (gT 3 (gsCons (gN 1) (gsCons (gN 2) (gsCons (gN 3) gsNil)))) (mVar 0))
  (sRet (eAnd (mChain leD leD (oVal (mC (.int 2))) (oName 1) (oVal (mC (.int 24)))) (eAnd (mChain leD leD (oVal (m1 negD (oVal (mC (.int 40))))) (oName 2) (oVal (m1 negD (oVal (mC (.int 1)))))) (mChain leD leD (oVal (mC (.int 1))) (oName 3) (oVal (mC (.int 40)))))))))
def m_is_format : FM := fnM 5 b_is_format
theorem sc_is_format : FnScope ["value", "bits", "low", "high", "one"] ["value"] (defScope (topS 13)) := ⟨rfl, rfl, rfl, by decide +kernel, rfl, by decide +kernel, by decide +kernel⟩
theorem ok_is_format (T : T P K mg a d fi) : FnOk P w K mg base CX0 2 (a 13) (d 13) ["value"] (spM K 1 m_is_format) := by
  have G_is_whole := ok_is_whole (P := P) (w := w) (base := base) T
  have nd := sc_is_format.nd
  refine fn_ok (N := ["value", "bits", "low", "high", "one"]) (body := b_is_format) T.F13 sc_is_format (by decide) fun cdv A outer s H E hr => ?_
  have hu : (A.deeper (envOfC "is_format" (defScope (topS 13)) s.heap.objs.size (a 13) cdv)).units + 65 < cLine := by have := hr.un; omega
  have hu64 : (A.deeper (envOfC "is_format" (defScope (topS 13)) s.heap.objs.size (a 13) cdv)).units + 64 < cLine := by have := hr.un; omega
  unfold b_is_format
  exact (ss_cons (s_if (t_w (w_or (t_not (t_of (o_of (e_isi "tuple" T.z_isinstance T.z_tuple (o_name 0) (by decide +kernel))))) (w_or (t_cm (c_ne hu64) (o_of (e_len T.z_len (a_cons (o_name 0) a_nil))) (o_of e_int)) (w_or1 (t_not (t_of (o_of (e_all rfl T.z_all (a_cons (o_of (e_new (f_lc (own := [("one", 4)]) rfl nd (i_seq (e_of (o_name 0))) (blkOk_by (N := ["value", "bits", "low", "high", "one"]) (sc := defScope (topS 13)) (by decide +kernel)) (by decide) (fun _ _ _ _ _ => (g_name 4 nd)) (fun _ _ _ _ _ => ts_nil) (fun _ _ _ _ _ => (e_callU G_is_whole (hr.mono (by decide)) T.m6 T.F6.kp T.b6 pass0 (a_cons (o_name 4) a_nil) (aCons_len aNil_len)))))) a_nil))))))))) (ss_one (s_ret e_bl)) ss_nil)
  (ss_cons (s_asg (e_of (o_name 0)) (g_tup rfl (gs_cons (g_name 1 nd) (gs_cons (g_name 2 nd) (gs_cons (g_name 3 nd) gs_nil)))))
  (ss_one (s_ret (e_and (e_cm2 c_le c_le (o_of e_int) (o_name 1) (o_of e_int)) (e_and (e_cm2 c_le c_le (o_of (e_neg (o_of e_int))) (o_name 2) (o_of (e_neg (o_of e_int)))) (e_one (e_cm2 c_le c_le (o_of e_int) (o_name 3) (o_of e_int)))))))))
/-! ### signed(told, is_below): 0 told 1 is_below -/
def b_signed : MT :=
  (sSeq (sIf (bOr (mB (m2 isD (oVal (m2 ixD (oName 0) (oVal (mC (.int 0))))) (oVal (mC .none)))) (bNot (mTruth (oName 1)))) (sRet (mVar 0)) sNil)
  (sRet (mTup (mDs [(mCallU m_minus_of (aCons (oVal (m2 ixD (oName 0) (oVal (mC (.int 0))))) aNil)), (mC .none)]))))
def m_signed : FM := fnM 2 b_signed
theorem sc_signed : FnScope ["told", "is_below"] ["told", "is_below"] (defScope (topS 16)) := ⟨rfl, rfl, rfl, by decide +kernel, rfl, by decide +kernel, by decide +kernel⟩
theorem ok_signed (T : T P K mg a d fi) : FnOk P w K mg base CX0 2 (a 16) (d 16) ["told", "is_below"] (spM K 2 m_signed) := by
  have G_minus_of := ok_minus_of (P := P) (w := w) (base := base) T
  have nd := sc_signed.nd
  refine fn_ok (N := ["told", "is_below"]) (body := b_signed) T.F16 sc_signed (by decide) fun cdv A outer s H E hr => ?_
  have hu : (A.deeper (envOfC "signed" (defScope (topS 16)) s.heap.objs.size (a 16) cdv)).units + 65 < cLine := by have := hr.un; omega
  have hu64 : (A.deeper (envOfC "signed" (defScope (topS 16)) s.heap.objs.size (a 16) cdv)).units + 64 < cLine := by have := hr.un; omega
  unfold b_signed
  exact (ss_cons (s_if (t_w (w_or (t_cm c_is (o_of (e_at (o_name 0) (o_of e_int))) (o_of e_non)) (w_or1 (t_not (t_of (o_name 1)))))) (ss_one (s_ret (e_of (o_name 0)))) ss_nil)
  (ss_one (s_ret (e_tup (v_cons (e_callU G_minus_of (hr.mono (by decide)) T.m9 T.F9.kp T.b9 pass0 (a_cons (o_of (e_at (o_name 0) (o_of e_int))) a_nil) (aCons_len aNil_len)) (v_cons e_non v_nil))))))
/-! ### _law_form(state): 0 state 1 kind -/
def b_law_form : MT :=
  (sSeq (sSet 1 (mCallU m_law_draw (aCons (oName 0) (aCons (oVal (mC (.int 4))) aNil))))
  (sSeq (sIf (mB (m2 eqD (oName 1) (oVal (mC (.int 0))))) (sRet (m2 ixD (oVal (eNew (mLst (mDs [(mTup (mDs [(mC (.int 2)), (m1 negD (oVal (mC (.int 1)))), (mC (.int 1))])), (mTup (mDs [(mC (.int 24)), (m1 negD (oVal (mC (.int 40)))), (mC (.int 40))])), (mTup (mDs [(mC (.int 2)), (m1 negD (oVal (mC (.int 40)))), (mC (.int 1))])), (mTup (mDs [(mC (.int 24)), (m1 negD (oVal (mC (.int 1)))), (mC (.int 40))])), (mTup (mDs [(mC (.int 24)), (m1 negD (oVal (mC (.int 1)))), (mC (.int 1))]))])))) (oVal (mCallU m_law_draw (aCons (oName 0) (aCons (oVal (mC (.int 5))) aNil)))))) sNil)
  (sRet (mTup (mDs [(m2 addD (oVal (mC (.int 2))) (oVal (mCallU m_law_draw (aCons (oName 0) (aCons (oVal (mC (.int 23))) aNil))))), (m2 subD (oVal (m1 negD (oVal (mC (.int 1))))) (oVal (mCallU m_law_draw (aCons (oName 0) (aCons (oVal (mC (.int 40))) aNil))))), (m2 addD (oVal (mC (.int 1))) (oVal (mCallU m_law_draw (aCons (oName 0) (aCons (oVal (mC (.int 40))) aNil)))))])))))
def m_law_form : FM := fnM 2 b_law_form
theorem sc_law_form : FnScope ["state", "kind"] ["state"] (defScope (topS 24)) := ⟨rfl, rfl, rfl, by decide +kernel, rfl, by decide +kernel, by decide +kernel⟩
theorem ok_law_form (T : T P K mg a d fi) : FnOk P w K mg base CX0 2 (a 24) (d 24) ["state"] (spM K 1 m_law_form) := by
  have G_law_draw := ok_law_draw (P := P) (w := w) (base := base) T
  have nd := sc_law_form.nd
  refine fn_ok (N := ["state", "kind"]) (body := b_law_form) T.F24 sc_law_form (by decide) fun cdv A outer s H E hr => ?_
  have hu : (A.deeper (envOfC "_law_form" (defScope (topS 24)) s.heap.objs.size (a 24) cdv)).units + 65 < cLine := by have := hr.un; omega
  have hu64 : (A.deeper (envOfC "_law_form" (defScope (topS 24)) s.heap.objs.size (a 24) cdv)).units + 64 < cLine := by have := hr.un; omega
  unfold b_law_form
  exact (ss_cons (s_set (i := 1) nd (e_callU G_law_draw (hr.mono (by decide)) T.m22 T.F22.kp T.b22 pass0 (a_cons (o_name 0) (a_cons (o_of e_int) a_nil)) (aCons_len (aCons_len aNil_len))))
  (ss_cons (s_if (t_cm (c_eq hu64) (o_name 1) (o_of e_int)) (ss_one (s_ret (e_at (o_of (e_new (f_lst (v_cons (e_tup (v_cons e_int (v_cons (e_neg (o_of e_int)) (v_cons e_int v_nil)))) (v_cons (e_tup (v_cons e_int (v_cons (e_neg (o_of e_int)) (v_cons e_int v_nil)))) (v_cons (e_tup (v_cons e_int (v_cons (e_neg (o_of e_int)) (v_cons e_int v_nil)))) (v_cons (e_tup (v_cons e_int (v_cons (e_neg (o_of e_int)) (v_cons e_int v_nil)))) (v_cons (e_tup (v_cons e_int (v_cons (e_neg (o_of e_int)) (v_cons e_int v_nil)))) v_nil)))))))) (o_of (e_callU G_law_draw (hr.mono (by decide)) T.m22 T.F22.kp T.b22 pass0 (a_cons (o_name 0) (a_cons (o_of e_int) a_nil)) (aCons_len (aCons_len aNil_len))))))) ss_nil)
  (ss_one (s_ret (e_tup (v_cons (e_add (o_of e_int) (o_of (e_callU G_law_draw (hr.mono (by decide)) T.m22 T.F22.kp T.b22 pass0 (a_cons (o_name 0) (a_cons (o_of e_int) a_nil)) (aCons_len (aCons_len aNil_len))))) (v_cons (e_sub (o_of (e_neg (o_of e_int))) (o_of (e_callU G_law_draw (hr.mono (by decide)) T.m22 T.F22.kp T.b22 pass0 (a_cons (o_name 0) (a_cons (o_of e_int) a_nil)) (aCons_len (aCons_len aNil_len))))) (v_cons (e_add (o_of e_int) (o_of (e_callU G_law_draw (hr.mono (by decide)) T.m22 T.F22.kp T.b22 pass0 (a_cons (o_name 0) (a_cons (o_of e_int) a_nil)) (aCons_len (aCons_len aNil_len))))) v_nil))))))))
/-! ### _law_due(form, n): 0 form 1 n 2 amount 3 top 4 step 5 count 6 rest -/
def b_law_due : MT :=
  (sSeq (sIf (mB (m2 eqD (oName 1) (oVal (mC (.int 0))))) (sRet (mTup (mDs [(mTup (mDs [(mC (.int 0)), (mC (.int 0))])), (mC .none)]))) sNil)
  (sSeq (sPar [2, 3] (xVal (mCall absD (aCons (oName 1) aNil)) (xVal (m2 subD (oVal (mC (.int 0))) (oVal (mC (.int 120)))) xNil)))
  (sSeq (sWhile (mB (m2 leD (oVal (m2 shlD (oVal (mC (.int 1))) (oVal (m2 addD (oName 3) (oVal (mC (.int 120))))))) (oName 2))) (sAug addI 3 (mC (.int 1))))
  (sSeq (sSet 4 (m2 addD (oVal (mCall maxD (aCons (oVal (m2 ixD (oName 0) (oVal (mC (.int 1))))) (aCons (oVal (m2 subD (oName 3) (oVal (m2 ixD (oName 0) (oVal (mC (.int 0))))))) aNil)))) (oVal (mC (.int 120)))))
  (sSeq (sPar [5, 6] (xVal (mCall intD (aCons (oVal (m2 fdivD (oName 2) (oVal (m2 shlD (oVal (mC (.int 1))) (oName 4))))) aNil)) (xVal (mCall intD (aCons (oVal (m2 modD (oName 2) (oVal (m2 shlD (oVal (mC (.int 1))) (oName 4))))) aNil)) xNil)))
  (sSeq (sIf (bOr (mB (m2 gtD (oVal (m2 mulD (oVal (mC (.int 2))) (oName 6))) (oVal (m2 shlD (oVal (mC (.int 1))) (oName 4))))) (bAnd (mB (m2 eqD (oVal (m2 mulD (oVal (mC (.int 2))) (oName 6))) (oVal (m2 shlD (oVal (mC (.int 1))) (oName 4))))) (mB (m2 eqD (oVal (m2 modD (oName 5) (oVal (mC (.int 2))))) (oVal (mC (.int 1))))))) (sAug addI 5 (mC (.int 1))) sNil)
  (sSeq (sSet 2 (m2 mulD (oName 5) (oVal (m2 shlD (oVal (mC (.int 1))) (oName 4)))))
  (sSeq (sIf (mB (m2 geD (oName 2) (oVal (m2 shlD (oVal (mC (.int 1))) (oVal (m2 addD (oVal (m2 ixD (oName 0) (oVal (mC (.int 2))))) (oVal (mC (.int 120))))))))) (sRet (mTup (mDs [(mC .none), (mC (.str "great"))]))) sNil)
  (sRet (mTup (mDs [(mCallU m_law_exact (aCons (oVal (eIf (mB (m2 gtD (oName 1) (oVal (mC (.int 0))))) (mVar 2) (m2 subD (oVal (mC (.int 0))) (oName 2)))) (aCons (oVal (mC (.int 120))) aNil))), (mC .none)])))))))))))
def m_law_due : FM := fnM 7 b_law_due
theorem sc_law_due : FnScope ["form", "n", "amount", "top", "step", "count", "rest"] ["form", "n"] (defScope (topS 25)) := ⟨rfl, rfl, rfl, by decide +kernel, rfl, by decide +kernel, by decide +kernel⟩
theorem ok_law_due (T : T P K mg a d fi) : FnOk P w K mg base CX0 2 (a 25) (d 25) ["form", "n"] (spM K 2 m_law_due) := by
  have G_law_exact := ok_law_exact (P := P) (w := w) (base := base) T
  have nd := sc_law_due.nd
  refine fn_ok (N := ["form", "n", "amount", "top", "step", "count", "rest"]) (body := b_law_due) T.F25 sc_law_due (by decide) fun cdv A outer s H E hr => ?_
  have hu : (A.deeper (envOfC "_law_due" (defScope (topS 25)) s.heap.objs.size (a 25) cdv)).units + 65 < cLine := by have := hr.un; omega
  have hu64 : (A.deeper (envOfC "_law_due" (defScope (topS 25)) s.heap.objs.size (a 25) cdv)).units + 64 < cLine := by have := hr.un; omega
  unfold b_law_due
  exact (ss_cons (s_if (t_cm (c_eq hu64) (o_name 1) (o_of e_int)) (ss_one (s_ret (e_tup (v_cons (e_tup (v_cons e_int (v_cons e_int v_nil))) (v_cons e_non v_nil))))) ss_nil)
  (ss_cons (s_par2 (i := 2) (j := 3) rfl nd (by decide) (x_val (e_abs T.z_abs (a_cons (o_name 1) a_nil)) (x_val (e_sub (o_of e_int) (o_of e_int)) x_nil)))
  (ss_cons (s_while PassesOwn.never (t_cm c_le (o_of (e_shl (o_of e_int) (o_of (e_add (o_name 3) (o_of e_int))))) (o_name 2)) (ss_one (s_augAdd (i := 3) nd e_int)))
  (ss_cons (s_set (i := 4) nd (e_add (o_of (e_max rfl T.z_max (a_cons (o_of (e_at (o_name 0) (o_of e_int))) (a_cons (o_of (e_sub (o_name 3) (o_of (e_at (o_name 0) (o_of e_int))))) a_nil)))) (o_of e_int)))
  (ss_cons (s_par2 (i := 5) (j := 6) rfl nd (by decide) (x_val (e_intc T.z_int (a_cons (o_of (e_fdiv (o_name 2) (o_of (e_shl (o_of e_int) (o_name 4))))) a_nil)) (x_val (e_intc T.z_int (a_cons (o_of (e_mod (o_name 2) (o_of (e_shl (o_of e_int) (o_name 4))))) a_nil)) x_nil)))
  (ss_cons (s_if (t_w (w_or (t_cm c_gt (o_of (e_mul (o_of e_int) (o_name 6))) (o_of (e_shl (o_of e_int) (o_name 4)))) (w_or1 (t_w (w_and (t_cm (c_eq hu64) (o_of (e_mul (o_of e_int) (o_name 6))) (o_of (e_shl (o_of e_int) (o_name 4)))) (w_and1 (t_cm (c_eq hu64) (o_of (e_mod (o_name 5) (o_of e_int))) (o_of e_int)))))))) (ss_one (s_augAdd (i := 5) nd e_int)) ss_nil)
  (ss_cons (s_set (i := 2) nd (e_mul (o_name 5) (o_of (e_shl (o_of e_int) (o_name 4)))))
  (ss_cons (s_if (t_cm c_ge (o_name 2) (o_of (e_shl (o_of e_int) (o_of (e_add (o_of (e_at (o_name 0) (o_of e_int))) (o_of e_int)))))) (ss_one (s_ret (e_tup (v_cons e_non (v_cons e_str v_nil))))) ss_nil)
  (ss_one (s_ret (e_tup (v_cons (e_callU G_law_exact (hr.mono (by decide)) T.m23 T.F23.kp T.b23 pass0 (a_cons (o_of (e_if (t_cm c_gt (o_name 1) (o_of e_int)) (e_of (o_name 2)) (e_sub (o_of e_int) (o_name 2)))) (a_cons (o_of e_int) a_nil)) (aCons_len (aCons_len aNil_len))) (v_cons e_non v_nil)))))))))))))
/-! ### _law_number(state, form): 0 state 1 form 2 kind 3 sign 4 top 5 step 6 count 7 part -/
def b_law_number : MT :=
  (sSeq (sSet 2 (mCallU m_law_draw (aCons (oName 0) (aCons (oVal (mC (.int 6))) aNil))))
  (sSeq (sSet 3 (m2 subD (oVal (mC (.int 1))) (oVal (m2 mulD (oVal (mC (.int 2))) (oVal (mCallU m_law_draw (aCons (oName 0) (aCons (oVal (mC (.int 2))) aNil))))))))
  (sSeq (sIf (mB (m2 eqD (oName 2) (oVal (mC (.int 0))))) (sRet (m2 mulD (oVal (m2 mulD (oName 3) (oVal (mCallU m_law_draw (aCons (oName 0) (aCons (oVal (mC (.int 9))) aNil)))))) (oVal (m2 shlD (oVal (mC (.int 1))) (oVal (m2 addD (oVal (m2 ixD (oName 1) (oVal (mC (.int 1))))) (oVal (mC (.int 118))))))))) sNil)
  (sSeq (sIf (mB (m2 eqD (oName 2) (oVal (mC (.int 1))))) (sRet (m2 mulD (oName 3) (oVal (m2 subD (oVal (m2 shlD (oVal (mC (.int 1))) (oVal (m2 addD (oVal (m2 ixD (oName 1) (oVal (mC (.int 2))))) (oVal (mC (.int 120))))))) (oVal (m2 mulD (oVal (mCallU m_law_draw (aCons (oName 0) (aCons (oVal (mC (.int 5))) aNil)))) (oVal (m2 shlD (oVal (mC (.int 1))) (oVal (m2 subD (oVal (m2 subD (oVal (m2 addD (oVal (m2 ixD (oName 1) (oVal (mC (.int 2))))) (oVal (mC (.int 120))))) (oVal (m2 ixD (oName 1) (oVal (mC (.int 0))))))) (oVal (mCallU m_law_draw (aCons (oName 0) (aCons (oVal (mC (.int 3))) aNil)))))))))))))) sNil)
  (sSeq (sSet 4 (m2 addD (oVal (m2 addD (oVal (m2 ixD (oName 1) (oVal (mC (.int 1))))) (oVal (mC (.int 1))))) (oVal (mCallU m_law_draw (aCons (oName 0) (aCons (oVal (m2 addD (oVal (m2 subD (oVal (m2 ixD (oName 1) (oVal (mC (.int 2))))) (oVal (m2 ixD (oName 1) (oVal (mC (.int 1))))))) (oVal (mC (.int 2))))) aNil))))))
  (sSeq (sSet 5 (mCall maxD (aCons (oVal (m2 ixD (oName 1) (oVal (mC (.int 1))))) (aCons (oVal (m2 subD (oName 4) (oVal (m2 ixD (oName 1) (oVal (mC (.int 0))))))) aNil))))
  (sSeq (sSet 6 (m2 addD (oVal (m2 shlD (oVal (mC (.int 1))) (oVal (mCall maxD (aCons (oVal (mC (.int 0))) (aCons (oVal (m2 subD (oVal (m2 subD (oName 4) (oName 5))) (oVal (mC (.int 1))))) aNil)))))) (oVal (mCallU m_law_draw (aCons (oName 0) (aCons (oVal (m2 shlD (oVal (mC (.int 1))) (oVal (mCall minDL (aCons (oVal (mC (.int 20))) (aCons (oVal (mCall maxD (aCons (oVal (mC (.int 0))) (aCons (oVal (m2 subD (oVal (m2 subD (oName 4) (oName 5))) (oVal (mC (.int 1))))) aNil)))) aNil)))))) aNil))))))
  (sSeq (sSet 7 (m2 ixD (oVal (eNew (mLst (mDs [(mC (.int 0)), (m2 shlD (oVal (mC (.int 1))) (oVal (m2 addD (oName 5) (oVal (mC (.int 119)))))), (m2 addD (oVal (m2 shlD (oVal (mC (.int 1))) (oVal (m2 addD (oName 5) (oVal (mC (.int 119))))))) (oVal (mC (.int 1)))), (m2 subD (oVal (m2 shlD (oVal (mC (.int 1))) (oVal (m2 addD (oName 5) (oVal (mC (.int 119))))))) (oVal (mC (.int 1)))), (mC (.int 1)), (mCallU m_law_draw (aCons (oName 0) (aCons (oVal (mC (.int 1000003))) aNil)))])))) (oVal (mCallU m_law_draw (aCons (oName 0) (aCons (oVal (mC (.int 6))) aNil))))))
  (sRet (m2 mulD (oName 3) (oVal (m2 addD (oVal (m2 mulD (oName 6) (oVal (m2 shlD (oVal (mC (.int 1))) (oVal (m2 addD (oName 5) (oVal (mC (.int 120))))))))) (oName 7)))))))))))))
def m_law_number : FM := fnM 8 b_law_number
theorem sc_law_number : FnScope ["state", "form", "kind", "sign", "top", "step", "count", "part"] ["state", "form"] (defScope (topS 26)) := ⟨rfl, rfl, rfl, by decide +kernel, rfl, by decide +kernel, by decide +kernel⟩
theorem ok_law_number (T : T P K mg a d fi) : FnOk P w K mg base CX0 2 (a 26) (d 26) ["state", "form"] (spM K 2 m_law_number) := by
  have G_law_draw := ok_law_draw (P := P) (w := w) (base := base) T
  have nd := sc_law_number.nd
  refine fn_ok (N := ["state", "form", "kind", "sign", "top", "step", "count", "part"]) (body := b_law_number) T.F26 sc_law_number (by decide) fun cdv A outer s H E hr => ?_
  have hu : (A.deeper (envOfC "_law_number" (defScope (topS 26)) s.heap.objs.size (a 26) cdv)).units + 65 < cLine := by have := hr.un; omega
  have hu64 : (A.deeper (envOfC "_law_number" (defScope (topS 26)) s.heap.objs.size (a 26) cdv)).units + 64 < cLine := by have := hr.un; omega
  unfold b_law_number
  exact (ss_cons (s_set (i := 2) nd (e_callU G_law_draw (hr.mono (by decide)) T.m22 T.F22.kp T.b22 pass0 (a_cons (o_name 0) (a_cons (o_of e_int) a_nil)) (aCons_len (aCons_len aNil_len))))
  (ss_cons (s_set (i := 3) nd (e_sub (o_of e_int) (o_of (e_mul (o_of e_int) (o_of (e_callU G_law_draw (hr.mono (by decide)) T.m22 T.F22.kp T.b22 pass0 (a_cons (o_name 0) (a_cons (o_of e_int) a_nil)) (aCons_len (aCons_len aNil_len))))))))
  (ss_cons (s_if (t_cm (c_eq hu64) (o_name 2) (o_of e_int)) (ss_one (s_ret (e_mul (o_of (e_mul (o_name 3) (o_of (e_callU G_law_draw (hr.mono (by decide)) T.m22 T.F22.kp T.b22 pass0 (a_cons (o_name 0) (a_cons (o_of e_int) a_nil)) (aCons_len (aCons_len aNil_len)))))) (o_of (e_shl (o_of e_int) (o_of (e_add (o_of (e_at (o_name 1) (o_of e_int))) (o_of e_int)))))))) ss_nil)
  (ss_cons (s_if (t_cm (c_eq hu64) (o_name 2) (o_of e_int)) (ss_one (s_ret (e_mul (o_name 3) (o_of (e_sub (o_of (e_shl (o_of e_int) (o_of (e_add (o_of (e_at (o_name 1) (o_of e_int))) (o_of e_int))))) (o_of (e_mul (o_of (e_callU G_law_draw (hr.mono (by decide)) T.m22 T.F22.kp T.b22 pass0 (a_cons (o_name 0) (a_cons (o_of e_int) a_nil)) (aCons_len (aCons_len aNil_len)))) (o_of (e_shl (o_of e_int) (o_of (e_sub (o_of (e_sub (o_of (e_add (o_of (e_at (o_name 1) (o_of e_int))) (o_of e_int))) (o_of (e_at (o_name 1) (o_of e_int))))) (o_of (e_callU G_law_draw (hr.mono (by decide)) T.m22 T.F22.kp T.b22 pass0 (a_cons (o_name 0) (a_cons (o_of e_int) a_nil)) (aCons_len (aCons_len aNil_len))))))))))))))) ss_nil)
  (ss_cons (s_set (i := 4) nd (e_add (o_of (e_add (o_of (e_at (o_name 1) (o_of e_int))) (o_of e_int))) (o_of (e_callU G_law_draw (hr.mono (by decide)) T.m22 T.F22.kp T.b22 pass0 (a_cons (o_name 0) (a_cons (o_of (e_add (o_of (e_sub (o_of (e_at (o_name 1) (o_of e_int))) (o_of (e_at (o_name 1) (o_of e_int))))) (o_of e_int))) a_nil)) (aCons_len (aCons_len aNil_len))))))
  (ss_cons (s_set (i := 5) nd (e_max rfl T.z_max (a_cons (o_of (e_at (o_name 1) (o_of e_int))) (a_cons (o_of (e_sub (o_name 4) (o_of (e_at (o_name 1) (o_of e_int))))) a_nil))))
  (ss_cons (s_set (i := 6) nd (e_add (o_of (e_shl (o_of e_int) (o_of (e_max rfl T.z_max (a_cons (o_of e_int) (a_cons (o_of (e_sub (o_of (e_sub (o_name 4) (o_name 5))) (o_of e_int))) a_nil)))))) (o_of (e_callU G_law_draw (hr.mono (by decide)) T.m22 T.F22.kp T.b22 pass0 (a_cons (o_name 0) (a_cons (o_of (e_shl (o_of e_int) (o_of (e_min rfl T.z_min (a_cons (o_of e_int) (a_cons (o_of (e_max rfl T.z_max (a_cons (o_of e_int) (a_cons (o_of (e_sub (o_of (e_sub (o_name 4) (o_name 5))) (o_of e_int))) a_nil)))) a_nil)))))) a_nil)) (aCons_len (aCons_len aNil_len))))))
  (ss_cons (s_set (i := 7) nd (e_at (o_of (e_new (f_lst (v_cons e_int (v_cons (e_shl (o_of e_int) (o_of (e_add (o_name 5) (o_of e_int)))) (v_cons (e_add (o_of (e_shl (o_of e_int) (o_of (e_add (o_name 5) (o_of e_int))))) (o_of e_int)) (v_cons (e_sub (o_of (e_shl (o_of e_int) (o_of (e_add (o_name 5) (o_of e_int))))) (o_of e_int)) (v_cons e_int (v_cons (e_callU G_law_draw (hr.mono (by decide)) T.m22 T.F22.kp T.b22 pass0 (a_cons (o_name 0) (a_cons (o_of e_int) a_nil)) (aCons_len (aCons_len aNil_len))) v_nil))))))))) (o_of (e_callU G_law_draw (hr.mono (by decide)) T.m22 T.F22.kp T.b22 pass0 (a_cons (o_name 0) (a_cons (o_of e_int) a_nil)) (aCons_len (aCons_len aNil_len))))))
  (ss_one (s_ret (e_mul (o_name 3) (o_of (e_add (o_of (e_mul (o_name 6) (o_of (e_shl (o_of e_int) (o_of (e_add (o_name 5) (o_of e_int))))))) (o_name 7))))))))))))))
/-! ### laid(form, below, count, rest, whole): 0 form 1 below 2 count 3 rest 4 whole 5 told -/
def b_laid : MT :=
  (sSeq (sIf (bOr (mB (m2 gtD (oVal (m2 mulD (oVal (mC (.int 2))) (oName 3))) (oName 4))) (bAnd (mB (m2 eqD (oVal (m2 mulD (oVal (mC (.int 2))) (oName 3))) (oName 4))) (mB (m2 eqD (oVal (m2 modD (oName 2) (oVal (mC (.int 2))))) (oVal (mC (.int 1))))))) (sAug addI 2 (mC (.int 1))) sNil)
  (sSeq (sSet 5 (mCallU m_dyadic (aCons (oName 2) (aCons (oName 1) aNil))))
  (sSeq (sIf (bAnd (mB (m2 gtD (oName 2) (oVal (mC (.int 0))))) (mB (m2 gtD (oVal (mCallU m_top_of (aCons (oName 5) aNil))) (oVal (m2 ixD (oName 0) (oVal (mC (.int 2)))))))) (sRet (mTup (mDs [(mC .none), (mC (.str "great"))]))) sNil)
  (sRet (mTup (mDs [(mVar 5), (mC .none)]))))))
def m_laid : FM := fnM 6 b_laid
theorem sc_laid : FnScope ["form", "below", "count", "rest", "whole", "told"] ["form", "below", "count", "rest", "whole"] (defScope (topS 15)) := ⟨rfl, rfl, rfl, by decide +kernel, rfl, by decide +kernel, by decide +kernel⟩
theorem ok_laid (T : T P K mg a d fi) : FnOk P w K mg base CX0 3 (a 15) (d 15) ["form", "below", "count", "rest", "whole"] (spM K 5 m_laid) := by
  have G_dyadic := ok_dyadic (P := P) (w := w) (base := base) T
  have G_top_of := ok_top_of (P := P) (w := w) (base := base) T
  have nd := sc_laid.nd
  refine fn_ok (N := ["form", "below", "count", "rest", "whole", "told"]) (body := b_laid) T.F15 sc_laid (by decide) fun cdv A outer s H E hr => ?_
  have hu : (A.deeper (envOfC "laid" (defScope (topS 15)) s.heap.objs.size (a 15) cdv)).units + 65 < cLine := by have := hr.un; omega
  have hu64 : (A.deeper (envOfC "laid" (defScope (topS 15)) s.heap.objs.size (a 15) cdv)).units + 64 < cLine := by have := hr.un; omega
  unfold b_laid
  exact (ss_cons (s_if (t_w (w_or (t_cm c_gt (o_of (e_mul (o_of e_int) (o_name 3))) (o_name 4)) (w_or1 (t_w (w_and (t_cm (c_eq hu64) (o_of (e_mul (o_of e_int) (o_name 3))) (o_name 4)) (w_and1 (t_cm (c_eq hu64) (o_of (e_mod (o_name 2) (o_of e_int))) (o_of e_int)))))))) (ss_one (s_augAdd (i := 2) nd e_int)) ss_nil)
  (ss_cons (s_set (i := 5) nd (e_callU G_dyadic (hr.mono (by decide)) T.m8 T.F8.kp T.b8 pass0 (a_cons (o_name 2) (a_cons (o_name 1) a_nil)) (aCons_len (aCons_len aNil_len))))
  (ss_cons (s_if (t_w (w_and (t_cm c_gt (o_name 2) (o_of e_int)) (w_and1 (t_cm c_gt (o_of (e_callU G_top_of (hr.mono (by decide)) T.m10 T.F10.kp T.b10 pass0 (a_cons (o_name 5) a_nil) (aCons_len aNil_len))) (o_of (e_at (o_name 0) (o_of e_int))))))) (ss_one (s_ret (e_tup (v_cons e_non (v_cons e_str v_nil))))) ss_nil)
  (ss_one (s_ret (e_tup (v_cons (e_of (o_name 5)) (v_cons e_non v_nil))))))))
/-! ### check_format(value): 0 value -/
def b_check_format : MT :=
  (sIf (bNot (mTruth (oVal (mCallU m_is_format (aCons (oName 0) aNil))))) (sRaise 3 "InvalidFormat" (mVar 0)) sNil)
def m_check_format : FM := fnM 1 b_check_format
theorem sc_check_format : FnScope ["value"] ["value"] (defScope (topS 14)) := ⟨rfl, rfl, rfl, by decide +kernel, rfl, by decide +kernel, by decide +kernel⟩
theorem ok_check_format (T : T P K mg a d fi) : FnOk P w K mg base (L2.CX P w) 4 (a 14) (d 14) ["value"] (spX K a "CutError" 1 m_check_format) := by
  obtain ⟨fd_err3, G_err3, B_err3⟩ := okE3 (w := w) (base := base) T
  have G_is_format := ok_is_format (P := P) (w := w) (base := base) T
  have nd := sc_check_format.nd
  refine fn_okX (N := ["value"]) (body := b_check_format) T.F14 sc_check_format (by decide) fun cdv A outer s H E hr => ?_
  have hu : (A.deeper (envOfC "check_format" (defScope (topS 14)) s.heap.objs.size (a 14) cdv)).units + 65 < cLine := by have := hr.un; omega
  have hu64 : (A.deeper (envOfC "check_format" (defScope (topS 14)) s.heap.objs.size (a 14) cdv)).units + 64 < cLine := by have := hr.un; omega
  unfold b_check_format
  exact (xs_one (x_if (t_not (t_of (o_of (e_callU G_is_format (hr.mono (by decide)) T.m13 T.F13.kp T.b13 pass0 (a_cons (o_name 0) a_nil) (aCons_len aNil_len))))) (xs_one (x_raise (k := 2) rfl (takes_of rfl rfl rfl rfl) T.e3.oex T.e3.iC T.e3.ty G_err3 (hr.mono (by decide)) B_err3 passX T.e3.mC (e_of (o_name 0)))) xs_nil))
/-! ### rounded(form, x): 0 form 1 x 2 below 3 told 4 whole -/
def b_rounded : MT :=
  (sSeq (sIf (mB (m2 eqD (oName 1) (oVal (mC d_NOUGHT)))) (sRet (mTup (mDs [(mC d_NOUGHT), (mC .none)]))) sNil)
  (sSeq (sSet 2 (mCall maxD (aCons (oVal (m2 ixD (oName 0) (oVal (mC (.int 1))))) (aCons (oVal (m2 subD (oVal (mCallU m_top_of (aCons (oName 1) aNil))) (oVal (m2 ixD (oName 0) (oVal (mC (.int 0))))))) aNil))))
  (sSeq (sIf (mB (m2 geD (oVal (m2 ixD (oName 1) (oVal (mC (.int 1))))) (oName 2))) (sSet 3 (mCallU m_laid (aCons (oName 0) (aCons (oVal (m2 ixD (oName 1) (oVal (mC (.int 1))))) (aCons (oVal (mCall absD (aCons (oVal (m2 ixD (oName 1) (oVal (mC (.int 0))))) aNil))) (aCons (oVal (mC (.int 0))) (aCons (oVal (mC (.int 1))) aNil))))))) (sSeq (sSet 4 (m2 shlD (oVal (mC (.int 1))) (oVal (m2 subD (oName 2) (oVal (m2 ixD (oName 1) (oVal (mC (.int 1)))))))))
  (sSet 3 (mCallU m_laid (aCons (oName 0) (aCons (oName 2) (aCons (oVal (m2 fdivD (oVal (mCall absD (aCons (oVal (m2 ixD (oName 1) (oVal (mC (.int 0))))) aNil))) (oName 4))) (aCons (oVal (m2 modD (oVal (mCall absD (aCons (oVal (m2 ixD (oName 1) (oVal (mC (.int 0))))) aNil))) (oName 4))) (aCons (oName 4) aNil)))))))))
  (sRet (mCallU m_signed (aCons (oName 3) (aCons (oVal (m2 ltD (oVal (m2 ixD (oName 1) (oVal (mC (.int 0))))) (oVal (mC (.int 0))))) aNil)))))))
def m_rounded : FM := fnM 5 b_rounded
theorem sc_rounded : FnScope ["form", "x", "below", "told", "whole"] ["form", "x"] (defScope (topS 17)) := ⟨rfl, rfl, rfl, by decide +kernel, rfl, by decide +kernel, by decide +kernel⟩
theorem ok_rounded (T : T P K mg a d fi) : FnOk P w K mg base CX0 4 (a 17) (d 17) ["form", "x"] (spM K 2 m_rounded) := by
  have G_signed := ok_signed (P := P) (w := w) (base := base) T
  have G_laid := ok_laid (P := P) (w := w) (base := base) T
  have G_top_of := ok_top_of (P := P) (w := w) (base := base) T
  obtain ⟨u_NOUGHT, v_NOUGHT, c_NOUGHT⟩ := T.k_NOUGHT
  have nd := sc_rounded.nd
  refine fn_ok (N := ["form", "x", "below", "told", "whole"]) (body := b_rounded) T.F17 sc_rounded (by decide) fun cdv A outer s H E hr => ?_
  have hu : (A.deeper (envOfC "rounded" (defScope (topS 17)) s.heap.objs.size (a 17) cdv)).units + 65 < cLine := by have := hr.un; omega
  have hu64 : (A.deeper (envOfC "rounded" (defScope (topS 17)) s.heap.objs.size (a 17) cdv)).units + 64 < cLine := by have := hr.un; omega
  unfold b_rounded
  exact (ss_cons (s_if (t_cm (c_eq hu64) (o_name 1) (o_of (e_glob rfl c_NOUGHT.1 c_NOUGHT.2.1 c_NOUGHT.2.2))) (ss_one (s_ret (e_tup (v_cons (e_glob rfl c_NOUGHT.1 c_NOUGHT.2.1 c_NOUGHT.2.2) (v_cons e_non v_nil))))) ss_nil)
  (ss_cons (s_set (i := 2) nd (e_max rfl T.z_max (a_cons (o_of (e_at (o_name 0) (o_of e_int))) (a_cons (o_of (e_sub (o_of (e_callU G_top_of (hr.mono (by decide)) T.m10 T.F10.kp T.b10 pass0 (a_cons (o_name 1) a_nil) (aCons_len aNil_len))) (o_of (e_at (o_name 0) (o_of e_int))))) a_nil))))
  (ss_cons (s_if (t_cm c_ge (o_of (e_at (o_name 1) (o_of e_int))) (o_name 2)) (ss_one (s_set (i := 3) nd (e_callU G_laid (hr.mono (by decide)) T.m15 T.F15.kp T.b15 pass0 (a_cons (o_name 0) (a_cons (o_of (e_at (o_name 1) (o_of e_int))) (a_cons (o_of (e_abs T.z_abs (a_cons (o_of (e_at (o_name 1) (o_of e_int))) a_nil))) (a_cons (o_of e_int) (a_cons (o_of e_int) a_nil))))) (aCons_len (aCons_len (aCons_len (aCons_len (aCons_len aNil_len)))))))) (ss_cons (s_set (i := 4) nd (e_shl (o_of e_int) (o_of (e_sub (o_name 2) (o_of (e_at (o_name 1) (o_of e_int)))))))
  (ss_one (s_set (i := 3) nd (e_callU G_laid (hr.mono (by decide)) T.m15 T.F15.kp T.b15 pass0 (a_cons (o_name 0) (a_cons (o_name 2) (a_cons (o_of (e_fdiv (o_of (e_abs T.z_abs (a_cons (o_of (e_at (o_name 1) (o_of e_int))) a_nil))) (o_name 4))) (a_cons (o_of (e_mod (o_of (e_abs T.z_abs (a_cons (o_of (e_at (o_name 1) (o_of e_int))) a_nil))) (o_name 4))) (a_cons (o_name 4) a_nil))))) (aCons_len (aCons_len (aCons_len (aCons_len (aCons_len aNil_len))))))))))
  (ss_one (s_ret (e_callU G_signed (hr.mono (by decide)) T.m16 T.F16.kp T.b16 pass0 (a_cons (o_name 3) (a_cons (o_of (e_cm c_lt (o_of (e_at (o_name 1) (o_of e_int))) (o_of e_int))) a_nil)) (aCons_len (aCons_len aNil_len))))))))
/-! ### numbers_of(form, most): 0 form 1 most 2 amounts 3 below 4 count 5 x -/
def b_numbers_of : MT :=
  (sSeq (sPar [2, 3, 4] (xNew (mLst (mDs [])) (xVal (m2 ixD (oName 0) (oVal (mC (.int 1)))) (xVal (mC (.int 1)) xNil))))
  (sSeq (sWhile (mTruth (oVal (mC (.bool true)))) (sSeq (sSet 5 (mCallU m_dyadic (aCons (oName 4) (aCons (oName 3) aNil))))
  (sSeq (sIf (mB (m2 gtD (oVal (mCallU m_top_of (aCons (oName 5) aNil))) (oVal (m2 ixD (oName 0) (oVal (mC (.int 2))))))) sBreak sNil)
  (sSeq (sDrop (mApp 2 (mVar 5)))
  (sSeq (sIf (mB (m2 gtD (oVal (m2 addD (oVal (m2 mulD (oVal (mC (.int 2))) (oVal (mCall lenD (aCons (oName 2) aNil))))) (oVal (mC (.int 1))))) (oName 1))) (sRaise 2 "TooLarge" (mVar 1)) sNil)
  (sSeq (sAug addI 4 (mC (.int 1)))
  (sIf (mB (m2 eqD (oName 4) (oVal (m2 shlD (oVal (mC (.int 1))) (oVal (m2 ixD (oName 0) (oVal (mC (.int 0))))))))) (sPar [4, 3] (xVal (m2 fdivD (oName 4) (oVal (mC (.int 2)))) (xVal (m2 addD (oName 3) (oVal (mC (.int 1)))) xNil))) sNil)))))))
  (sRet (m2 addD (oVal (m2 addD (oVal (eNew (mLc (mSeq (eNew (m1F revF (oName 2)))) (gN 5) tYesM (mCallU m_minus_of (aCons (oName 5) aNil)) [5]))) (oVal (eNew (mLst (mDs [(mC d_NOUGHT)])))))) (oName 2)))))
def m_numbers_of : FM := fnM 6 b_numbers_of
theorem sc_numbers_of : FnScope ["form", "most", "amounts", "below", "count", "x"] ["form", "most"] (defScope (topS 19)) := ⟨rfl, rfl, rfl, by decide +kernel, rfl, by decide +kernel, by decide +kernel⟩
theorem ok_numbers_of (T : T P K mg a d fi) : FnOk P w K mg base (L2.CX P w) 4 (a 19) (d 19) ["form", "most"] (spX K a "CutError" 2 m_numbers_of) := by
  obtain ⟨fd_err2, G_err2, B_err2⟩ := okE2 (w := w) (base := base) T
  have G_dyadic := ok_dyadic (P := P) (w := w) (base := base) T
  have G_top_of := ok_top_of (P := P) (w := w) (base := base) T
  have G_minus_of := ok_minus_of (P := P) (w := w) (base := base) T
  obtain ⟨u_NOUGHT, v_NOUGHT, c_NOUGHT⟩ := T.k_NOUGHT
  have nd := sc_numbers_of.nd
  refine fn_okX (N := ["form", "most", "amounts", "below", "count", "x"]) (body := b_numbers_of) T.F19 sc_numbers_of (by decide) fun cdv A outer s H E hr => ?_
  have hu : (A.deeper (envOfC "numbers_of" (defScope (topS 19)) s.heap.objs.size (a 19) cdv)).units + 65 < cLine := by have := hr.un; omega
  have hu64 : (A.deeper (envOfC "numbers_of" (defScope (topS 19)) s.heap.objs.size (a 19) cdv)).units + 64 < cLine := by have := hr.un; omega
  unfold b_numbers_of
  exact (xs_cons (x_lift (s_par3 (i := 2) (j := 3) (l := 4) rfl nd (by decide) (by decide) (by decide) (x_new (f_lst v_nil) (x_val (e_at (o_name 0) (o_of e_int)) (x_val e_int x_nil)))))
  (xs_cons (x_while (passes_of rfl) (t_of (o_of e_bl)) (xs_cons (x_lift (s_set (i := 5) nd (e_callU G_dyadic (hr.mono (by decide)) T.m8 T.F8.kp T.b8 pass0 (a_cons (o_name 4) (a_cons (o_name 3) a_nil)) (aCons_len (aCons_len aNil_len)))))
  (xs_cons (x_lift (s_if (t_cm c_gt (o_of (e_callU G_top_of (hr.mono (by decide)) T.m10 T.F10.kp T.b10 pass0 (a_cons (o_name 5) a_nil) (aCons_len aNil_len))) (o_of (e_at (o_name 0) (o_of e_int)))) (ss_one s_break) ss_nil))
  (xs_cons (x_lift (s_expr (e_append 2 (e_of (o_name 5)))))
  (xs_cons (x_if (t_cm c_gt (o_of (e_add (o_of (e_mul (o_of e_int) (o_of (e_len T.z_len (a_cons (o_name 2) a_nil))))) (o_of e_int))) (o_name 1)) (xs_one (x_raise (k := 2) rfl (takes_of rfl rfl rfl rfl) T.e2.oex T.e2.iC T.e2.ty G_err2 (hr.mono (by decide)) B_err2 passX T.e2.mC (e_of (o_name 1)))) xs_nil)
  (xs_lift (ss_cons (s_augAdd (i := 4) nd e_int)
  (ss_one (s_if (t_cm (c_eq hu64) (o_name 4) (o_of (e_shl (o_of e_int) (o_of (e_at (o_name 0) (o_of e_int)))))) (ss_one (s_par2 (i := 4) (j := 3) rfl nd (by decide) (x_val (e_fdiv (o_name 4) (o_of e_int)) (x_val (e_add (o_name 3) (o_of e_int)) x_nil)))) ss_nil)))))))))
  (xs_lift (ss_one (s_ret (e_add (o_of (e_add (o_of (e_new (f_lc (own := [("x", 5)]) rfl nd (i_seq (e_new (f_revL (o_name 2)))) (blkOk_by (N := ["form", "most", "amounts", "below", "count", "x"]) (sc := defScope (topS 19)) (by decide +kernel)) (by decide) (fun _ _ _ _ _ => (g_name 5 nd)) (fun _ _ _ _ _ => ts_nil) (fun _ _ _ _ _ => (e_callU G_minus_of (hr.mono (by decide)) T.m9 T.F9.kp T.b9 pass0 (a_cons (o_name 5) a_nil) (aCons_len aNil_len)))))) (o_of (e_new (f_lst (v_cons (e_glob rfl c_NOUGHT.1 c_NOUGHT.2.1 c_NOUGHT.2.2) v_nil)))))) (o_name 2)))))))
/-! ### is_of_format(form, value): 0 form 1 value -/
def b_is_of_format : MT :=
  (sSeq (sIf (bOr (bNot (mTruth (oVal (mCallU m_is_exact (aCons (oName 1) aNil))))) (bOr (mB (m2 ltD (oVal (m2 ixD (oName 1) (oVal (mC (.int 1))))) (oVal (m2 ixD (oName 0) (oVal (mC (.int 1))))))) (mB (m2 gtD (oVal (mCallU m_places_of_whole (aCons (oVal (mCall absD (aCons (oVal (m2 ixD (oName 1) (oVal (mC (.int 0))))) aNil))) aNil))) (oVal (m2 ixD (oName 0) (oVal (mC (.int 0))))))))) (sRet (mC (.bool false))) sNil)
  (sRet (m2 eqD (oVal (mCallU m_rounded (aCons (oName 0) (aCons (oName 1) aNil)))) (oVal (mTup (mDs [(mVar 1), (mC .none)]))))))
def m_is_of_format : FM := fnM 2 b_is_of_format
theorem sc_is_of_format : FnScope ["form", "value"] ["form", "value"] (defScope (topS 18)) := ⟨rfl, rfl, rfl, by decide +kernel, rfl, by decide +kernel, by decide +kernel⟩
theorem ok_is_of_format (T : T P K mg a d fi) : FnOk P w K mg base CX0 5 (a 18) (d 18) ["form", "value"] (spM K 2 m_is_of_format) := by
  have G_rounded := ok_rounded (P := P) (w := w) (base := base) T
  have G_is_exact := ok_is_exact (P := P) (w := w) (base := base) T
  have G_places_of_whole := ok_places_of_whole (P := P) (w := w) (base := base) T
  have nd := sc_is_of_format.nd
  refine fn_ok (N := ["form", "value"]) (body := b_is_of_format) T.F18 sc_is_of_format (by decide) fun cdv A outer s H E hr => ?_
  have hu : (A.deeper (envOfC "is_of_format" (defScope (topS 18)) s.heap.objs.size (a 18) cdv)).units + 65 < cLine := by have := hr.un; omega
  have hu64 : (A.deeper (envOfC "is_of_format" (defScope (topS 18)) s.heap.objs.size (a 18) cdv)).units + 64 < cLine := by have := hr.un; omega
  unfold b_is_of_format
  exact (ss_cons (s_if (t_w (w_or (t_not (t_of (o_of (e_callU G_is_exact (hr.mono (by decide)) T.m7 T.F7.kp T.b7 pass0 (a_cons (o_name 1) a_nil) (aCons_len aNil_len))))) (w_or (t_cm c_lt (o_of (e_at (o_name 1) (o_of e_int))) (o_of (e_at (o_name 0) (o_of e_int)))) (w_or1 (t_cm c_gt (o_of (e_callU G_places_of_whole (hr.mono (by decide)) T.m11 T.F11.kp T.b11 pass0 (a_cons (o_of (e_abs T.z_abs (a_cons (o_of (e_at (o_name 1) (o_of e_int))) a_nil))) a_nil) (aCons_len aNil_len))) (o_of (e_at (o_name 0) (o_of e_int)))))))) (ss_one (s_ret e_bl)) ss_nil)
  (ss_one (s_ret (e_cm (c_eq hu64) (o_of (e_callU G_rounded (hr.mono (by decide)) T.m17 T.F17.kp T.b17 pass0 (a_cons (o_name 0) (a_cons (o_name 1) a_nil)) (aCons_len (aCons_len aNil_len)))) (o_of (e_tup (v_cons (e_of (o_name 1)) (v_cons e_non v_nil))))))))
/-! ### _law_listed(state): 0 state 1 form 2 due 3 k 4 n 5 error -/
def b_law_listed : MT :=
  (sSeq (sSet 1 (mTup (mDs [(m2 addD (oVal (mC (.int 2))) (oVal (mCallU m_law_draw (aCons (oName 0) (aCons (oVal (mC (.int 3))) aNil))))), (m2 subD (oVal (m1 negD (oVal (mC (.int 1))))) (oVal (mCallU m_law_draw (aCons (oName 0) (aCons (oVal (mC (.int 4))) aNil))))), (m2 addD (oVal (mC (.int 1))) (oVal (mCallU m_law_draw (aCons (oName 0) (aCons (oVal (mC (.int 4))) aNil)))))])))
  (sSeq (sNew 2 (mLst (mDs [])))
  (sSeq (sFor (mCall rng2 (aCons (oVal (m2 subD (oVal (mC (.int 1))) (oVal (m2 shlD (oVal (mC (.int 1))) (oVal (m2 subD (oVal (m2 ixD (oName 1) (oVal (mC (.int 2))))) (oVal (m2 ixD (oName 1) (oVal (mC (.int 1))))))))))) (aCons (oVal (m2 shlD (oVal (mC (.int 1))) (oVal (m2 subD (oVal (m2 ixD (oName 1) (oVal (mC (.int 2))))) (oVal (m2 ixD (oName 1) (oVal (mC (.int 1))))))))) aNil))) (gN 3) (sSeq (sSet 4 (m2 mulD (oName 3) (oVal (m2 shlD (oVal (mC (.int 1))) (oVal (m2 addD (oVal (m2 ixD (oName 1) (oVal (mC (.int 1))))) (oVal (mC (.int 120)))))))))
  (sIf (mB (m2 eqD (oVal (mCallU m_law_due (aCons (oName 1) (aCons (oName 4) aNil)))) (oVal (mTup (mDs [(mCallU m_law_exact (aCons (oName 4) (aCons (oVal (mC (.int 120))) aNil))), (mC .none)]))))) (sDrop (mApp 2 (mCallU m_law_exact (aCons (oName 4) (aCons (oVal (mC (.int 120))) aNil))))) sNil)))
  (sSeq (sIf (bOr (mB (m2 neD (oVal (mCallU (noErr m_numbers_of) (aCons (oName 1) (aCons (oVal (mCall lenD (aCons (oName 2) aNil))) aNil)))) (oName 2))) (mB (m2 neD (oVal (mCallU (noErr m_numbers_of) (aCons (oName 1) (aCons (oVal (m2 addD (oVal (m2 addD (oVal (mCall lenD (aCons (oName 2) aNil))) (oVal (mC (.int 1))))) (oVal (mCallU m_law_draw (aCons (oName 0) (aCons (oVal (mC (.int 50))) aNil)))))) aNil)))) (oName 2)))) (sRet (mC (.bool false))) sNil)
  (sSeq (sTryAs m_numbers_of (aCons (oName 1) (aCons (oVal (m2 subD (oVal (mCall lenD (aCons (oName 2) aNil))) (oVal (mC (.int 1))))) aNil)) 2 "TooLarge" 5 (fun pl => (sRet (eAnd (m2 eqD (oVal (mC pl)) (oVal (m2 subD (oVal (mCall lenD (aCons (oName 2) aNil))) (oVal (mC (.int 1)))))) (m2 eqD (oVal (mC (.str "TooLarge"))) (oVal (mC (.str "TooLarge"))))))))
  (sRet (mC (.bool false))))))))
def m_law_listed : FM := fnM 6 b_law_listed
theorem sc_law_listed : FnScope ["state", "form", "due", "k", "n", "error"] ["state"] (defScope (topS 28)) := ⟨rfl, rfl, rfl, by decide +kernel, rfl, by decide +kernel, by decide +kernel⟩
theorem ok_law_listed (T : T P K mg a d fi) : FnOk P w K mg base CX0 5 (a 28) (d 28) ["state"] (spM K 1 m_law_listed) := by
  have G_numbers_of := ok_numbers_of (P := P) (w := w) (base := base) T
  have G_law_draw := ok_law_draw (P := P) (w := w) (base := base) T
  have G_law_due := ok_law_due (P := P) (w := w) (base := base) T
  have G_law_exact := ok_law_exact (P := P) (w := w) (base := base) T
  have nd := sc_law_listed.nd
  refine fn_ok (N := ["state", "form", "due", "k", "n", "error"]) (body := b_law_listed) T.F28 sc_law_listed (by decide) fun cdv A outer s H E hr => ?_
  have hu : (A.deeper (envOfC "_law_listed" (defScope (topS 28)) s.heap.objs.size (a 28) cdv)).units + 65 < cLine := by have := hr.un; omega
  have hu64 : (A.deeper (envOfC "_law_listed" (defScope (topS 28)) s.heap.objs.size (a 28) cdv)).units + 64 < cLine := by have := hr.un; omega
  unfold b_law_listed
  exact (ss_cons (s_set (i := 1) nd (e_tup (v_cons (e_add (o_of e_int) (o_of (e_callU G_law_draw (hr.mono (by decide)) T.m22 T.F22.kp T.b22 pass0 (a_cons (o_name 0) (a_cons (o_of e_int) a_nil)) (aCons_len (aCons_len aNil_len))))) (v_cons (e_sub (o_of (e_neg (o_of e_int))) (o_of (e_callU G_law_draw (hr.mono (by decide)) T.m22 T.F22.kp T.b22 pass0 (a_cons (o_name 0) (a_cons (o_of e_int) a_nil)) (aCons_len (aCons_len aNil_len))))) (v_cons (e_add (o_of e_int) (o_of (e_callU G_law_draw (hr.mono (by decide)) T.m22 T.F22.kp T.b22 pass0 (a_cons (o_name 0) (a_cons (o_of e_int) a_nil)) (aCons_len (aCons_len aNil_len))))) v_nil)))))
  (ss_cons (s_new (i := 2) nd (f_lst v_nil))
  (ss_cons (s_for PassesOwn.never rfl (i_range2 T.z_range (a_cons (o_of (e_sub (o_of e_int) (o_of (e_shl (o_of e_int) (o_of (e_sub (o_of (e_at (o_name 1) (o_of e_int))) (o_of (e_at (o_name 1) (o_of e_int))))))))) (a_cons (o_of (e_shl (o_of e_int) (o_of (e_sub (o_of (e_at (o_name 1) (o_of e_int))) (o_of (e_at (o_name 1) (o_of e_int))))))) a_nil))) (g_name 3 nd) (ss_cons (s_set (i := 4) nd (e_mul (o_name 3) (o_of (e_shl (o_of e_int) (o_of (e_add (o_of (e_at (o_name 1) (o_of e_int))) (o_of e_int)))))))
  (ss_one (s_if (t_cm (c_eq hu64) (o_of (e_callU G_law_due (hr.mono (by decide)) T.m25 T.F25.kp T.b25 pass0 (a_cons (o_name 1) (a_cons (o_name 4) a_nil)) (aCons_len (aCons_len aNil_len)))) (o_of (e_tup (v_cons (e_callU G_law_exact (hr.mono (by decide)) T.m23 T.F23.kp T.b23 pass0 (a_cons (o_name 4) (a_cons (o_of e_int) a_nil)) (aCons_len (aCons_len aNil_len))) (v_cons e_non v_nil))))) (ss_one (s_expr (e_append 2 (e_callU G_law_exact (hr.mono (by decide)) T.m23 T.F23.kp T.b23 pass0 (a_cons (o_name 4) (a_cons (o_of e_int) a_nil)) (aCons_len (aCons_len aNil_len)))))) ss_nil))))
  (ss_cons (s_if (t_w (w_or (t_cm (c_ne hu64) (o_of (e_callU (fnX_no G_numbers_of) (hr.mono (by decide)) T.m19 T.F19.kp T.b19 passX (a_cons (o_name 1) (a_cons (o_of (e_len T.z_len (a_cons (o_name 2) a_nil))) a_nil)) (aCons_len (aCons_len aNil_len)))) (o_name 2)) (w_or1 (t_cm (c_ne hu64) (o_of (e_callU (fnX_no G_numbers_of) (hr.mono (by decide)) T.m19 T.F19.kp T.b19 passX (a_cons (o_name 1) (a_cons (o_of (e_add (o_of (e_add (o_of (e_len T.z_len (a_cons (o_name 2) a_nil))) (o_of e_int))) (o_of (e_callU G_law_draw (hr.mono (by decide)) T.m22 T.F22.kp T.b22 pass0 (a_cons (o_name 0) (a_cons (o_of e_int) a_nil)) (aCons_len (aCons_len aNil_len)))))) a_nil)) (aCons_len (aCons_len aNil_len)))) (o_name 2))))) (ss_one (s_ret e_bl)) ss_nil)
  (ss_cons (s_tryAs (nm := "TooLarge") (j := 5) nd G_numbers_of (hr.mono (by decide)) T.m19 T.F19.kp T.b19 (fun pn xe => (a_cons (o_name 1) (a_cons (o_of (e_sub (o_of (e_len T.z_len (a_cons (o_name 2) a_nil))) (o_of e_int))) a_nil))) (aCons_len (aCons_len aNil_len)) T.e2.mC T.e2.exm (fun aa oe cls dO pn pl hz hf => (q_sone (q_ret (q_and (q_cm (c_eq hu64) (q_place T.e2.nt T.x2 hz hf (pv 5)) (o_of (e_sub (o_of (e_len T.z_len (a_cons (o_name 2) a_nil))) (o_of e_int)))) (q_one (q_cm (c_eq hu64) (q_name T.e2.nt T.x2 hz hf (pv 5)) (o_of e_str))))))))
  (ss_one (s_ret e_bl)))))))
/-! ### _law_refused(value): 0 value 1 error -/
def b_law_refused : MT :=
  (sSeq (sTryAs m_check_format (aCons (oName 0) aNil) 3 "InvalidFormat" 1 (fun pl => (sRet (eAnd (m2 eqD (oVal (mC pl)) (oName 0)) (eAnd (m2 eqD (oVal (mC (.str "InvalidFormat"))) (oVal (mC (.str "InvalidFormat")))) (mC (.bool true)))))))
  (sRet (mC (.bool false))))
def m_law_refused : FM := fnM 2 b_law_refused
theorem sc_law_refused : FnScope ["value", "error"] ["value"] (defScope (topS 29)) := ⟨rfl, rfl, rfl, by decide +kernel, rfl, by decide +kernel, by decide +kernel⟩
theorem ok_law_refused (T : T P K mg a d fi) : FnOk P w K mg base CX0 5 (a 29) (d 29) ["value"] (spM K 1 m_law_refused) := by
  have G_check_format := ok_check_format (P := P) (w := w) (base := base) T
  have nd := sc_law_refused.nd
  refine fn_ok (N := ["value", "error"]) (body := b_law_refused) T.F29 sc_law_refused (by decide) fun cdv A outer s H E hr => ?_
  have hu : (A.deeper (envOfC "_law_refused" (defScope (topS 29)) s.heap.objs.size (a 29) cdv)).units + 65 < cLine := by have := hr.un; omega
  have hu64 : (A.deeper (envOfC "_law_refused" (defScope (topS 29)) s.heap.objs.size (a 29) cdv)).units + 64 < cLine := by have := hr.un; omega
  unfold b_law_refused
  exact (ss_cons (s_tryAs (nm := "InvalidFormat") (j := 1) nd G_check_format (hr.mono (by decide)) T.m14 T.F14.kp T.b14 (fun pn xe => (a_cons (o_name 0) a_nil)) (aCons_len aNil_len) T.e3.mC T.e3.exm (fun aa oe cls dO pn pl hz hf => (q_sone (q_ret (q_and (q_cm (c_eq hu64) (q_place T.e3.nt T.x3 hz hf (pv 1)) (o_name 0)) (q_and (q_cm (c_eq hu64) (q_name T.e3.nt T.x3 hz hf (pv 1)) (o_of e_str)) (q_one (q_isi (vy := .ref (a 1)) T.z_isinstance T.x3 T.q3_1 (fun _ z => z) (pe_glob rfl T.g1 rfl) hz hf (pv 1)))))))))
  (ss_one (s_ret e_bl)))
/-! ### _law_round_all(state): 0 state 1 _ 2 form 3 n 4 x 5 due 6 told -/
def b_law_round_all : MT :=
  (sSeq (sFor (mCall rng1 (aCons (oVal (mC (.int 10))) aNil)) (gN 1) (sSeq (sSet 2 (mCallU m_law_form (aCons (oName 0) aNil)))
  (sSeq (sSet 3 (mCallU m_law_number (aCons (oName 0) (aCons (oName 2) aNil))))
  (sSeq (sPar [4, 5] (xVal (mCallU m_law_exact (aCons (oName 3) (aCons (oVal (mC (.int 120))) aNil))) (xVal (mCallU m_law_due (aCons (oName 2) (aCons (oName 3) aNil))) xNil)))
  (sSeq (sSet 6 (mCallU m_rounded (aCons (oName 2) (aCons (oName 4) aNil))))
  (sSeq (sIf (bOr (bNot (mTruth (oVal (m1 (isiN "tuple") (oName 6))))) (bOr (mB (m2 neD (oName 6) (oName 5))) (mB (m2 neD (oVal (mCallU m_is_of_format (aCons (oName 2) (aCons (oName 4) aNil)))) (oVal (m2 eqD (oName 5) (oVal (mTup (mDs [(mVar 4), (mC .none)]))))))))) (sRet (mC (.bool false))) sNil)
  (sIf (bAnd (mB (m2 isNotD (oVal (m2 ixD (oName 5) (oVal (mC (.int 0))))) (oVal (mC .none)))) (bOr (mB (m2 neD (oVal (mCallU m_rounded (aCons (oName 2) (aCons (oVal (m2 ixD (oName 5) (oVal (mC (.int 0))))) aNil)))) (oVal (mTup (mDs [(m2 ixD (oName 5) (oVal (mC (.int 0)))), (mC .none)]))))) (mB (m2 isNotD (oVal (mCallU m_is_of_format (aCons (oName 2) (aCons (oVal (m2 ixD (oName 5) (oVal (mC (.int 0))))) aNil)))) (oVal (mC (.bool true))))))) (sRet (mC (.bool false))) sNil)))))))
  (sRet (mC (.bool true))))
def m_law_round_all : FM := fnM 7 b_law_round_all
theorem sc_law_round_all : FnScope ["state", "_", "form", "n", "x", "due", "told"] ["state"] (defScope (topS 27)) := ⟨rfl, rfl, rfl, by decide +kernel, rfl, by decide +kernel, by decide +kernel⟩
theorem ok_law_round_all (T : T P K mg a d fi) : FnOk P w K mg base CX0 6 (a 27) (d 27) ["state"] (spM K 1 m_law_round_all) := by
  have G_law_form := ok_law_form (P := P) (w := w) (base := base) T
  have G_law_number := ok_law_number (P := P) (w := w) (base := base) T
  have G_rounded := ok_rounded (P := P) (w := w) (base := base) T
  have G_law_exact := ok_law_exact (P := P) (w := w) (base := base) T
  have G_law_due := ok_law_due (P := P) (w := w) (base := base) T
  have G_is_of_format := ok_is_of_format (P := P) (w := w) (base := base) T
  have nd := sc_law_round_all.nd
  refine fn_ok (N := ["state", "_", "form", "n", "x", "due", "told"]) (body := b_law_round_all) T.F27 sc_law_round_all (by decide) fun cdv A outer s H E hr => ?_
  have hu : (A.deeper (envOfC "_law_round_all" (defScope (topS 27)) s.heap.objs.size (a 27) cdv)).units + 65 < cLine := by have := hr.un; omega
  have hu64 : (A.deeper (envOfC "_law_round_all" (defScope (topS 27)) s.heap.objs.size (a 27) cdv)).units + 64 < cLine := by have := hr.un; omega
  unfold b_law_round_all
  exact (ss_cons (s_for PassesOwn.never rfl (i_range1 T.z_range (a_cons (o_of e_int) a_nil)) (g_name 1 nd) (ss_cons (s_set (i := 2) nd (e_callU G_law_form (hr.mono (by decide)) T.m24 T.F24.kp T.b24 pass0 (a_cons (o_name 0) a_nil) (aCons_len aNil_len)))
  (ss_cons (s_set (i := 3) nd (e_callU G_law_number (hr.mono (by decide)) T.m26 T.F26.kp T.b26 pass0 (a_cons (o_name 0) (a_cons (o_name 2) a_nil)) (aCons_len (aCons_len aNil_len))))
  (ss_cons (s_par2 (i := 4) (j := 5) rfl nd (by decide) (x_val (e_callU G_law_exact (hr.mono (by decide)) T.m23 T.F23.kp T.b23 pass0 (a_cons (o_name 3) (a_cons (o_of e_int) a_nil)) (aCons_len (aCons_len aNil_len))) (x_val (e_callU G_law_due (hr.mono (by decide)) T.m25 T.F25.kp T.b25 pass0 (a_cons (o_name 2) (a_cons (o_name 3) a_nil)) (aCons_len (aCons_len aNil_len))) x_nil)))
  (ss_cons (s_set (i := 6) nd (e_callU G_rounded (hr.mono (by decide)) T.m17 T.F17.kp T.b17 pass0 (a_cons (o_name 2) (a_cons (o_name 4) a_nil)) (aCons_len (aCons_len aNil_len))))
  (ss_cons (s_if (t_w (w_or (t_not (t_of (o_of (e_isi "tuple" T.z_isinstance T.z_tuple (o_name 6) (by decide +kernel))))) (w_or (t_cm (c_ne hu64) (o_name 6) (o_name 5)) (w_or1 (t_cm (c_ne hu64) (o_of (e_callU G_is_of_format (hr.mono (by decide)) T.m18 T.F18.kp T.b18 pass0 (a_cons (o_name 2) (a_cons (o_name 4) a_nil)) (aCons_len (aCons_len aNil_len)))) (o_of (e_cm (c_eq hu64) (o_name 5) (o_of (e_tup (v_cons (e_of (o_name 4)) (v_cons e_non v_nil))))))))))) (ss_one (s_ret e_bl)) ss_nil)
  (ss_one (s_if (t_w (w_and (t_cm c_isNot (o_of (e_at (o_name 5) (o_of e_int))) (o_of e_non)) (w_and1 (t_w (w_or (t_cm (c_ne hu64) (o_of (e_callU G_rounded (hr.mono (by decide)) T.m17 T.F17.kp T.b17 pass0 (a_cons (o_name 2) (a_cons (o_of (e_at (o_name 5) (o_of e_int))) a_nil)) (aCons_len (aCons_len aNil_len)))) (o_of (e_tup (v_cons (e_at (o_name 5) (o_of e_int)) (v_cons e_non v_nil))))) (w_or1 (t_cm c_isNot (o_of (e_callU G_is_of_format (hr.mono (by decide)) T.m18 T.F18.kp T.b18 pass0 (a_cons (o_name 2) (a_cons (o_of (e_at (o_name 5) (o_of e_int))) a_nil)) (aCons_len (aCons_len aNil_len)))) (o_of e_bl)))))))) (ss_one (s_ret e_bl)) ss_nil))))))))
  (ss_one (s_ret e_bl)))
/-! ### _law_kinds(): 0 odd 1 right 2 form 3 values 4 value 5 due -/
def b_law_kinds : MT :=
  (sSeq (sNew 0 (mLst (mDs [(mTup (mDs [(mC (.int 1)), (m1 negD (oVal (mC (.int 1)))), (mC (.int 1))])), (mTup (mDs [(mC (.int 25)), (m1 negD (oVal (mC (.int 1)))), (mC (.int 1))])), (mTup (mDs [(mC (.int 2)), (mC (.int 0)), (mC (.int 1))])), (mTup (mDs [(mC (.int 2)), (m1 negD (oVal (mC (.int 41)))), (mC (.int 1))])), (mTup (mDs [(mC (.int 2)), (m1 negD (oVal (mC (.int 1)))), (mC (.int 0))])), (mTup (mDs [(mC (.int 2)), (m1 negD (oVal (mC (.int 1)))), (mC (.int 41))])), (mTup (mDs [(mC (.str "2")), (m1 negD (oVal (mC (.int 1)))), (mC (.int 1))])), (mTup (mDs [(mC (.int 2)), (m1 negD (oVal (mC (.int 1)))), (mC (.bool true))])), (eNew (mLst (mDs [(mC (.int 8)), (m1 negD (oVal (mC (.int 20)))), (mC (.int 20))])))])))
  (sSeq (sSet 0 (m2 addD (oName 0) (oVal (eNew (mLst (mDs [(mTup (mDs [(mC (.int 8)), (m1 negD (oVal (mC (.int 20))))])), (mTup (mDs [(mC (.int 8)), (m1 negD (oVal (mC (.int 20)))), (mC (.int 20)), (mC (.int 0))])), (mC .none), (mC (.str "8")), (mC (.int 8)), (mTup (mDs [(mC (.bool true)), (m1 negD (oVal (mC (.int 1)))), (mC (.int 1))])), (mTup (mDs [(mC (.int 2)), (mC .none), (mC (.int 1))]))]))))))
  (sSeq (sIf (bNot (mTruth (oVal (mCall allD (aCons (oVal (eNew (mLc (mSeq (mVar 0)) (gN 4) tYesM (eAnd (m2 isD (oVal (mCallU m_is_format (aCons (oName 4) aNil))) (oVal (mC (.bool false)))) (mCallU m_law_refused (aCons (oName 4) aNil))) [4]))) aNil))))) (sRet (mC (.bool false))) sNil)
  (sSeq (sNew 1 (mLst (mDs [(mTup (mDs [(mC (.int 2)), (m1 negD (oVal (mC (.int 1)))), (mC (.int 1))])), (mTup (mDs [(mC (.int 24)), (m1 negD (oVal (mC (.int 40)))), (mC (.int 40))])), (mTup (mDs [(mC (.int 8)), (m1 negD (oVal (mC (.int 20)))), (mC (.int 20))]))])))
  (sSeq (sIf (bNot (mTruth (oVal (mCall allD (aCons (oVal (eNew (mLc (mSeq (mVar 1)) (gN 4) tYesM (eAnd (m2 isD (oVal (mCallU m_is_format (aCons (oName 4) aNil))) (oVal (mC (.bool true)))) (m2 isD (oVal (mCallU (noErr m_check_format) (aCons (oName 4) aNil))) (oVal (mC .none)))) [4]))) aNil))))) (sRet (mC (.bool false))) sNil)
  (sSeq (sSet 2 (mTup (mDs [(mC (.int 8)), (m1 negD (oVal (mC (.int 20)))), (mC (.int 20))])))
  (sSeq (sNew 3 (mLst (mDs [(mTup (mDs [(mTup (mDs [(mC (.int 1)), (mC (.int 0))])), (mC (.bool true))])), (mTup (mDs [(mTup (mDs [(mC (.int 0)), (mC (.int 0))])), (mC (.bool true))])), (mTup (mDs [(mTup (mDs [(mC (.int 255)), (mC (.int 0))])), (mC (.bool true))])), (mTup (mDs [(mTup (mDs [(mC (.int 257)), (mC (.int 0))])), (mC (.bool false))])), (mTup (mDs [(mTup (mDs [(mC (.int 1)), (m1 negD (oVal (mC (.int 20))))])), (mC (.bool true))])), (mTup (mDs [(mTup (mDs [(mC (.int 1)), (m1 negD (oVal (mC (.int 21))))])), (mC (.bool false))])), (mTup (mDs [(mTup (mDs [(mC (.int 1)), (mC (.int 20))])), (mC (.bool false))]))])))
  (sSeq (sSet 3 (m2 addD (oName 3) (oVal (eNew (mLst (mDs [(mTup (mDs [(mTup (mDs [(mC (.int 255)), (mC (.int 12))])), (mC (.bool true))])), (mTup (mDs [(mTup (mDs [(mC (.int 2)), (mC (.int 0))])), (mC (.bool false))])), (mTup (mDs [(mC (.int 1)), (mC (.bool false))])), (mTup (mDs [(mTup (mDs [(mC (.int 1)), (mC (.bool false))])), (mC (.bool false))])), (mTup (mDs [(mTup (mDs [(mC (.bool true)), (mC (.int 0))])), (mC (.bool false))])), (mTup (mDs [(eNew (mLst (mDs [(mC (.int 1)), (mC (.int 0))]))), (mC (.bool false))])), (mTup (mDs [(mC .none), (mC (.bool false))]))]))))))
  (sRet (eAnd (mCall allD (aCons (oVal (eNew (mLc (mSeq (mVar 3)) (gT 2 (gsCons (gN 4) (gsCons (gN 5) gsNil))) tYesM (m2 eqD (oVal (mCallU m_is_of_format (aCons (oName 2) (aCons (oName 4) aNil)))) (oName 5)) [4, 5]))) aNil)) (m2 isD (oVal (mCallU m_is_of_format (aCons (oName 2) (aCons (oVal (mC (.str "1"))) aNil)))) (oVal (mC (.bool false))))))))))))))
def m_law_kinds : FM := fnM 6 b_law_kinds
theorem sc_law_kinds : FnScope ["odd", "right", "form", "values", "value", "due"] [] (defScope (topS 30)) := ⟨rfl, rfl, rfl, by decide +kernel, rfl, by decide +kernel, by decide +kernel⟩
theorem ok_law_kinds (T : T P K mg a d fi) : FnOk P w K mg base CX0 6 (a 30) (d 30) [] (spM K 0 m_law_kinds) := by
  have G_is_of_format := ok_is_of_format (P := P) (w := w) (base := base) T
  have G_law_refused := ok_law_refused (P := P) (w := w) (base := base) T
  have G_is_format := ok_is_format (P := P) (w := w) (base := base) T
  have G_check_format := ok_check_format (P := P) (w := w) (base := base) T
  have nd := sc_law_kinds.nd
  refine fn_ok (N := ["odd", "right", "form", "values", "value", "due"]) (body := b_law_kinds) T.F30 sc_law_kinds (by decide) fun cdv A outer s H E hr => ?_
  have hu : (A.deeper (envOfC "_law_kinds" (defScope (topS 30)) s.heap.objs.size (a 30) cdv)).units + 65 < cLine := by have := hr.un; omega
  have hu64 : (A.deeper (envOfC "_law_kinds" (defScope (topS 30)) s.heap.objs.size (a 30) cdv)).units + 64 < cLine := by have := hr.un; omega
  unfold b_law_kinds
  exact (ss_cons (s_new (i := 0) nd (f_lst (v_cons (e_tup (v_cons e_int (v_cons (e_neg (o_of e_int)) (v_cons e_int v_nil)))) (v_cons (e_tup (v_cons e_int (v_cons (e_neg (o_of e_int)) (v_cons e_int v_nil)))) (v_cons (e_tup (v_cons e_int (v_cons e_int (v_cons e_int v_nil)))) (v_cons (e_tup (v_cons e_int (v_cons (e_neg (o_of e_int)) (v_cons e_int v_nil)))) (v_cons (e_tup (v_cons e_int (v_cons (e_neg (o_of e_int)) (v_cons e_int v_nil)))) (v_cons (e_tup (v_cons e_int (v_cons (e_neg (o_of e_int)) (v_cons e_int v_nil)))) (v_cons (e_tup (v_cons e_str (v_cons (e_neg (o_of e_int)) (v_cons e_int v_nil)))) (v_cons (e_tup (v_cons e_int (v_cons (e_neg (o_of e_int)) (v_cons e_bl v_nil)))) (v_cons (e_new (f_lst (v_cons e_int (v_cons (e_neg (o_of e_int)) (v_cons e_int v_nil))))) v_nil)))))))))))
  (ss_cons (s_set (i := 0) nd (e_add (o_name 0) (o_of (e_new (f_lst (v_cons (e_tup (v_cons e_int (v_cons (e_neg (o_of e_int)) v_nil))) (v_cons (e_tup (v_cons e_int (v_cons (e_neg (o_of e_int)) (v_cons e_int (v_cons e_int v_nil))))) (v_cons e_non (v_cons e_str (v_cons e_int (v_cons (e_tup (v_cons e_bl (v_cons (e_neg (o_of e_int)) (v_cons e_int v_nil)))) (v_cons (e_tup (v_cons e_int (v_cons e_non (v_cons e_int v_nil)))) v_nil))))))))))))
  (ss_cons (s_if (t_not (t_of (o_of (e_all rfl T.z_all (a_cons (o_of (e_new (f_lc (own := [("value", 4)]) rfl nd (i_seq (e_of (o_name 0))) (blkOk_by (N := ["odd", "right", "form", "values", "value", "due"]) (sc := defScope (topS 30)) (by decide +kernel)) (by decide) (fun _ _ _ _ _ => (g_name 4 nd)) (fun _ _ _ _ _ => ts_nil) (fun _ _ _ _ _ => (e_and (e_cm c_is (o_of (e_callU G_is_format (hr.mono (by decide)) T.m13 T.F13.kp T.b13 pass0 (a_cons (o_name 4) a_nil) (aCons_len aNil_len))) (o_of e_bl)) (e_one (e_callU G_law_refused (hr.mono (by decide)) T.m29 T.F29.kp T.b29 pass0 (a_cons (o_name 4) a_nil) (aCons_len aNil_len)))))))) a_nil))))) (ss_one (s_ret e_bl)) ss_nil)
  (ss_cons (s_new (i := 1) nd (f_lst (v_cons (e_tup (v_cons e_int (v_cons (e_neg (o_of e_int)) (v_cons e_int v_nil)))) (v_cons (e_tup (v_cons e_int (v_cons (e_neg (o_of e_int)) (v_cons e_int v_nil)))) (v_cons (e_tup (v_cons e_int (v_cons (e_neg (o_of e_int)) (v_cons e_int v_nil)))) v_nil)))))
  (ss_cons (s_if (t_not (t_of (o_of (e_all rfl T.z_all (a_cons (o_of (e_new (f_lc (own := [("value", 4)]) rfl nd (i_seq (e_of (o_name 1))) (blkOk_by (N := ["odd", "right", "form", "values", "value", "due"]) (sc := defScope (topS 30)) (by decide +kernel)) (by decide) (fun _ _ _ _ _ => (g_name 4 nd)) (fun _ _ _ _ _ => ts_nil) (fun _ _ _ _ _ => (e_and (e_cm c_is (o_of (e_callU G_is_format (hr.mono (by decide)) T.m13 T.F13.kp T.b13 pass0 (a_cons (o_name 4) a_nil) (aCons_len aNil_len))) (o_of e_bl)) (e_one (e_cm c_is (o_of (e_callU (fnX_no G_check_format) (hr.mono (by decide)) T.m14 T.F14.kp T.b14 passX (a_cons (o_name 4) a_nil) (aCons_len aNil_len))) (o_of e_non)))))))) a_nil))))) (ss_one (s_ret e_bl)) ss_nil)
  (ss_cons (s_set (i := 2) nd (e_tup (v_cons e_int (v_cons (e_neg (o_of e_int)) (v_cons e_int v_nil)))))
  (ss_cons (s_new (i := 3) nd (f_lst (v_cons (e_tup (v_cons (e_tup (v_cons e_int (v_cons e_int v_nil))) (v_cons e_bl v_nil))) (v_cons (e_tup (v_cons (e_tup (v_cons e_int (v_cons e_int v_nil))) (v_cons e_bl v_nil))) (v_cons (e_tup (v_cons (e_tup (v_cons e_int (v_cons e_int v_nil))) (v_cons e_bl v_nil))) (v_cons (e_tup (v_cons (e_tup (v_cons e_int (v_cons e_int v_nil))) (v_cons e_bl v_nil))) (v_cons (e_tup (v_cons (e_tup (v_cons e_int (v_cons (e_neg (o_of e_int)) v_nil))) (v_cons e_bl v_nil))) (v_cons (e_tup (v_cons (e_tup (v_cons e_int (v_cons (e_neg (o_of e_int)) v_nil))) (v_cons e_bl v_nil))) (v_cons (e_tup (v_cons (e_tup (v_cons e_int (v_cons e_int v_nil))) (v_cons e_bl v_nil))) v_nil)))))))))
  (ss_cons (s_set (i := 3) nd (e_add (o_name 3) (o_of (e_new (f_lst (v_cons (e_tup (v_cons (e_tup (v_cons e_int (v_cons e_int v_nil))) (v_cons e_bl v_nil))) (v_cons (e_tup (v_cons (e_tup (v_cons e_int (v_cons e_int v_nil))) (v_cons e_bl v_nil))) (v_cons (e_tup (v_cons e_int (v_cons e_bl v_nil))) (v_cons (e_tup (v_cons (e_tup (v_cons e_int (v_cons e_bl v_nil))) (v_cons e_bl v_nil))) (v_cons (e_tup (v_cons (e_tup (v_cons e_bl (v_cons e_int v_nil))) (v_cons e_bl v_nil))) (v_cons (e_tup (v_cons (e_new (f_lst (v_cons e_int (v_cons e_int v_nil)))) (v_cons e_bl v_nil))) (v_cons (e_tup (v_cons e_non (v_cons e_bl v_nil))) v_nil))))))))))))
  (ss_one (s_ret (e_and (e_all rfl T.z_all (a_cons (o_of (e_new (f_lc (own := [("value", 4), ("due", 5)]) rfl nd (i_seq (e_of (o_name 3))) (blkOk_by (N := ["odd", "right", "form", "values", "value", "due"]) (sc := defScope (topS 30)) (by decide +kernel)) (by decide) (fun _ _ _ _ _ => (g_tup rfl (gs_cons (g_name 4 nd) (gs_cons (g_name 5 nd) gs_nil)))) (fun _ _ _ _ _ => ts_nil) (fun _ _ _ _ _ => (e_cm (c_eq hu64) (o_of (e_callU G_is_of_format (hr.mono (by decide)) T.m18 T.F18.kp T.b18 pass0 (a_cons (o_name 2) (a_cons (o_name 4) a_nil)) (aCons_len (aCons_len aNil_len)))) (o_name 5)))))) a_nil)) (e_one (e_cm c_is (o_of (e_callU G_is_of_format (hr.mono (by decide)) T.m18 T.F18.kp T.b18 pass0 (a_cons (o_name 2) (a_cons (o_of e_str) a_nil)) (aCons_len (aCons_len aNil_len)))) (o_of e_bl))))))))))))))
/-! ### law: 0 script 1 state -/
def b_law : MT :=
  (sRet (eAnd (mCallU m_law_round_all (aCons (oName 1) aNil)) (eAnd (mCallU m_law_listed (aCons (oName 1) aNil)) (mCallU m_law_kinds aNil))))
def f_law : Dr → SR := fun dr => b_law ⟨(List.replicate 2 Sl.un).set 1 (.val (.dict [])), dr⟩
theorem sc_law : FnScope ["script", "state"] ["script"] (defScope (topS 31)) := ⟨rfl, rfl, rfl, by decide +kernel, rfl, by decide +kernel, by decide +kernel⟩
theorem ok_law (T : T P K mg a d fi) : FnOk P w K mg base CX0 7 (a 31) (d 31) ["script"] (spLaw K f_law) := by
  have G_law_state := ok_law_state (P := P) (w := w) (base := base) T
  have G_law_round_all := ok_law_round_all (P := P) (w := w) (base := base) T
  have G_law_listed := ok_law_listed (P := P) (w := w) (base := base) T
  have G_law_kinds := ok_law_kinds (P := P) (w := w) (base := base) T
  have nd := sc_law.nd
  refine T.F31.ok sc_law (fun vs H Q E h => ?_) (fun cdv A outer s H vs Q E hr h => ?_)
  · obtain ⟨aa, ns, rfl, _⟩ := h
    rfl
  · obtain ⟨aa, ns, rfl, hS, hlen, ⟨dr1, hf⟩, k⟩ := h
    have hu : (A.deeper (envOfC "law" (defScope (topS 31)) s.heap.objs.size (a 31) cdv)).units + 65 < cLine := by have := hr.un; omega
    have hu64 : (A.deeper (envOfC "law" (defScope (topS 31)) s.heap.objs.size (a 31) cdv)).units + 64 < cLine := by have := hr.un; omega
    have hb : DSs (cxOf CX0 P w K mg base ["script", "state"] "law" (defScope (topS 31)) (a 31) cdv A outer s H E).nox ((defBody (topS 31)).drop 1) b_law := by
      unfold b_law
      exact (ss_one (s_ret (e_and (e_callU G_law_round_all (hr.mono (by decide)) T.m27 T.F27.kp T.b27 pass0 (a_cons (o_name 1) a_nil) (aCons_len aNil_len)) (e_and (e_callU G_law_listed (hr.mono (by decide)) T.m28 T.F28.kp T.b28 pass0 (a_cons (o_name 1) a_nil) (aCons_len aNil_len)) (e_one (e_callU0 G_law_kinds (hr.mono (by decide)) T.m30 T.F30.kp T.b30 pass0))))))
    obtain ⟨t, pt, ok⟩ := hb.ex
    refine ⟨_, pss_cons (ps_set (i := 1) nd rfl (by first | exact Or.inl rfl | exact Or.inr rfl) (pe_call G_law_state (hr.mono (by decide)) rfl T.m21 T.F21.kp T.b21 .nil pass0 (pa_cons (pv 0) pa_nil))) pt, ?_⟩
    refine ⟨_, rfl, aa, ns, rfl, hS, hlen, fun H1 p q hp hq npq e1 h1 h2 => ?_⟩
    have r := law_start (K := K) (n := 2) (i := 1) (σ := (L2.start ["script", "state"] [V.ref aa]).set 1 (some (.ref p))) h1 h2 npq rfl rfl
    refine ok _ _ _ H1 _ _ r ?_
    have hf2 : b_law ⟨(List.replicate 2 Sl.un).set 1 (.val (.dict [])), drOf ns⟩ = .rt (.bool true) dr1 := hf
    rw [hf2]
    intro B2 H2 v e2 r2 hv
    cases hv
    exact k H2
end
end Wk
/-! exact numbers: the plain part -/
namespace Ea
theorem pow_pos (n : Nat) : (0 : Int) < 2 ^ n := by
  have : (0 : Nat) < 2 ^ n := Nat.two_pow_pos n
  have h : ((2 ^ n : Nat) : Int) = (2 : Int) ^ n := by simp
  omega
theorem pow_cast (n : Nat) : ((2 ^ n : Nat) : Int) = (2 : Int) ^ n := by simp
theorem natAbs_pow (n : Nat) : ((2 : Int) ^ n).natAbs = 2 ^ n := by
  rw [← pow_cast, Int.natAbs_natCast]
/-- s >> n << n is s just where 2 ** n parts s -/
theorem back_iff {s : Int} {n : Nat} : s / 2 ^ n * 2 ^ n = s ↔ (2 : Int) ^ n ∣ s := by
  constructor
  · intro h
    exact ⟨s / 2 ^ n, by rw [Int.mul_comm, h]⟩
  · intro h
    exact Int.ediv_mul_cancel h
theorem dvd_lt {s : Int} {n B : Nat} (hs : s ≠ 0) (hb : s.natAbs < 2 ^ B) (h : (2 : Int) ^ n ∣ s) : n < B := by
  have h1 : (2 ^ n : Nat) ∣ s.natAbs := by
    have := Int.natAbs_dvd_natAbs.mpr h
    rwa [natAbs_pow] at this
  have h2 : 2 ^ n ≤ s.natAbs := Nat.le_of_dvd (by omega) h1
  exact (Nat.pow_lt_pow_iff_right (by decide : 1 < 2)).mp (Nat.lt_of_le_of_lt h2 hb)
theorem div_small {s : Int} {n b : Nat} (hn : n < b) (hb : s.natAbs < 2 ^ b) (h : (2 : Int) ^ n ∣ s) : (s / 2 ^ n).natAbs < 2 ^ (b - n) := by
  have e : s / 2 ^ n * 2 ^ n = s := back_iff.mpr h
  have e1 : (s / 2 ^ n).natAbs * 2 ^ n = s.natAbs := by
    have := congrArg Int.natAbs e
    rwa [Int.natAbs_mul, natAbs_pow] at this
  have e2 : (2 : Nat) ^ b = 2 ^ (b - n) * 2 ^ n := by rw [← Nat.pow_add]; congr 1; omega
  rw [e2, ← e1] at hb
  exact Nat.lt_of_mul_lt_mul_right hb
theorem natAbs_div_le {s : Int} {n b : Nat} (hb : s.natAbs < 2 ^ b) : (s / 2 ^ n).natAbs < 2 ^ (b + 1) := by
  have h1 := Int.natAbs_ediv_le_natAbs s (2 ^ n)
  have h2 : (2 : Nat) ^ (b + 1) = 2 ^ b + 2 ^ b := by rw [Nat.pow_succ]; omega
  omega
/-- the pair (s, e) is the number v / 2 ** k -/
def Ex (s e v k : Int) : Prop := (s = 0 ∧ e = 0 ∧ v = 0) ∨ (s % 2 = 1 ∧ 0 ≤ e + k ∧ v = s * 2 ^ (e + k).toNat)
theorem odd_ne {s : Int} (h : s % 2 = 1) : s ≠ 0 := by omega
theorem ex_zero {s e v k : Int} (h : Ex s e v k) : s = 0 ↔ v = 0 := by
  rcases h with ⟨h1, h2, h3⟩ | ⟨h1, h2, h3⟩
  · simp [h1, h3]
  · constructor
    · intro h
      omega
    · intro h
      rw [h] at h3
      have := pow_pos (e + k).toNat
      rcases Int.mul_eq_zero.mp h3.symm with z | z
      · exact z
      · omega
/-- sizes out of v's -/
theorem ex_size {s e v k : Int} {B : Nat} (h : Ex s e v k) (hb : v.natAbs < 2 ^ B) (hv : v ≠ 0) : s.natAbs < 2 ^ B ∧ 0 ≤ e + k ∧ e + k < B := by
  rcases h with ⟨h1, h2, h3⟩ | ⟨h1, h2, h3⟩
  · exact absurd h3 hv
  · have e1 : v.natAbs = s.natAbs * 2 ^ (e + k).toNat := by rw [h3, Int.natAbs_mul, natAbs_pow]
    have p1 : 0 < 2 ^ (e + k).toNat := Nat.two_pow_pos _
    have p2 : 0 < s.natAbs := by omega
    have a1 : s.natAbs ≤ v.natAbs := by rw [e1]; exact Nat.le_mul_of_pos_right _ p1
    have a2 : 2 ^ (e + k).toNat ≤ v.natAbs := by rw [e1]; exact Nat.le_mul_of_pos_left _ p2
    have := (Nat.pow_lt_pow_iff_right (by decide : 1 < 2)).mp (Nat.lt_of_le_of_lt a2 hb)
    exact ⟨by omega, h2, by omega⟩
theorem ex_sizeS {s e v k : Int} {B : Nat} (h : Ex s e v k) (hb : v.natAbs < 2 ^ B) : s.natAbs < 2 ^ B := by
  by_cases hv : v = 0
  · rw [(ex_zero h).mpr hv]
    exact Nat.two_pow_pos _
  · exact (ex_size h hb hv).1
/-- stripped of its twos -/
theorem ex_of_strip {s e k s' e' : Int} (h0 : 0 ≤ e + k) (h1 : s' % 2 = 1) (h2 : e ≤ e') (h3 : s = s' * 2 ^ (e' - e).toNat) : Ex s' e' (s * 2 ^ (e + k).toNat) k := by
  refine .inr ⟨h1, by omega, ?_⟩
  rw [h3, Int.mul_assoc, ← Int.pow_add]
  congr 2
  omega
theorem ex_neg {s e v k : Int} (h : Ex s e v k) : Ex (-s) e (-v) k := by
  rcases h with ⟨h1, h2, h3⟩ | ⟨h1, h2, h3⟩
  · exact .inl ⟨by omega, h2, by omega⟩
  · exact .inr ⟨by omega, h2, by rw [h3, Int.neg_mul]⟩
theorem odd_mul {a b : Int} (ha : a % 2 = 1) (hb : b % 2 = 1) : a * b % 2 = 1 := by
  rw [Int.mul_emod, ha, hb]
  rfl
theorem ex_mul {s e v k s' e' v' k' : Int} (h : Ex s e v k) (h' : Ex s' e' v' k') (hv : v ≠ 0) (hv' : v' ≠ 0) : Ex (s * s') (e + e') (v * v') (k + k') := by
  rcases h with ⟨_, _, h⟩ | ⟨h1, h2, h3⟩
  · exact absurd h hv
  rcases h' with ⟨_, _, h⟩ | ⟨g1, g2, g3⟩
  · exact absurd h hv'
  refine .inr ⟨odd_mul h1 g1, by omega, ?_⟩
  have e1 : (e + e' + (k + k')).toNat = (e + k).toNat + (e' + k').toNat := by omega
  rw [h3, g3, e1, Int.pow_add]
  simp only [Int.mul_assoc, Int.mul_comm, Int.mul_left_comm]
/-- the sum over the lower exponent -/
theorem ex_low {s e v k s' e' v' low : Int} (h : Ex s e v k) (h' : Ex s' e' v' k) (hv : v ≠ 0) (hv' : v' ≠ 0) (h1 : low ≤ e) (h2 : low ≤ e') (h3 : 0 ≤ low + k) : (s * 2 ^ (e - low).toNat + s' * 2 ^ (e' - low).toNat) * 2 ^ (low + k).toNat = v + v' := by
  rcases h with ⟨_, _, h⟩ | ⟨_, _, g3⟩
  · exact absurd h hv
  rcases h' with ⟨_, _, h⟩ | ⟨_, _, g4⟩
  · exact absurd h hv'
  rw [g3, g4, Int.add_mul, Int.mul_assoc, Int.mul_assoc, ← Int.pow_add, ← Int.pow_add]
  congr 3
  · omega
  · congr 1
    omega
theorem add_small {a b : Int} {B : Nat} (ha : a.natAbs < 2 ^ B) (hb : b.natAbs < 2 ^ B) : (a + b).natAbs < 2 ^ (B + 1) := by
  have h2 : (2 : Nat) ^ (B + 1) = 2 ^ B + 2 ^ B := by rw [Nat.pow_succ]; omega
  omega
theorem mul_small {a b : Int} {m n : Nat} (ha : a.natAbs < 2 ^ m) (hb : b.natAbs < 2 ^ n) : (a * b).natAbs < 2 ^ (m + n) := by
  rw [Int.natAbs_mul, Nat.pow_add]
  by_cases h : b.natAbs = 0
  · rw [h, Nat.mul_zero]
    exact Nat.mul_pos (Nat.two_pow_pos _) (Nat.two_pow_pos _)
  · exact Nat.mul_lt_mul_of_lt_of_lt ha hb
theorem shl_small {a : Int} {m n : Nat} (ha : a.natAbs < 2 ^ m) : (a * 2 ^ n).natAbs < 2 ^ (m + n) := by
  rw [Int.natAbs_mul, natAbs_pow, Nat.pow_add]
  exact Nat.mul_lt_mul_of_pos_right ha (Nat.two_pow_pos _)
theorem small_mono {a : Int} {m n : Nat} (h : a.natAbs < 2 ^ m) (hmn : m ≤ n) : a.natAbs < 2 ^ n := Nat.lt_of_lt_of_le h (Nat.pow_le_pow_right (by decide) hmn)
theorem ex_neg_iff {s e v k : Int} (h : Ex s e v k) : s < 0 ↔ v < 0 := by
  rcases h with ⟨h1, h2, h3⟩ | ⟨h1, h2, h3⟩
  · rw [h1, h3]
  · have := pow_pos (e + k).toNat
    rw [h3]
    constructor
    · intro h
      exact Int.mul_neg_of_neg_of_pos h this
    · intro h
      rcases Int.lt_or_le s 0 with z | z
      · exact z
      · have := Int.mul_nonneg z (Int.le_of_lt this)
        omega
end Ea
namespace Wk
open PySem PySem.Spec PyProof.Rows L2 Mi Ea
@[simp] theorem isi_int {i : Int} : isiN "int" (.int i) = some (.bool true) := by rfl
@[simp] theorem isb_int {i : Int} : isiN "bool" (.int i) = some (.bool false) := by rfl
@[simp] theorem isi_tuple {ds : List D} : isiN "tuple" (.tuple ds) = some (.bool true) := by rfl
theorem ix0 {a b : D} : ixD (.tuple [a, b]) (.int 0) = some a := rfl
theorem ix1 {a b : D} : ixD (.tuple [a, b]) (.int 1) = some b := rfl
def pr (s e : Int) : D := .tuple [.int s, .int e]
theorem eqD_pr {s e t f : Int} : eqD (pr s e) (pr t f) = some (.bool (decide (s = t ∧ e = f))) := by
  have h := eqD_tuple_ints (ns := [s, e]) (ms := [t, f])
  simp only [List.map, List.cons.injEq, and_true] at h
  exact h
theorem is_whole_int {i : Int} {dr : Dr} : m_is_whole [.int i] dr = some (.bool true, dr) := by
  refine fnM_eq ?_
  unfold b_is_whole
  simp -dsimp
theorem mod2 {s : Int} : modD (.int s) (.int 2) = some (.int (s % 2)) := modD_of (by decide)
theorem is_exact_ev {s e v k : Int} {dr : Dr} (h : Ex s e v k) : m_is_exact [pr s e] dr = some (.bool true, dr) := by
  refine fnM_eq ?_
  unfold b_is_exact
  have hl : lenD [pr s e] = some (.int 2) := rfl
  have h0 : ixD (pr s e) (.int 0) = some (.int s) := rfl
  have h1 : ixD (pr s e) (.int 1) = some (.int e) := rfl
  have ht : isiN "tuple" (pr s e) = some (.bool true) := rfl
  have hq : eqD (pr s e) d_NOUGHT = some (.bool (decide (s = 0 ∧ e = 0))) := eqD_pr
  simp -dsimp [hl, h0, h1, ht, hq, is_whole_int, mod2]
  rcases h with ⟨rfl, rfl, _⟩ | ⟨h1, _, _⟩
  · simp -dsimp
  · simp -dsimp [h1, odd_ne h1]
theorem dyadic_ev {s e : Int} {B : Nat} {dr : Dr} (hs : s ≠ 0) (hb : s.natAbs < 2 ^ B) (hB : B ≤ 1000000) : ∃ s' e', m_dyadic [.int s, .int e] dr = some (pr s' e', dr) ∧ s' % 2 = 1 ∧ e ≤ e' ∧ s = s' * 2 ^ (e' - e).toNat := by
  have key : Go (WO (m_dyadic [.int s, .int e] dr) fun z => ∃ s' e', z = (pr s' e', dr) ∧ s' % 2 = 1 ∧ e ≤ e' ∧ s = s' * 2 ^ (e' - e).toNat) := by
    refine fnM_wo ?_
    unfold b_dyadic
    simp -dsimp [hs]
    refine w_while (fun n μ => ∃ st : Nat, 1 ≤ st ∧ st ≤ 2 * B + 1 ∧ n + st = 2 * B + 1 ∧ μ = ⟨[.val (.int s), .val (.int e), .val (.int (st : Int))], dr⟩) (n := 2 * B) (by unfold fuel; omega) ⟨1, by omega, by omega, by omega, rfl⟩ ?_
    rintro n μ ⟨st, h1, h2, h3, rfl⟩
    have e1 : shrD (.int s) (.int (st : Int)) = some (.int (s / 2 ^ st)) := by simp [shrD]
    have e2 : shlD (.int (s / 2 ^ st)) (.int (st : Int)) = some (.int (s / 2 ^ st * 2 ^ st)) := by
      rw [shlD_of (B + 1) (by omega) (natAbs_div_le hb) (by omega)]
      simp
    simp -dsimp [e1, e2, mulD_of 2 30 (a := 2) (b := (st : Int)) (by decide) (by omega) (by decide)]
    by_cases hd : (2 : Int) ^ st ∣ s
    · rw [if_pos (back_iff.mpr hd)]
      have := dvd_lt hs hb hd
      exact ⟨n - st, by omega, 2 * st, by omega, by omega, by omega, by simp⟩
    · rw [if_neg (fun z => hd (back_iff.mp z))]
      refine w_while (fun n μ => ∃ (s1 e1 : Int) (st b kk : Nat), n = b + kk ∧ s1 ≠ 0 ∧ s1.natAbs < 2 ^ b ∧ b ≤ B ∧ st < 2 ^ kk ∧ st ≤ 2 * B + 1 ∧ (st = 0 → s1 % 2 = 1) ∧ e ≤ e1 ∧ s = s1 * 2 ^ (e1 - e).toNat ∧ μ = ⟨[.val (.int s1), .val (.int e1), .val (.int (st : Int))], dr⟩) (n := B + (2 * B + 2)) (by unfold fuel; omega)
        ⟨s, e, st, B, 2 * B + 2, rfl, hs, hb, Nat.le_refl _, Nat.lt_trans (by omega) (Nat.lt_two_pow_self (n := 2 * B + 2)), h2, by omega, Int.le_refl _, by simp, rfl⟩ ?_
      rintro n μ ⟨s1, e1, st, b, kk, rfl, g1, g2, g3, g4, g5, g6, g7, g8, rfl⟩
      have e1' : shrD (.int s1) (.int (st : Int)) = some (.int (s1 / 2 ^ st)) := by simp [shrD]
      have e2' : shlD (.int (s1 / 2 ^ st)) (.int (st : Int)) = some (.int (s1 / 2 ^ st * 2 ^ st)) := by
        rw [shlD_of (b + 1) (by omega) (natAbs_div_le g2) (by omega)]
        simp
      simp -dsimp [e1', e2', fdivD_of (a := (st : Int)) (b := 2) (by decide) (by decide)]
      by_cases h0 : 0 < st
      · rw [if_pos h0]
        by_cases hd : (2 : Int) ^ st ∣ s1
        · rw [if_pos (back_iff.mpr hd)]
          have hlt := dvd_lt g1 g2 hd
          refine ⟨b - st + kk, by omega, s1 / 2 ^ st, e1 + st, st, b - st, kk, rfl, ?_, div_small hlt g2 hd, by omega, g4, g5, by omega, by omega, ?_, rfl, rfl, rfl⟩
          · intro z
            have := back_iff.mpr hd
            rw [z] at this
            omega
          · have q := back_iff.mpr hd
            rw [g8]
            conv => lhs; rw [← q]
            rw [Int.mul_assoc, ← Int.pow_add]
            congr 2
            omega
        · rw [if_neg (fun z => hd (back_iff.mp z))]
          have hk : kk ≠ 0 := by
            intro z
            subst z
            simp at g4
            omega
          obtain ⟨kk, rfl⟩ := Nat.exists_eq_succ_of_ne_zero hk
          refine ⟨b + kk, by omega, s1, e1, st / 2, b, kk, rfl, g1, g2, g3, ?_, by omega, ?_, g7, g8, by simp⟩
          · rw [Nat.pow_succ] at g4
            omega
          · intro z
            have : st = 1 := by omega
            subst this
            by_cases hh : s1 % 2 = 1
            · exact hh
            · exact absurd (show (2 : Int) ^ 1 ∣ s1 from ⟨s1 / 2, by omega⟩) hd
      · rw [if_neg h0]
        exact ⟨s1, e1, rfl, g6 (by omega), g7, g8⟩
  obtain ⟨z, hz, s', e', rfl, q⟩ := WO_get key
  exact ⟨s', e', hz, q⟩
theorem dyadic_zero {e : Int} {dr : Dr} : m_dyadic [.int 0, .int e] dr = some (pr 0 0, dr) := by
  refine fnM_eq ?_
  unfold b_dyadic
  simp -dsimp
  rfl
/-- dyadic tells the number -/
theorem dyadic_ex {s e k : Int} {B : Nat} {dr : Dr} (hb : s.natAbs < 2 ^ B) (hB : B ≤ 1000000) (h0 : 0 ≤ e + k) : ∃ s' e', m_dyadic [.int s, .int e] dr = some (pr s' e', dr) ∧ Ex s' e' (s * 2 ^ (e + k).toNat) k := by
  by_cases hs : s = 0
  · subst hs
    exact ⟨0, 0, dyadic_zero, .inl ⟨rfl, rfl, by simp⟩⟩
  · obtain ⟨s', e', h1, h2, h3, h4⟩ := dyadic_ev (dr := dr) (e := e) hs hb hB
    exact ⟨s', e', h1, ex_of_strip h0 h2 h3 h4⟩
theorem pr0 {s e : Int} : ixD (pr s e) (.int 0) = some (.int s) := rfl
theorem pr1 {s e : Int} : ixD (pr s e) (.int 1) = some (.int e) := rfl
theorem minus_ev {s e : Int} {dr : Dr} : m_minus_of [pr s e] dr = some (pr (-s) e, dr) := by
  refine fnM_eq ?_
  unfold b_minus_of
  simp -dsimp [pr0, pr1]
  rfl
theorem places_ev {n : Int} {dr : Dr} : m_places_of_whole [.int n] dr = some (.int (Builtin.Int.intBits n : Nat), dr) := by
  refine fnM_eq ?_
  unfold b_places_of_whole
  simp -dsimp [bitsD]
theorem top_ev {s e : Int} {dr : Dr} : m_top_of [pr s e] dr = some (.int ((Builtin.Int.intBits s : Nat) + e), dr) := by
  refine fnM_eq ?_
  unfold b_top_of
  have ha : absD [.int s] = some (.int (s.natAbs : Int)) := by
    show some (PyData.int (if s < 0 then -s else s)) = _
    congr 2
    split <;> omega
  have hb : Builtin.Int.intBits ((s.natAbs : Nat) : Int) = Builtin.Int.intBits s := by
    unfold Builtin.Int.intBits
    simp
  simp -dsimp [pr0, pr1, ha, places_ev, hb]
end Wk
/-! the one rounding: the plain part -/
namespace Ea
open PySem Mi
def bt (A : Nat) : Nat := Builtin.Int.intBits (A : Int)
theorem bt_nat {s : Int} : bt s.natAbs = Builtin.Int.intBits s := by
  unfold bt Builtin.Int.intBits
  simp
theorem lt_bt {A : Nat} : A < 2 ^ bt A := by
  have := bits_lt (s := (A : Int))
  rwa [Int.natAbs_natCast] at this
theorem bt_iff {A m : Nat} : 2 ^ m ≤ A ↔ m < bt A := by
  constructor
  · intro h
    exact (Nat.pow_lt_pow_iff_right (by decide : 1 < 2)).mp (Nat.lt_of_le_of_lt h lt_bt)
  · intro h
    have hne : (A : Int) ≠ 0 := by
      intro z
      have : A = 0 := by omega
      subst this
      have : bt 0 = 0 := rfl
      omega
    obtain ⟨h1, h2⟩ := bits_le hne
    rw [Int.natAbs_natCast] at h2
    exact Nat.le_trans (Nat.pow_le_pow_right (by decide) (by unfold bt at h; omega)) h2
theorem bt_le {A m : Nat} (h : A < 2 ^ m) : bt A ≤ m := by
  have := (bt_iff (A := A) (m := m)).mpr
  omega
theorem bt_shl {A q : Nat} (h : A ≠ 0) : bt (A * 2 ^ q) = bt A + q := by
  have hpos : 0 < bt A := (bt_iff (m := 0)).mp (by omega)
  have h1 : bt (A * 2 ^ q) ≤ bt A + q := bt_le (by
    rw [Nat.pow_add]
    exact Nat.mul_lt_mul_of_pos_right lt_bt (Nat.two_pow_pos _))
  have h2 : bt A - 1 + q < bt (A * 2 ^ q) := bt_iff.mp (by
    rw [Nat.pow_add]
    exact Nat.mul_le_mul_right _ (bt_iff.mpr (by omega)))
  omega
/-! ### the pair of a number -/
theorem ex_exists : ∀ (m : Nat) (v k : Int), v.natAbs ≤ m → ∃ s e, 0 ≤ k → Ex s e v k := by
  intro m
  induction m with
  | zero =>
    intro v k h
    exact ⟨0, 0, fun _ => .inl ⟨rfl, rfl, by omega⟩⟩
  | succ m ih =>
    intro v k h
    by_cases h0 : v = 0
    · exact ⟨0, 0, fun _ => .inl ⟨rfl, rfl, h0⟩⟩
    by_cases h1 : v % 2 = 1
    · refine ⟨v, -k, fun _ => .inr ⟨h1, by omega, ?_⟩⟩
      rw [show (-k + k).toNat = 0 by omega]
      simp
    · obtain ⟨s, e, he⟩ := ih (v / 2) k (by omega)
      refine ⟨s, e + 1, fun hk => ?_⟩
      rcases he hk with ⟨_, _, z⟩ | ⟨g1, g2, g3⟩
      · omega
      · refine .inr ⟨g1, by omega, ?_⟩
        rw [show (e + 1 + k).toNat = (e + k).toNat + 1 by omega, Int.pow_succ, ← Int.mul_assoc, ← g3]
        omega
theorem ex_uniq {s e s' e' v k : Int} (h : Ex s e v k) (h' : Ex s' e' v k) : s = s' ∧ e = e' := by
  rcases h with ⟨a1, a2, a3⟩ | ⟨a1, a2, a3⟩
  · rcases h' with ⟨b1, b2, b3⟩ | ⟨b1, b2, b3⟩
    · omega
    · exact absurd ((ex_zero (.inr ⟨b1, b2, b3⟩)).mpr a3) (odd_ne b1)
  · rcases h' with ⟨b1, b2, b3⟩ | ⟨b1, b2, b3⟩
    · exact absurd ((ex_zero (.inr ⟨a1, a2, a3⟩)).mpr b3) (odd_ne a1)
    · have key : ∀ {a b : Int} {m n : Nat}, a % 2 = 1 → a * 2 ^ m = b * 2 ^ n → ¬ m < n := fun {a b m n} ha h hlt => by
        obtain ⟨k, rfl⟩ : ∃ k, n = m + (k + 1) := ⟨n - m - 1, by omega⟩
        rw [Int.pow_add, Int.pow_succ, Int.mul_comm (2 ^ m), ← Int.mul_assoc] at h
        have := Int.eq_of_mul_eq_mul_right (by have := pow_pos m; omega) h
        rw [this, ← Int.mul_assoc] at ha
        omega
      have h := a3.symm.trans b3
      have q : (e + k).toNat = (e' + k).toNat := by
        have h1 := key a1 h
        have h2 := key b1 h.symm
        omega
      rw [q] at h
      exact ⟨Int.eq_of_mul_eq_mul_right (by have := pow_pos (e' + k).toNat; omega) h, by omega⟩
noncomputable def nf (v : Int) : Int × Int := ⟨Classical.choose (ex_exists v.natAbs v 120 (Nat.le_refl _)), Classical.choose (Classical.choose_spec (ex_exists v.natAbs v 120 (Nat.le_refl _)))⟩
theorem nf_ex (v : Int) : Ex (nf v).1 (nf v).2 v 120 := Classical.choose_spec (Classical.choose_spec (ex_exists v.natAbs v 120 (Nat.le_refl _))) (by decide)
theorem nf_is {s e v : Int} (h : Ex s e v 120) : nf v = (s, e) := by
  obtain ⟨h1, h2⟩ := ex_uniq (nf_ex v) h
  exact Prod.ext h1 h2
theorem nf_inj {v w : Int} (h : nf v = nf w) : v = w := by
  have h1 := nf_ex v
  have h2 := nf_ex w
  rw [h] at h1
  rcases h1 with ⟨a1, a2, a3⟩ | ⟨a1, a2, a3⟩
  · rw [a3]
    rcases h2 with ⟨b1, b2, b3⟩ | ⟨b1, b2, b3⟩
    · rw [b3]
    · omega
  · rcases h2 with ⟨b1, b2, b3⟩ | ⟨b1, b2, b3⟩
    · omega
    · exact a3.trans b3.symm
theorem nf_bits {v : Int} (h : v ≠ 0) : (Builtin.Int.intBits (nf v).1 : Int) + (nf v).2 = bt v.natAbs - 120 ∧ 0 ≤ (nf v).2 + 120 ∧ v.natAbs = (nf v).1.natAbs * 2 ^ ((nf v).2 + 120).toNat := by
  rcases nf_ex v with ⟨_, _, z⟩ | ⟨a1, a2, a3⟩
  · exact absurd z h
  · have e1 : v.natAbs = (nf v).1.natAbs * 2 ^ ((nf v).2 + 120).toNat := by
      conv => lhs; rw [a3]
      rw [Int.natAbs_mul, natAbs_pow]
    refine ⟨?_, a2, e1⟩
    have := bt_shl (A := (nf v).1.natAbs) (q := ((nf v).2 + 120).toNat) (by have := odd_ne a1; omega)
    rw [← e1, bt_nat (s := (nf v).1)] at this
    omega
/-! ### rounding -/
def rdc (c r w : Nat) : Nat := if 2 * r > w ∨ (2 * r = w ∧ c % 2 = 1) then c + 1 else c
theorem rdc_scale {c r w q : Nat} : rdc c (r * 2 ^ q) (w * 2 ^ q) = rdc c r w := by
  have p := Nat.two_pow_pos q
  have h1 : 2 * (r * 2 ^ q) > w * 2 ^ q ↔ 2 * r > w := by
    rw [← Nat.mul_assoc]
    exact Nat.mul_lt_mul_right p
  have h2 : 2 * (r * 2 ^ q) = w * 2 ^ q ↔ 2 * r = w := by
    rw [← Nat.mul_assoc]
    exact Nat.mul_left_inj (Nat.pos_iff_ne_zero.mp p)
  unfold rdc
  simp only [h1, h2]
theorem rdc_0 {c w : Nat} (h : 0 < w) : rdc c 0 w = c := by
  unfold rdc
  rw [if_neg (by omega)]
theorem rdc_le {c r w : Nat} : c ≤ rdc c r w ∧ rdc c r w ≤ c + 1 := by
  unfold rdc
  split <;> omega
def stp (b L A : Nat) : Nat := max L (bt A - b)
def amt (b L A : Nat) : Nat := rdc (A / 2 ^ stp b L A) (A % 2 ^ stp b L A) (2 ^ stp b L A) * 2 ^ stp b L A
def rd (b L H : Nat) (n : Int) : Option Int := if 2 ^ H ≤ amt b L n.natAbs then none else some (if n < 0 then -(amt b L n.natAbs : Int) else (amt b L n.natAbs : Int))
theorem amt_self {b L A : Nat} : amt b L A = A ↔ 2 ^ stp b L A ∣ A := by
  constructor
  · intro h
    have e : amt b L A = rdc (A / 2 ^ stp b L A) (A % 2 ^ stp b L A) (2 ^ stp b L A) * 2 ^ stp b L A := rfl
    rw [h] at e
    exact ⟨_, by rw [Nat.mul_comm]; exact e⟩
  · intro h
    unfold amt
    rw [Nat.mod_eq_zero_of_dvd h, rdc_0 (Nat.two_pow_pos _), Nat.div_mul_cancel h]
/-- what is rounded stays -/
theorem amt_amt {b L A : Nat} (hb : 1 ≤ b) : amt b L (amt b L A) = amt b L A := by
  refine amt_self.mpr ?_
  have hst : L ≤ stp b L A ∧ bt A ≤ b + stp b L A := by
    unfold stp
    omega
  obtain ⟨c, hc, hle⟩ : ∃ c, amt b L A = c * 2 ^ stp b L A ∧ c ≤ 2 ^ b := by
    refine ⟨_, rfl, ?_⟩
    have h1 : A / 2 ^ stp b L A < 2 ^ b := by
      rw [Nat.div_lt_iff_lt_mul (Nat.two_pow_pos _), ← Nat.pow_add]
      exact Nat.lt_of_lt_of_le lt_bt (Nat.pow_le_pow_right (by decide) hst.2)
    have := (rdc_le (c := A / 2 ^ stp b L A) (r := A % 2 ^ stp b L A) (w := 2 ^ stp b L A)).2
    omega
  generalize stp b L A = st at *
  rw [hc]
  by_cases h : c < 2 ^ b
  · have h2 : stp b L (c * 2 ^ st) ≤ st := by
      have : bt (c * 2 ^ st) ≤ b + st := bt_le (by
        rw [Nat.pow_add]
        exact Nat.mul_lt_mul_of_pos_right h (Nat.two_pow_pos _))
      unfold stp
      omega
    exact Nat.dvd_trans (Nat.pow_dvd_pow 2 h2) (Nat.dvd_mul_left _ _)
  · have e : c = 2 ^ b := by omega
    subst e
    rw [← Nat.pow_add]
    have : bt (2 ^ (b + st)) ≤ b + st + 1 := bt_le (Nat.pow_lt_pow_right (by decide) (by omega))
    refine Nat.pow_dvd_pow 2 ?_
    unfold stp
    omega
theorem rd_some {b L H : Nat} {n : Int} : rd b L H n = some n ↔ amt b L n.natAbs = n.natAbs ∧ n.natAbs < 2 ^ H := by
  unfold rd
  split
  · rename_i h
    constructor
    · intro z
      cases z
    · intro z
      omega
  · rename_i h
    simp only [Option.some.injEq]
    constructor
    · intro z
      split at z <;> omega
    · rintro ⟨z, _⟩
      rw [z]
      split <;> omega
theorem rd_again {b L H : Nat} {n m : Int} (hb : 1 ≤ b) (h : rd b L H n = some m) : rd b L H m = some m := by
  refine rd_some.mpr ?_
  unfold rd at h
  split at h
  · cases h
  · rename_i h1
    simp only [Option.some.injEq] at h
    have e : m.natAbs = amt b L n.natAbs := by
      subst h
      split <;> omega
    rw [e]
    exact ⟨amt_amt hb, by omega⟩
/-- a number that stays has few digits, and no digit below the least step -/
theorem rd_fits {b L H : Nat} {n : Int} (h0 : n ≠ 0) (h : rd b L H n = some n) : (L : Int) - 120 ≤ (nf n).2 ∧ Builtin.Int.intBits (nf n).1 ≤ b := by
  obtain ⟨g1, g2, g3⟩ := nf_bits h0
  have h1 := amt_self.mp (rd_some.mp h).1
  have hst : L ≤ stp b L n.natAbs ∧ bt n.natAbs ≤ b + stp b L n.natAbs := by
    unfold stp
    omega
  have hq : stp b L n.natAbs ≤ ((nf n).2 + 120).toNat := by
    rcases Nat.lt_or_ge ((nf n).2 + 120).toNat (stp b L n.natAbs) with hlt | hge
    · exfalso
      generalize stp b L n.natAbs = st at *
      generalize ((nf n).2 + 120).toNat = q at *
      rw [g3] at h1
      obtain ⟨k, rfl⟩ : ∃ k, st = q + (k + 1) := ⟨st - q - 1, by omega⟩
      rw [Nat.pow_add, Nat.mul_comm (2 ^ q)] at h1
      have h2 := Nat.dvd_of_mul_dvd_mul_right (Nat.two_pow_pos q) h1
      rw [Nat.pow_succ] at h2
      have h3 : 2 ∣ (nf n).1.natAbs := Nat.dvd_trans (Nat.dvd_mul_left 2 _) h2
      rcases nf_ex n with ⟨_, _, z⟩ | ⟨a1, _, _⟩
      · exact h0 z
      · omega
    · exact hge
  omega
theorem amt_lt {b L A m : Nat} (h1 : b + L < m) (h2 : bt A < m) : amt b L A < 2 ^ m := by
  have hst : bt A ≤ b + stp b L A ∧ b + stp b L A < m := by
    unfold stp
    omega
  have h3 : A / 2 ^ stp b L A < 2 ^ b := by
    rw [Nat.div_lt_iff_lt_mul (Nat.two_pow_pos _), ← Nat.pow_add]
    exact Nat.lt_of_lt_of_le lt_bt (Nat.pow_le_pow_right (by decide) hst.1)
  have h4 := (rdc_le (c := A / 2 ^ stp b L A) (r := A % 2 ^ stp b L A) (w := 2 ^ stp b L A)).2
  have h5 : amt b L A ≤ 2 ^ b * 2 ^ stp b L A := Nat.mul_le_mul_right _ (by omega)
  rw [← Nat.pow_add] at h5
  exact Nat.lt_of_le_of_lt h5 (Nat.pow_lt_pow_right (by decide) hst.2)
end Ea
namespace Wk
open PySem PySem.Spec PyProof.Rows L2 Mi Ea
noncomputable def nfD (v : Int) : D := pr (nf v).1 (nf v).2
theorem nfD_is {s e v : Int} (h : Ex s e v 120) : nfD v = pr s e := by
  unfold nfD
  rw [nf_is h]
theorem nfD_0 : nfD 0 = pr 0 0 := nfD_is (.inl ⟨rfl, rfl, rfl⟩)
def gr : D := .tuple [.none, .str "great"]
noncomputable def RT : Option Int → D
  | some v => .tuple [nfD v, .none]
  | none => gr
def frm (b L H : Nat) : D := .tuple [.int b, .int ((L : Int) - 120), .int ((H : Int) - 120)]
structure Fm (b L H : Nat) : Prop where
  b : 2 ≤ b ∧ b ≤ 24
  l : 80 ≤ L ∧ L ≤ 119
  h : 121 ≤ H ∧ H ≤ 160
section
variable {b L H : Nat}
theorem f0 : ixD (frm b L H) (.int 0) = some (.int b) := rfl
theorem f1 : ixD (frm b L H) (.int 1) = some (.int ((L : Int) - 120)) := rfl
theorem f2 : ixD (frm b L H) (.int 2) = some (.int ((H : Int) - 120)) := rfl
end
theorem n0 {v : Int} : ixD (nfD v) (.int 0) = some (.int (nf v).1) := rfl
theorem n1 {v : Int} : ixD (nfD v) (.int 1) = some (.int (nf v).2) := rfl
theorem dyadic_nf {c e : Int} {B : Nat} {dr : Dr} (hb : c.natAbs < 2 ^ B) (hB : B ≤ 1000000) (h0 : 0 ≤ e + 120) : m_dyadic [.int c, .int e] dr = some (nfD (c * 2 ^ (e + 120).toNat), dr) := by
  obtain ⟨s', e', h1, h2⟩ := dyadic_ex (dr := dr) hb hB h0
  rw [h1, nfD_is h2]
theorem minus_nf {v : Int} {dr : Dr} : m_minus_of [nfD v] dr = some (nfD (-v), dr) := by
  unfold nfD
  rw [minus_ev, nf_is (ex_neg (nf_ex v))]
theorem top_nf {v : Int} {dr : Dr} (h : v ≠ 0) : m_top_of [nfD v] dr = some (.int (bt v.natAbs - 120), dr) := by
  unfold nfD
  rw [top_ev, (nf_bits h).1]
theorem eq_nought {v : Int} : eqD (nfD v) d_NOUGHT = some (.bool (decide (v = 0))) := by
  have h1 : eqD (nfD v) d_NOUGHT = some (.bool (decide ((nf v).1 = 0 ∧ (nf v).2 = 0))) := eqD_pr
  rw [h1]
  congr 2
  have := ex_zero (nf_ex v)
  rcases nf_ex v with ⟨a1, a2, a3⟩ | ⟨a1, a2, a3⟩
  · rw [decide_eq_true ⟨a1, a2⟩, decide_eq_true a3]
  · have h3 := odd_ne a1
    rw [decide_eq_false (fun z => h3 z.1), decide_eq_false (fun z => h3 (this.mpr z))]
theorem abs_nat {v : Int} : absD [.int v] = some (.int (v.natAbs : Int)) := by
  show some (PyData.int (if v < 0 then -v else v)) = _
  congr 2
  split <;> omega
theorem shl1 {n : Int} (h0 : 0 ≤ n) (h : n ≤ 100000) : shlD (.int 1) (.int n) = some (.int (2 ^ n.toNat)) := by
  rw [shlD_of 1 h0 (by decide) (by omega), Int.one_mul]
theorem maxI {i j : Int} : maxD [.int i, .int j] = some (.int (if j > i then j else i)) := rfl
/-- the round half even step, as bools -/
theorem laid_ev {b L H c r w : Nat} {e : Int} {dr : Dr} (hc : c < 2 ^ 400) (hr : r < 2 ^ 400) (h0 : 0 ≤ e + 120) : m_laid [frm b L H, .int e, .int c, .int r, .int w] dr = some (RT (if 2 ^ H ≤ rdc c r w * 2 ^ (e + 120).toNat then none else some ((rdc c r w * 2 ^ (e + 120).toNat : Nat) : Int)), dr) := by
  refine fnM_eq ?_
  unfold b_laid
  have m2' : mulD (.int 2) (.int (r : Int)) = some (.int (2 * (r : Int))) := mulD_of 2 401 (by decide) (by rw [Int.natAbs_natCast]; exact Nat.lt_of_lt_of_le hr (Nat.pow_le_pow_right (by decide) (by decide))) (by decide)
  -- from c' on
  have tail : ∀ (c' : Nat) (ci : Int), ci = (c' : Int) → c' ≤ 2 ^ 400 → Go (W ((sSeq (sSet 5 (mCallU m_dyadic (aCons (oName 2) (aCons (oName 1) aNil))))
      (sSeq (sIf (bAnd (mB (m2 gtD (oName 2) (oVal (mC (.int 0))))) (mB (m2 gtD (oVal (mCallU m_top_of (aCons (oName 5) aNil))) (oVal (m2 ixD (oName 0) (oVal (mC (.int 2)))))))) (sRet (mTup (mDs [(mC .none), (mC (.str "great"))]))) sNil)
      (sRet (mTup (mDs [(mVar 5), (mC .none)]))))) ⟨[.val (frm b L H), .val (.int e), .val (.int ci), .val (.int r), .val (.int w), .un], dr⟩)
      (fun μ => RT (if 2 ^ H ≤ c' * 2 ^ (e + 120).toNat then none else some ((c' * 2 ^ (e + 120).toNat : Nat) : Int)) = .none ∧ μ.dr = dr) (fun x er => x = RT (if 2 ^ H ≤ c' * 2 ^ (e + 120).toNat then none else some ((c' * 2 ^ (e + 120).toNat : Nat) : Int)) ∧ er = dr) (fun _ => False) (fun _ => False)) := by
    rintro c' ci rfl hc'
    have hd := dyadic_nf (c := (c' : Int)) (e := e) (B := 401) (dr := dr) (by rw [Int.natAbs_natCast]; exact Nat.lt_of_le_of_lt hc' (Nat.pow_lt_pow_right (by decide) (by decide))) (by decide) h0
    have hcast : (c' : Int) * 2 ^ (e + 120).toNat = ((c' * 2 ^ (e + 120).toNat : Nat) : Int) := by
      rw [Int.natCast_mul, pow_cast]
    rw [hcast] at hd
    generalize hN : c' * 2 ^ (e + 120).toNat = N at *
    by_cases hz : c' = 0
    · have hN0 : N = 0 := by rw [← hN, hz, Nat.zero_mul]
      subst hN0
      have hH : ¬ 2 ^ H ≤ 0 := by have := Nat.two_pow_pos H; omega
      have hd0 : m_dyadic [.int 0, .int e] dr = some (nfD 0, dr) := by rw [nfD_0]; exact dyadic_zero
      simp -dsimp [hd0, hz, hH]
      rfl
    · have hc0 : (0 : Int) < (c' : Int) := by omega
      have hN0 : (N : Int) ≠ 0 := by
        have : 0 < c' * 2 ^ (e + 120).toNat := Nat.mul_pos (by omega) (Nat.two_pow_pos _)
        omega
      have ht := top_nf (dr := dr) hN0
      rw [Int.natAbs_natCast] at ht
      have hb := bt_iff (A := N) (m := H)
      have hc1 : 0 < c' := by omega
      by_cases hg : 2 ^ H ≤ N
      · have : (H : Int) - 120 < (bt N : Int) - 120 := by have := hb.mp hg; omega
        simp -dsimp [hd, hc0, hc1, ht, f2, this, hg]
        rfl
      · have : ¬ (H : Int) - 120 < (bt N : Int) - 120 := by
          intro z
          exact hg (hb.mpr (by omega))
        simp -dsimp [hd, hc0, hc1, ht, f2, this, hg]
        rfl
  have T0 := tail c (c : Int) rfl (by omega)
  have T1 := tail (c + 1) ((c : Int) + 1) (by omega) (by omega)
  by_cases h1 : 2 * r > w
  · have h1' : (w : Int) < 2 * (r : Int) := by omega
    have e1 : rdc c r w = c + 1 := if_pos (.inl h1)
    rw [e1]
    simp -dsimp at T1
    simp -dsimp [m2', h1']
    exact T1
  · have h1' : ¬ (w : Int) < 2 * (r : Int) := by omega
    by_cases h2 : 2 * r = w
    · have h2' : 2 * (r : Int) = (w : Int) := by omega
      by_cases h3 : c % 2 = 1
      · have e1 : rdc c r w = c + 1 := if_pos (.inr ⟨h2, h3⟩)
        have h3' : (c : Int) % 2 = 1 := by omega
        rw [e1]
        simp -dsimp at T1
        simp -dsimp [m2', h1', h2', mod2, h3']
        exact T1
      · have e1 : rdc c r w = c := if_neg (by omega)
        have h3' : ¬ (c : Int) % 2 = 1 := by omega
        rw [e1]
        simp -dsimp at T0
        simp -dsimp [m2', h1', h2', mod2, h3']
        exact T0
    · have h2' : ¬ 2 * (r : Int) = (w : Int) := by omega
      have e1 : rdc c r w = c := if_neg (by omega)
      rw [e1]
      simp -dsimp at T0
      simp -dsimp [m2', h1', h2']
      exact T0
theorem nfD_none {v : Int} : isD (nfD v) .none = some (.bool false) := rfl
theorem RT0 {v : Int} : ixD (RT (some v)) (.int 0) = some (nfD v) := rfl
theorem gr0 : ixD gr (.int 0) = some .none := rfl
theorem signed_ev {o : Option Int} {sg : Bool} {dr : Dr} : m_signed [RT o, .bool sg] dr = some (RT (o.map fun v => if sg = true then -v else v), dr) := by
  refine fnM_eq ?_
  unfold b_signed
  cases o with
  | none =>
    have hn : isD .none .none = some (.bool true) := rfl
    have hr : RT none = gr := rfl
    simp -dsimp [hr, gr0, hn]
  | some v =>
    cases sg
    · simp -dsimp [RT0, nfD_none]
    · simp -dsimp [RT0, nfD_none, minus_nf]
      rfl
theorem flat_RT {o : Option Int} : flat (RT o) = false := by cases o <;> rfl
/-- rounded tells the number's rounding -/
theorem rounded_ev {b L H : Nat} {n : Int} {dr : Dr} (F : Fm b L H) (hn : n.natAbs < 2 ^ 250) : m_rounded [frm b L H, nfD n] dr = some (RT (rd b L H n), dr) := by
  obtain ⟨⟨b1, b2⟩, ⟨l1, l2⟩, ⟨h1, h2⟩⟩ := F
  by_cases h0 : n = 0
  · subst h0
    have e0 : rd b L H 0 = some 0 := by
      refine rd_some.mpr ⟨?_, Nat.two_pow_pos _⟩
      exact amt_self.mpr ⟨0, rfl⟩
    rw [e0]
    have hq : eqD (nfD 0) d_NOUGHT = some (.bool true) := eq_nought
    refine fnM_eq ?_
    unfold b_rounded
    simp -dsimp [hq]
    rw [show RT (some 0) = .tuple [nfD 0, .none] from rfl, nfD_0]
    rfl
  obtain ⟨g1, g2, g3⟩ := nf_bits h0
  have hbt : bt n.natAbs ≤ 250 := bt_le hn
  have hs0 : (nf n).1 ≠ 0 := fun z => h0 ((ex_zero (nf_ex n)).mp z)
  have hsl : (nf n).1.natAbs < 2 ^ 250 := Nat.lt_of_le_of_lt (by rw [g3]; exact Nat.le_mul_of_pos_right _ (Nat.two_pow_pos _)) hn
  have hsg : (nf n).1 < 0 ↔ n < 0 := ex_neg_iff (nf_ex n)
  have hq : eqD (nfD n) d_NOUGHT = some (.bool false) := by rw [eq_nought, decide_eq_false h0]
  have hst : ((stp b L n.natAbs : Nat) : Int) - 120 = (if (bt n.natAbs : Int) - 120 - b > (L : Int) - 120 then (bt n.natAbs : Int) - 120 - b else (L : Int) - 120) := by
    unfold stp
    split <;> omega
  have hmax : maxD [.int ((L : Int) - 120), .int ((bt n.natAbs : Int) - 120 - b)] = some (.int (((stp b L n.natAbs : Nat) : Int) - 120)) := by rw [maxI, hst]
  have hamt : amt b L n.natAbs = rdc (n.natAbs / 2 ^ stp b L n.natAbs) (n.natAbs % 2 ^ stp b L n.natAbs) (2 ^ stp b L n.natAbs) * 2 ^ stp b L n.natAbs := rfl
  have hrd : ∀ o : Option Int, o = (if 2 ^ H ≤ amt b L n.natAbs then none else some ((amt b L n.natAbs : Nat) : Int)) → rd b L H n = o.map fun v => if decide ((nf n).1 < 0) = true then -v else v := by
    intro o ho
    rw [ho]
    unfold rd
    have : (decide ((nf n).1 < 0) = true) ↔ n < 0 := by rw [decide_eq_true_iff]; exact hsg
    split
    · rfl
    · simp only [Option.map_some, this]
  have hst2 : stp b L n.natAbs ≤ 260 := by unfold stp; omega
  generalize stp b L n.natAbs = st at *
  by_cases hc : ((st : Nat) : Int) - 120 ≤ (nf n).2
  · -- nothing is lost
    have hdv : 2 ^ st ∣ n.natAbs := by
      rw [g3]
      exact Nat.dvd_trans (Nat.pow_dvd_pow 2 (by omega)) (Nat.dvd_mul_left _ _)
    have hA : amt b L n.natAbs = n.natAbs := by rw [hamt, Nat.mod_eq_zero_of_dvd hdv, rdc_0 (Nat.two_pow_pos _), Nat.div_mul_cancel hdv]
    have hl : m_laid [frm b L H, .int (nf n).2, .int ((nf n).1.natAbs : Int), .int 0, .int 1] dr = some (RT (if 2 ^ H ≤ n.natAbs then none else some ((n.natAbs : Nat) : Int)), dr) := by
      have hl := laid_ev (b := b) (L := L) (H := H) (c := (nf n).1.natAbs) (r := 0) (w := 1) (e := (nf n).2) (dr := dr) (Nat.lt_trans hsl (Nat.pow_lt_pow_right (by decide) (by decide))) (Nat.two_pow_pos _) g2
      rw [rdc_0 (by decide), ← g3] at hl
      exact hl
    rw [hrd _ (by rw [hA])]
    generalize (if 2 ^ H ≤ n.natAbs then none else some ((n.natAbs : Nat) : Int)) = o at *
    have hsn := signed_ev (o := o) (sg := decide ((nf n).1 < 0)) (dr := dr)
    generalize (o.map fun v => if decide ((nf n).1 < 0) = true then -v else v) = o' at *
    refine fnM_eq ?_
    unfold b_rounded
    simp -dsimp [hq, f1, f0, n1, n0, top_nf h0, hmax, hc, abs_nat, hl, flat_RT, hsn]
  · obtain ⟨d, hd⟩ : ∃ d : Nat, (d : Int) = (st : Int) - 120 - (nf n).2 := ⟨((st : Int) - 120 - (nf n).2).toNat, by omega⟩
    have hsd : st = d + ((nf n).2 + 120).toNat := by omega
    obtain ⟨c, hcv⟩ : ∃ c, c = (nf n).1.natAbs / 2 ^ d := ⟨_, rfl⟩
    obtain ⟨r, hrv⟩ : ∃ r, r = (nf n).1.natAbs % 2 ^ d := ⟨_, rfl⟩
    have hs : shlD (.int 1) (.int ((st : Int) - 120 - (nf n).2)) = some (.int (2 ^ d)) := by
      rw [← hd, shl1 (by omega) (by omega), Int.toNat_natCast]
    have hf : fdivD (.int ((nf n).1.natAbs : Int)) (.int (2 ^ d)) = some (.int (c : Int)) := by
      rw [fdivD_of (pow_pos d) (by rw [natAbs_pow]; exact Nat.pow_lt_pow_right (by decide) (by omega)), hcv, ← pow_cast]
      rfl
    have hm : modD (.int ((nf n).1.natAbs : Int)) (.int (2 ^ d)) = some (.int (r : Int)) := by
      rw [modD_of (pow_pos d), hrv, ← pow_cast]
      rfl
    have hcl : c < 2 ^ 400 := by
      rw [hcv]
      exact Nat.lt_of_le_of_lt (Nat.div_le_self _ _) (Nat.lt_trans hsl (Nat.pow_lt_pow_right (by decide) (by decide)))
    have hrl : r < 2 ^ 400 := by
      rw [hrv]
      exact Nat.lt_of_le_of_lt (Nat.mod_le _ _) (Nat.lt_trans hsl (Nat.pow_lt_pow_right (by decide) (by decide)))
    have hA : amt b L n.natAbs = rdc c r (2 ^ d) * 2 ^ st := by
      rw [hamt, hcv, hrv, g3]
      have p2 : 2 ^ st = 2 ^ d * 2 ^ ((nf n).2 + 120).toNat := by rw [hsd, Nat.pow_add]
      congr 1
      rw [p2, Nat.mul_div_mul_right _ _ (Nat.two_pow_pos _), Nat.mul_mod_mul_right, rdc_scale]
    have hl : m_laid [frm b L H, .int ((st : Int) - 120), .int (c : Int), .int (r : Int), .int (2 ^ d)] dr = some (RT (if 2 ^ H ≤ amt b L n.natAbs then none else some ((amt b L n.natAbs : Nat) : Int)), dr) := by
      have hl := laid_ev (b := b) (L := L) (H := H) (c := c) (r := r) (w := 2 ^ d) (e := (st : Int) - 120) (dr := dr) hcl hrl (by omega)
      rw [show ((st : Int) - 120 + 120).toNat = st by omega, ← hA, pow_cast] at hl
      exact hl
    rw [hrd _ rfl]
    generalize (if 2 ^ H ≤ amt b L n.natAbs then none else some ((amt b L n.natAbs : Nat) : Int)) = o at *
    have hsn := signed_ev (o := o) (sg := decide ((nf n).1 < 0)) (dr := dr)
    generalize (o.map fun v => if decide ((nf n).1 < 0) = true then -v else v) = o' at *
    refine fnM_eq ?_
    unfold b_rounded
    simp -dsimp [hq, f1, f0, n1, n0, top_nf h0, hmax, hc, abs_nat, hs, hf, hm, hl, flat_RT, hsn]
end Wk
namespace Wk
open PySem PySem.Spec PyProof.Rows L2 Mi Ea
theorem lay_nf {v : Int} : (nfD v).canLay0 = true ∧ (nfD v).depth ≤ 1 := lay_tuple (n := 0) fun d hd => by
  simp only [List.mem_cons, List.not_mem_nil, or_false] at hd
  rcases hd with rfl | rfl <;> exact lay_int
theorem lay_gr : gr.canLay0 = true ∧ gr.depth ≤ 2 := ⟨by decide +kernel, by decide +kernel⟩
theorem lay_RT {o : Option Int} : (RT o).canLay0 = true ∧ (RT o).depth ≤ 2 := by
  cases o with
  | none => exact lay_gr
  | some v =>
    refine lay_tuple (n := 1) fun d hd => ?_
    simp only [List.mem_cons, List.not_mem_nil, or_false] at hd
    rcases hd with rfl | rfl
    · exact lay_nf
    · exact ⟨rfl, by simp [PyData.depth]⟩
theorem eqv_nf {v w : Int} : PyData.eqv (nfD v) (nfD w) = decide (v = w) := by
  have : PyData.eqv (nfD v) (nfD w) = (((nf v).1 == (nf w).1) && (((nf v).2 == (nf w).2) && true)) := by
    simp [nfD, pr, PyData.eqv, PyData.eqvAll]
  rw [this]
  by_cases h : v = w
  · subst h
    simp
  · rw [decide_eq_false h]
    by_cases h1 : (nf v).1 = (nf w).1
    · by_cases h2 : (nf v).2 = (nf w).2
      · exact absurd (nf_inj (Prod.ext h1 h2)) h
      · simp [h2]
    · simp [h1]
theorem eqD_nf {v w : Int} : eqD (nfD v) (nfD w) = some (.bool (decide (v = w))) := by
  unfold eqD
  rw [shaped_lay lay_nf (by decide), shaped_lay lay_nf (by decide), eqv_nf]
  rfl
theorem eqD_RT {o o' : Option Int} : eqD (RT o) (RT o') = some (.bool (decide (o = o'))) := by
  unfold eqD
  rw [shaped_lay lay_RT (by decide), shaped_lay lay_RT (by decide)]
  simp only [Bool.and_self, if_true]
  congr 2
  cases o with
  | none =>
    cases o' with
    | none => exact (eqv_rfl _ lay_gr.1).trans (by simp)
    | some w =>
      have : PyData.eqv (RT none) (RT (some w)) = (PyData.eqv .none (nfD w) && PyData.eqvAll [.str "great"] [.none]) := by simp [RT, gr, PyData.eqv, PyData.eqvAll]
      rw [this]
      simp [PyData.eqv, nfD, pr]
  | some v =>
    cases o' with
    | none =>
      have : PyData.eqv (RT (some v)) (RT none) = (PyData.eqv (nfD v) .none && PyData.eqvAll [.none] [.str "great"]) := by simp [RT, gr, PyData.eqv, PyData.eqvAll]
      rw [this]
      simp [PyData.eqv, nfD, pr]
    | some w =>
      have : PyData.eqv (RT (some v)) (RT (some w)) = (PyData.eqv (nfD v) (nfD w) && true) := by simp [RT, PyData.eqv, PyData.eqvAll]
      rw [this, eqv_nf]
      simp
theorem law_exact_ev {n : Int} {B : Nat} {dr : Dr} (hb : n.natAbs < 2 ^ B) (hB : B ≤ 1000000) : m_law_exact [.int n, .int 120] dr = some (nfD n, dr) := by
  refine fnM_eq ?_
  unfold b_law_exact
  by_cases h0 : n = 0
  · subst h0
    simp -dsimp
    exact nfD_0.symm
  simp -dsimp [h0]
  refine w_while (fun m μ => ∃ (n1 : Int) (j : Nat), n1 ≠ 0 ∧ n1.natAbs < 2 ^ m ∧ n = n1 * 2 ^ j ∧ μ = ⟨[.val (.int n1), .val (.int 120), .val (.int ((j : Int) - 120))], dr⟩) (n := B) (by unfold fuel; omega) ⟨n, 0, h0, hb, by simp, rfl⟩ ?_
  rintro m μ ⟨n1, j, h1, h2, h3, rfl⟩
  have hf : fdivD (.int n1) (.int 2) = some (.int (n1 / 2)) := fdivD_of (by decide) (by decide +kernel)
  simp -dsimp [mod2, hf]
  by_cases hd : n1 % 2 = 0
  · rw [if_pos hd]
    have hm : m ≠ 0 := by
      intro z
      subst z
      simp at h2
      omega
    refine ⟨m - 1, by omega, n1 / 2, by omega, ?_, j + 1, ?_, ?_, ?_⟩
    · have : 2 ^ m = 2 ^ (m - 1) * 2 := by rw [← Nat.pow_succ]; congr 1; omega
      omega
    · rw [h3, Int.pow_succ, Int.mul_comm (2 ^ j), ← Int.mul_assoc]
      congr 1
      omega
    · rfl
    · omega
  · rw [if_neg hd]
    have he : nfD n = pr n1 ((j : Int) - 120) := nfD_is (.inr ⟨by omega, by omega, by rw [h3]; congr 2; omega⟩)
    rw [he]
    rfl
theorem law_due_ev {b L H : Nat} {n : Int} {dr : Dr} (F : Fm b L H) (hn : n.natAbs < 2 ^ 250) : m_law_due [frm b L H, .int n] dr = some (RT (rd b L H n), dr) := by
  obtain ⟨⟨b1, b2⟩, ⟨l1, l2⟩, ⟨h1, h2⟩⟩ := F
  refine fnM_eq ?_
  unfold b_law_due
  by_cases h0 : n = 0
  · subst h0
    have e0 : rd b L H 0 = some 0 := rd_some.mpr ⟨amt_self.mpr ⟨0, rfl⟩, Nat.two_pow_pos _⟩
    rw [e0]
    simp -dsimp
    rw [show RT (some 0) = .tuple [nfD 0, .none] from rfl, nfD_0]
    rfl
  have hbt : bt n.natAbs ≤ 250 := bt_le hn
  have hst : ((stp b L n.natAbs : Nat) : Int) - 120 = (if (bt n.natAbs : Int) - 120 - b > (L : Int) - 120 then (bt n.natAbs : Int) - 120 - b else (L : Int) - 120) := by
    unfold stp
    split <;> omega
  have hmax : maxD [.int ((L : Int) - 120), .int ((bt n.natAbs : Int) - 120 - b)] = some (.int (((stp b L n.natAbs : Nat) : Int) - 120)) := by rw [maxI, hst]
  have hamt : amt b L n.natAbs = rdc (n.natAbs / 2 ^ stp b L n.natAbs) (n.natAbs % 2 ^ stp b L n.natAbs) (2 ^ stp b L n.natAbs) * 2 ^ stp b L n.natAbs := rfl
  have hst2 : stp b L n.natAbs ≤ 260 := by unfold stp; omega
  have hal : amt b L n.natAbs < 2 ^ 300 := amt_lt (by omega) (by omega)
  have hrd : rd b L H n = if 2 ^ H ≤ amt b L n.natAbs then none else some (if n < 0 then -(amt b L n.natAbs : Int) else (amt b L n.natAbs : Int)) := rfl
  rw [hrd]
  generalize amt b L n.natAbs = am at *
  generalize stp b L n.natAbs = st at *
  obtain ⟨c, hcv⟩ : ∃ c, c = n.natAbs / 2 ^ st := ⟨_, rfl⟩
  obtain ⟨r, hrv⟩ : ∃ r, r = n.natAbs % 2 ^ st := ⟨_, rfl⟩
  rw [← hcv, ← hrv] at hamt
  have hs : shlD (.int 1) (.int (st : Int)) = some (.int (2 ^ st)) := by
    rw [shl1 (by omega) (by omega), Int.toNat_natCast]
  have hsH : shlD (.int 1) (.int (H : Int)) = some (.int (2 ^ H)) := by
    rw [shl1 (by omega) (by omega), Int.toNat_natCast]
  have hf : fdivD (.int (n.natAbs : Int)) (.int (2 ^ st)) = some (.int (c : Int)) := by
    rw [fdivD_of (pow_pos st) (by rw [natAbs_pow]; exact Nat.pow_lt_pow_right (by decide) (by omega)), hcv, ← pow_cast]
    rfl
  have hm : modD (.int (n.natAbs : Int)) (.int (2 ^ st)) = some (.int (r : Int)) := by
    rw [modD_of (pow_pos st), hrv, ← pow_cast]
    rfl
  have hcl : c < 2 ^ 250 := by
    rw [hcv]
    exact Nat.lt_of_le_of_lt (Nat.div_le_self _ _) hn
  have hrl : r < 2 ^ 250 := by
    rw [hrv]
    exact Nat.lt_of_le_of_lt (Nat.mod_le _ _) hn
  have m2' : mulD (.int 2) (.int (r : Int)) = some (.int (2 * (r : Int))) := mulD_of 2 251 (by decide) (by rw [Int.natAbs_natCast]; exact Nat.lt_trans hrl (Nat.pow_lt_pow_right (by decide) (by decide))) (by decide)
  have tail : ∀ (c' : Nat) (ci : Int) (a2 a3 : Sl), ci = (c' : Int) → am = c' * 2 ^ st → Go (W ((sSeq (sSet 2 (m2 mulD (oName 5) (oVal (m2 shlD (oVal (mC (.int 1))) (oName 4)))))
      (sSeq (sIf (mB (m2 geD (oName 2) (oVal (m2 shlD (oVal (mC (.int 1))) (oVal (m2 addD (oVal (m2 ixD (oName 0) (oVal (mC (.int 2))))) (oVal (mC (.int 120))))))))) (sRet (mTup (mDs [(mC .none), (mC (.str "great"))]))) sNil)
      (sRet (mTup (mDs [(mCallU m_law_exact (aCons (oVal (eIf (mB (m2 gtD (oName 1) (oVal (mC (.int 0))))) (mVar 2) (m2 subD (oVal (mC (.int 0))) (oName 2)))) (aCons (oVal (mC (.int 120))) aNil))), (mC .none)]))))) ⟨[.val (frm b L H), .val (.int n), a2, a3, .val (.int (st : Int)), .val (.int ci), .val (.int r)], dr⟩)
      (fun μ => RT (if 2 ^ H ≤ am then none else some (if n < 0 then -(am : Int) else (am : Int))) = .none ∧ μ.dr = dr) (fun x er => x = RT (if 2 ^ H ≤ am then none else some (if n < 0 then -(am : Int) else (am : Int))) ∧ er = dr) (fun _ => False) (fun _ => False)) := by
    rintro c' ci a2 a3 rfl ham
    have hc2 : c' ≤ am := by rw [ham]; exact Nat.le_mul_of_pos_right _ (Nat.two_pow_pos _)
    have hmul : mulD (.int (c' : Int)) (.int (2 ^ st)) = some (.int (am : Int)) := by
      rw [mulD_of 300 261 (by rw [Int.natAbs_natCast]; omega) (by rw [natAbs_pow]; exact Nat.pow_lt_pow_right (by decide) (by omega)) (by decide), ham, Int.natCast_mul, pow_cast]
    by_cases hg : 2 ^ H ≤ am
    · have hg' : (2 : Int) ^ H ≤ (am : Int) := by rw [← pow_cast]; exact Int.ofNat_le.mpr hg
      simp -dsimp [hs, hmul, f2, hsH, hg', hg]
      rfl
    · have hg' : ¬ (2 : Int) ^ H ≤ (am : Int) := by rw [← pow_cast]; intro z; exact hg (Int.ofNat_le.mp z)
      by_cases hneg : n < 0
      · have hp : ¬ 0 < n := by omega
        have hx := law_exact_ev (n := -(am : Int)) (B := 300) (dr := dr) (by rw [Int.natAbs_neg, Int.natAbs_natCast]; exact hal) (by decide)
        simp -dsimp [hs, hmul, f2, hsH, hg', hg, hneg, hp, hx]
        rfl
      · have hp : 0 < n := by omega
        have hx := law_exact_ev (n := (am : Int)) (B := 300) (dr := dr) (by rw [Int.natAbs_natCast]; exact hal) (by decide)
        simp -dsimp [hs, hmul, f2, hsH, hg', hg, hneg, hp, hx]
        rfl
  simp -dsimp [h0, abs_nat]
  refine w_while (fun m μ => ∃ t : Nat, m + t = bt n.natAbs ∧ μ = ⟨[.val (frm b L H), .val (.int n), .val (.int (n.natAbs : Int)), .val (.int ((t : Int) - 120)), .un, .un, .un], dr⟩) (n := bt n.natAbs) (by unfold fuel; omega) ⟨0, by omega, rfl⟩ ?_
  rintro m μ ⟨t, ht, rfl⟩
  have hst' : shlD (.int 1) (.int (t : Int)) = some (.int (2 ^ t)) := by
    rw [shl1 (by omega) (by omega), Int.toNat_natCast]
  have hi := bt_iff (A := n.natAbs) (m := t)
  by_cases hm0 : m = 0
  · have e : t = bt n.natAbs := by omega
    have hng : ¬ (2 : Int) ^ t ≤ (n.natAbs : Int) := by
      rw [← pow_cast]
      intro z
      have := hi.mp (Int.ofNat_le.mp z)
      omega
    rw [e] at hng hst' ⊢
    have T0 := tail c (c : Int) (.val (.int (n.natAbs : Int))) (.val (.int ((bt n.natAbs : Int) - 120))) rfl
    have T1 := tail (c + 1) ((c : Int) + 1) (.val (.int (n.natAbs : Int))) (.val (.int ((bt n.natAbs : Int) - 120))) (by omega)
    by_cases g1 : 2 * r > 2 ^ st
    · have g1' : (2 : Int) ^ st < 2 * (r : Int) := by rw [← pow_cast]; omega
      have e1 : rdc c r (2 ^ st) = c + 1 := if_pos (.inl g1)
      rw [e1] at hamt
      have T1 := T1 hamt
      simp -dsimp [hs] at T1
      simp -dsimp [hst', hng, f1, f0, hmax, hs, hf, hm, m2', g1']
      exact T1
    · have g1' : ¬ (2 : Int) ^ st < 2 * (r : Int) := by rw [← pow_cast]; omega
      by_cases g2 : 2 * r = 2 ^ st
      · have g2' : 2 * (r : Int) = (2 : Int) ^ st := by rw [← pow_cast]; omega
        by_cases g3 : c % 2 = 1
        · have e1 : rdc c r (2 ^ st) = c + 1 := if_pos (.inr ⟨g2, g3⟩)
          have g3' : (c : Int) % 2 = 1 := by omega
          rw [e1] at hamt
          have T1 := T1 hamt
          simp -dsimp [hs] at T1
          simp -dsimp [hst', hng, f1, f0, hmax, hs, hf, hm, m2', g1', g2', mod2, g3']
          exact T1
        · have e1 : rdc c r (2 ^ st) = c := if_neg (by omega)
          have g3' : ¬ (c : Int) % 2 = 1 := by omega
          rw [e1] at hamt
          have T0 := T0 hamt
          simp -dsimp [hs] at T0
          simp -dsimp [hst', hng, f1, f0, hmax, hs, hf, hm, m2', g1', g2', mod2, g3']
          exact T0
      · have g2' : ¬ 2 * (r : Int) = (2 : Int) ^ st := by rw [← pow_cast]; omega
        have e1 : rdc c r (2 ^ st) = c := if_neg (by omega)
        rw [e1] at hamt
        have T0 := T0 hamt
        simp -dsimp [hs] at T0
        simp -dsimp [hst', hng, f1, f0, hmax, hs, hf, hm, m2', g1', g2']
        exact T0
  · have hg : (2 : Int) ^ t ≤ (n.natAbs : Int) := by
      rw [← pow_cast]
      exact Int.ofNat_le.mpr (hi.mpr (by omega))
    simp -dsimp [hst', hg]
    exact ⟨m - 1, by omega, t + 1, by omega, by omega⟩
end Wk
namespace Wk
open PySem PySem.Spec PyProof.Rows L2 Mi Ea
theorem rd0 {b L H : Nat} : rd b L H 0 = some 0 := rd_some.mpr ⟨amt_self.mpr ⟨0, rfl⟩, Nat.two_pow_pos _⟩
theorem exact_nf {n : Int} {dr : Dr} : m_is_exact [nfD n] dr = some (.bool true, dr) := is_exact_ev (nf_ex n)
theorem is_of_format_ev {b L H : Nat} {n : Int} {dr : Dr} (F : Fm b L H) (hn : n.natAbs < 2 ^ 250) : m_is_of_format [frm b L H, nfD n] dr = some (.bool (decide (rd b L H n = some n)), dr) := by
  have hF := F
  obtain ⟨⟨b1, b2⟩, ⟨l1, l2⟩, ⟨h1, h2⟩⟩ := F
  have hbits : Builtin.Int.intBits (((nf n).1.natAbs : Nat) : Int) = Builtin.Int.intBits (nf n).1 := bt_nat
  have hp : m_places_of_whole [.int (((nf n).1.natAbs : Nat) : Int)] dr = some (.int (Builtin.Int.intBits (nf n).1 : Nat), dr) := by rw [places_ev, hbits]
  have hr := rounded_ev (n := n) (dr := dr) hF hn
  have hq : eqD (RT (rd b L H n)) (.tuple [nfD n, .none]) = some (.bool (decide (rd b L H n = some n))) := eqD_RT (o' := some n)
  refine fnM_eq ?_
  unfold b_is_of_format
  by_cases g1 : (nf n).2 < (L : Int) - 120
  · have h3 : decide (rd b L H n = some n) = false := decide_eq_false fun z => by
      by_cases h0 : n = 0
      · subst h0
        rw [nf_is (s := 0) (e := 0) (.inl ⟨rfl, rfl, rfl⟩)] at g1
        simp only at g1
        omega
      · have := (rd_fits h0 z).1
        omega
    rw [h3]
    simp -dsimp [exact_nf, n1, n0, f1, f0, g1]
  · by_cases g2 : (b : Int) < (Builtin.Int.intBits (nf n).1 : Nat)
    · have h3 : decide (rd b L H n = some n) = false := decide_eq_false fun z => by
        by_cases h0 : n = 0
        · subst h0
          rw [nf_is (s := 0) (e := 0) (.inl ⟨rfl, rfl, rfl⟩)] at g2
          have : Builtin.Int.intBits 0 = 0 := rfl
          simp only at g2
          omega
        · have := (rd_fits h0 z).2
          omega
      rw [h3]
      have g2' : b < Builtin.Int.intBits (nf n).1 := by omega
      simp -dsimp [exact_nf, n1, n0, f1, f0, g1, abs_nat, hp, g2, g2']
    · have g2' : ¬ b < Builtin.Int.intBits (nf n).1 := by omega
      simp -dsimp [exact_nf, n1, n0, f1, f0, g1, abs_nat, hp, g2, g2', hr, flat_RT, hq]
theorem frm_of {x y z : Int} (b L H : Nat) (hx : x = b) (hy : y = (L : Int) - 120) (hz : z = (H : Int) - 120) : PyData.tuple [.int x, .int y, .int z] = frm b L H := by
  subst hx hy hz
  rfl
theorem law_form_ev {dr : Dr} : Go (WO (m_law_form [.dict []] dr) fun z => ∃ b L H, z.1 = frm b L H ∧ Fm b L H) := by
  refine fnM_wo ?_
  unfold b_law_form
  simp -dsimp
  refine draw_w (by decide) (by decide) fun k dr1 k0 k1 => ?_
  simp -dsimp
  by_cases hk : k = 0
  · rw [if_pos hk]
    refine draw_w (by decide) (by decide) fun j dr2 j0 j1 => ?_
    have hj : j = 0 ∨ j = 1 ∨ j = 2 ∨ j = 3 ∨ j = 4 := by omega
    have ix : ∀ (x0 x1 x2 x3 x4 : D), ixD (.list [x0, x1, x2, x3, x4]) (.int 0) = some x0 ∧ ixD (.list [x0, x1, x2, x3, x4]) (.int 1) = some x1 ∧ ixD (.list [x0, x1, x2, x3, x4]) (.int 2) = some x2 ∧ ixD (.list [x0, x1, x2, x3, x4]) (.int 3) = some x3 ∧ ixD (.list [x0, x1, x2, x3, x4]) (.int 4) = some x4 := fun _ _ _ _ _ => ⟨rfl, rfl, rfl, rfl, rfl⟩
    rcases hj with rfl | rfl | rfl | rfl | rfl
    · simp -dsimp [ix]
      exact ⟨2, 119, 121, frm_of _ _ _ (by decide) (by decide) (by decide), ⟨by decide, by decide, by decide⟩⟩
    · simp -dsimp [ix]
      exact ⟨24, 80, 160, frm_of _ _ _ (by decide) (by decide) (by decide), ⟨by decide, by decide, by decide⟩⟩
    · simp -dsimp [ix]
      exact ⟨2, 80, 121, frm_of _ _ _ (by decide) (by decide) (by decide), ⟨by decide, by decide, by decide⟩⟩
    · simp -dsimp [ix]
      exact ⟨24, 119, 160, frm_of _ _ _ (by decide) (by decide) (by decide), ⟨by decide, by decide, by decide⟩⟩
    · simp -dsimp [ix]
      exact ⟨24, 119, 121, frm_of _ _ _ (by decide) (by decide) (by decide), ⟨by decide, by decide, by decide⟩⟩
  · rw [if_neg hk]
    refine draw_w (by decide) (by decide) fun x dr2 x0 x1 => ?_
    simp -dsimp
    refine draw_w (by decide) (by decide) fun y dr3 y0 y1 => ?_
    simp -dsimp
    refine draw_w (by decide) (by decide) fun z dr4 z0 z1 => ?_
    simp -dsimp
    exact ⟨(2 + x).toNat, (119 - y).toNat, (121 + z).toNat, frm_of _ _ _ (by omega) (by omega) (by omega), ⟨by omega, by omega, by omega⟩⟩
theorem law_number_ev {b L H : Nat} {dr : Dr} (F : Fm b L H) : Go (WO (m_law_number [.dict [], frm b L H] dr) fun z => ∃ n, z.1 = .int n ∧ n.natAbs < 2 ^ 250) := by
  obtain ⟨⟨b1, b2⟩, ⟨l1, l2⟩, ⟨h1, h2⟩⟩ := F
  refine fnM_wo ?_
  unfold b_law_number
  simp -dsimp
  refine draw_w (by decide) (by decide) fun k dr1 k0 k1 => ?_
  simp -dsimp
  refine draw_w (by decide) (by decide) fun g dr2 g0 g1 => ?_
  have m2' : mulD (.int 2) (.int g) = some (.int (2 * g)) := mulD_of 2 3 (by decide) (by omega) (by decide)
  have hsg : (1 - 2 * g).natAbs < 2 ^ 1 := by omega
  simp -dsimp [m2']
  generalize 1 - 2 * g = sg at *
  by_cases hk0 : k = 0
  · rw [if_pos hk0]
    refine draw_w (by decide) (by decide) fun d dr3 d0 d1 => ?_
    have e1 := mulD_of 1 4 (a := sg) (b := d) hsg (by omega) (by decide)
    have e2 := shl1 (n := (L : Int) - 120 + 118) (by omega) (by omega)
    have p2 : ((2 : Int) ^ ((L : Int) - 120 + 118).toNat).natAbs < 2 ^ 120 := by
      rw [natAbs_pow]
      exact Nat.pow_lt_pow_right (by decide) (by omega)
    have q1 := mul_small hsg (b := d) (n := 4) (by omega)
    have e3 := mulD_of 5 120 q1 p2 (by decide)
    simp -dsimp [f1, e1, e2, e3]
    exact small_mono (m := 1 + 4 + 120) (n := 250) (mul_small q1 p2) (by decide)
  rw [if_neg hk0]
  by_cases hk1 : k = 1
  · rw [if_pos hk1]
    have e1 : shlD (.int 1) (.int (H : Int)) = some (.int (2 ^ H)) := by rw [shl1 (by omega) (by omega), Int.toNat_natCast]
    simp -dsimp [f2, e1]
    refine draw_w (by decide) (by decide) fun d dr3 d0 d1 => ?_
    simp -dsimp [f2, f0]
    refine draw_w (by decide) (by decide) fun c dr4 c0 c1 => ?_
    have e2 := shl1 (n := (H : Int) - b - c) (by omega) (by omega)
    have p1 : ((2 : Int) ^ H).natAbs < 2 ^ 161 := by
      rw [natAbs_pow]
      exact Nat.pow_lt_pow_right (by decide) (by omega)
    have p2 : ((2 : Int) ^ ((H : Int) - b - c).toNat).natAbs < 2 ^ 161 := by
      rw [natAbs_pow]
      exact Nat.pow_lt_pow_right (by decide) (by omega)
    have e3 := mulD_of 3 161 (a := d) (by omega) p2 (by decide)
    have q2 := mul_small (a := d) (m := 3) (by omega) p2
    have q3 : ((2 : Int) ^ H - d * 2 ^ ((H : Int) - b - c).toNat).natAbs < 2 ^ 165 := by
      rw [Int.sub_eq_add_neg]
      exact add_small (B := 164) (small_mono p1 (by decide)) (by rw [Int.natAbs_neg]; exact q2)
    have e4 := mulD_of 1 165 hsg q3 (by decide)
    simp -dsimp [e2, e3, e4]
    exact small_mono (m := 1 + 165) (n := 250) (mul_small hsg q3) (by decide)
  rw [if_neg hk1]
  simp -dsimp [f1, f2]
  refine draw_w (by omega) (by omega) fun t dr3 t0 t1 => ?_
  obtain ⟨sp, hsp, s1, s2⟩ : ∃ sp : Int, maxD [.int ((L : Int) - 120), .int ((L : Int) - 120 + 1 + t - b)] = some (.int sp) ∧ (L : Int) - 120 + 1 + t - b ≤ sp ∧ (-40 ≤ sp ∧ sp ≤ 41) := by
    rw [maxI]
    refine ⟨_, rfl, ?_, ?_⟩ <;> split <;> omega
  obtain ⟨w, hw, w0, w1⟩ : ∃ w : Int, maxD [.int 0, .int ((L : Int) - 120 + 1 + t - sp - 1)] = some (.int w) ∧ 0 ≤ w ∧ w ≤ 23 := by
    rw [maxI]
    refine ⟨_, rfl, ?_, ?_⟩ <;> split <;> omega
  obtain ⟨mw, hmw, mw0, mw1⟩ : ∃ mw : Int, minDL [.int 20, .int w] = some (.int mw) ∧ 0 ≤ mw ∧ mw ≤ 20 := by
    refine ⟨_, rfl, ?_, ?_⟩ <;> split <;> omega
  have e1 := shl1 (n := w) w0 (by omega)
  have e2 := shl1 (n := mw) mw0 (by omega)
  have pw : (2 : Int) ^ mw.toNat < 2 ^ 21 := by
    have h : (2 : Nat) ^ mw.toNat < 2 ^ 21 := Nat.pow_lt_pow_right (by decide) (by omega)
    have := pow_cast mw.toNat
    omega
  simp -dsimp [f0, f1, hsp, hw, hmw, e1, e2]
  refine draw_w (m := 2 ^ mw.toNat) (pow_pos _) (by omega) fun c dr4 c0 c1 => ?_
  have e3 := shl1 (n := sp + 119) (by omega) (by omega)
  simp -dsimp [e3]
  refine draw_w (by decide) (by decide) fun r dr5 r0 r1 => ?_
  simp -dsimp
  refine draw_w (by decide) (by decide) fun j dr6 j0 j1 => ?_
  have e4 := shl1 (n := sp + 120) (by omega) (by omega)
  have p3 : ((2 : Int) ^ (sp + 119).toNat).natAbs < 2 ^ 162 := by
    rw [natAbs_pow]
    exact Nat.pow_lt_pow_right (by decide) (by omega)
  have p4 : ((2 : Int) ^ (sp + 120).toNat).natAbs < 2 ^ 162 := by
    rw [natAbs_pow]
    exact Nat.pow_lt_pow_right (by decide) (by omega)
  have p5 : ((2 : Int) ^ w.toNat + c).natAbs < 2 ^ 25 := by
    have h : (2 : Nat) ^ w.toNat < 2 ^ 24 := Nat.pow_lt_pow_right (by decide) (by omega)
    have := pow_cast w.toNat
    have := pow_pos w.toNat
    omega
  have e5 := mulD_of 25 162 p5 p4 (by decide)
  have q5 := mul_small p5 p4
  obtain ⟨pt, hpt, hpb⟩ : ∃ pt : Int, ixD (.list [.int 0, .int (2 ^ (sp + 119).toNat), .int (2 ^ (sp + 119).toNat + 1), .int (2 ^ (sp + 119).toNat - 1), .int 1, .int r]) (.int j) = some (.int pt) ∧ pt.natAbs < 2 ^ 187 := by
    have hj : j = 0 ∨ j = 1 ∨ j = 2 ∨ j = 3 ∨ j = 4 ∨ j = 5 := by omega
    have p6 : (2 : Nat) ^ 162 < 2 ^ 187 - 1 := by decide +kernel
    rcases hj with rfl | rfl | rfl | rfl | rfl | rfl
    · exact ⟨_, rfl, by decide +kernel⟩
    · exact ⟨_, rfl, by omega⟩
    · exact ⟨_, rfl, by omega⟩
    · exact ⟨_, rfl, by omega⟩
    · exact ⟨_, rfl, by decide +kernel⟩
    · exact ⟨_, rfl, by omega⟩
  have q6 := add_small (B := 187) q5 hpb
  have e6 := mulD_of 1 188 hsg q6 (by decide)
  simp -dsimp [hpt, e4, e5, e6]
  exact small_mono (m := 1 + 188) (n := 250) (mul_small hsg q6) (by decide)
end Wk
namespace Wk
open PySem PySem.Spec PyProof.Rows L2 Mi Ea
theorem neD_RT {o o' : Option Int} : neD (RT o) (RT o') = some (.bool (!decide (o = o'))) := neD_of_eqD eqD_RT
theorem neD_bool {a b : Bool} : neD (.bool a) (.bool b) = some (.bool (!(a == b))) := by simp [neD, SeqAt.shaped, PyData.canLay0, PyData.depth, PyData.eqv]
theorem isi_RT {o : Option Int} : isiN "tuple" (RT o) = some (.bool true) := by cases o <;> rfl
theorem flat_frm {b L H : Nat} : flat (frm b L H) = false := rfl
theorem flat_nf {v : Int} : flat (nfD v) = false := rfl
theorem rd_small {b L H : Nat} {n m : Int} (F : Fm b L H) (h : rd b L H n = some m) : m.natAbs < 2 ^ 250 := by
  unfold rd at h
  split at h
  · cases h
  · rename_i h1
    simp only [Option.some.injEq] at h
    have : m.natAbs < 2 ^ H := by
      subst h
      split <;> omega
    exact Nat.lt_of_lt_of_le this (Nat.pow_le_pow_right (by decide) (by have := F.h; omega))
theorem law_round_ev {dr : Dr} : Go (WO (m_law_round_all [.dict []] dr) fun z => z.1 = .bool true) := by
  refine fnM_wo ?_
  unfold b_law_round_all
  simp -dsimp
  refine w_forN (fun i : Nat => .int i) (fun i μ => ∃ a1 a2 a3 a4 a5 a6 dr', μ = ⟨[.val (.dict []), a1, a2, a3, a4, a5, a6], dr'⟩) (List.range 10) ?_ ?_ ?_
  · simp -dsimp [show rng1 [.int 10] = some ((List.range 10).map fun (i : Nat) => .int (i : Int)) from rng1_nat (n := 10) (by decide)]
  · rintro i x μ hi ⟨a1, a2, a3, a4, a5, a6, dr', rfl⟩
    obtain ⟨⟨z, dr1⟩, hz, b, L, H, hzf, F⟩ := WO_get (law_form_ev (dr := dr'))
    simp only at hzf
    subst hzf
    obtain ⟨⟨z, dr2⟩, hz2, n, hzn, hn⟩ := WO_get (law_number_ev (dr := dr1) F)
    simp only at hzn
    subst hzn
    have hx := law_exact_ev (dr := dr2) hn (by decide)
    have hd := law_due_ev (dr := dr2) F hn
    have hr := rounded_ev (dr := dr2) F hn
    have hf := is_of_format_ev (dr := dr2) F hn
    have hT : isNotD (.bool true) (.bool true) = some (.bool false) := rfl
    simp -dsimp [hz, hz2, hx, hd, hr, flat_frm, flat_nf, flat_RT, isi_RT, neD_RT, hf]
    have hq : eqD (RT (rd b L H n)) (.tuple [nfD n, .none]) = some (.bool (decide (rd b L H n = some n))) := eqD_RT (o' := some n)
    simp -dsimp [hq, neD_bool]
    cases ho : rd b L H n with
    | none =>
      have h0 : ixD (RT none) (.int 0) = some .none := rfl
      simp -dsimp [h0]
    | some m =>
      have hm := rd_small F ho
      have ha := rd_again (by have := F.b; omega) ho
      have hr2 := rounded_ev (dr := dr2) F hm
      have hf2 := is_of_format_ev (dr := dr2) F hm
      rw [ha] at hr2 hf2
      rw [decide_eq_true rfl] at hf2
      have hnn : isNotD (nfD m) .none = some (.bool true) := rfl
      have hq2 : neD (RT (some m)) (.tuple [nfD m, .none]) = some (.bool false) := by
        have := neD_RT (o := some m) (o' := some m)
        rw [decide_eq_true rfl] at this
        exact this
      simp -dsimp [RT0, hnn, hr2, hf2, flat_RT, hq2, hT]
  · rintro μ ⟨a1, a2, a3, a4, a5, a6, dr', rfl⟩
    simp -dsimp
end Wk
/-! all numbers of a small format, in their order -/
namespace Ea
open PySem Mi
def nx (b : Nat) (p : Nat × Nat) : Nat × Nat := if p.1 + 1 = 2 ^ b then ((p.1 + 1) / 2, p.2 + 1) else (p.1 + 1, p.2)
def sq (b : Nat) : Nat → Nat × Nat
  | 0 => (1, 0)
  | j + 1 => nx b (sq b j)
def kv (b j : Nat) : Nat := (sq b j).1 * 2 ^ (sq b j).2
def js (b m : Nat) : Nat := ((List.range 400).find? fun j => decide (m < bt (sq b j).1 + (sq b j).2)).getD 0
def stays (b : Nat) (k : Int) : Bool := k.natAbs % 2 ^ (bt k.natAbs - b) == 0
def ksAll (m : Nat) : List Int := (List.range (2 ^ (m + 1) - 1)).map fun (i : Nat) => (1 - 2 ^ m) + (i : Int)
def told (b J : Nat) : List Int := ((List.range J).map fun j => -(kv b j : Int)).reverse ++ [0] ++ (List.range J).map fun j => (kv b j : Int)
def chk (b m : Nat) : Bool := ((List.range (js b m)).all fun j => decide (bt (sq b j).1 + (sq b j).2 ≤ m) && decide (0 < (sq b j).1 ∧ (sq b j).1 ≤ 16) && decide ((sq b j).2 ≤ 20)) && decide (m < bt (sq b (js b m)).1 + (sq b (js b m)).2) && decide (0 < (sq b (js b m)).1 ∧ (sq b (js b m)).1 ≤ 16) && decide ((sq b (js b m)).2 ≤ 20) && decide (0 < js b m) && decide (js b m ≤ 300) && decide ((ksAll m).filter (stays b) = told b (js b m))
theorem chk_all : ∀ b, b = 2 ∨ b = 3 ∨ b = 4 → ∀ m, m < 9 → 2 ≤ m → chk b m = true := by
  have h2 : ∀ m, m < 9 → 2 ≤ m → chk 2 m = true := by decide +kernel
  have h3 : ∀ m, m < 9 → 2 ≤ m → chk 3 m = true := by decide +kernel
  have h4 : ∀ m, m < 9 → 2 ≤ m → chk 4 m = true := by decide +kernel
  intro b hb
  rcases hb with rfl | rfl | rfl
  · exact h2
  · exact h3
  · exact h4
structure Sq (b m J : Nat) : Prop where
  lo : ∀ j, j < J → bt (sq b j).1 + (sq b j).2 ≤ m
  hi : m < bt (sq b J).1 + (sq b J).2
  sz : ∀ j, j ≤ J → (0 < (sq b j).1 ∧ (sq b j).1 ≤ 16) ∧ (sq b j).2 ≤ 20
  j0 : 0 < J ∧ J ≤ 300
  eq : (ksAll m).filter (stays b) = told b J
theorem sq_ok {b m : Nat} (hb : b = 2 ∨ b = 3 ∨ b = 4) (h1 : 2 ≤ m) (h2 : m < 9) : Sq b m (js b m) := by
  have h := chk_all b hb m h2 h1
  unfold chk at h
  simp only [Bool.and_eq_true, List.all_eq_true, decide_eq_true_eq, List.mem_range] at h
  obtain ⟨⟨⟨⟨⟨⟨a1, a2⟩, a3⟩, a4⟩, a5⟩, a6⟩, a7⟩ := h
  refine ⟨fun j hj => (a1 j hj).1.1, a2, fun j hj => ?_, ⟨a5, a6⟩, a7⟩
  rcases Nat.lt_or_eq_of_le hj with h | rfl
  · exact ⟨(a1 j h).1.2, (a1 j h).2⟩
  · exact ⟨a3, a4⟩
end Ea
namespace Wk
open PySem PySem.Spec PyProof.Rows L2 Mi Ea
/-- the first i amounts -/
noncomputable def ams (b L i : Nat) : List D := (List.range i).map fun j => nfD ((kv b j : Int) * 2 ^ L)
theorem ams_len {b L i : Nat} : (ams b L i).length = i := by simp [ams]
theorem ams_succ {b L i : Nat} : ams b L (i + 1) = ams b L i ++ [nfD ((kv b i : Int) * 2 ^ L)] := by
  unfold ams
  rw [List.range_succ, List.map_append]
  rfl
noncomputable def nums (b L J : Nat) : List D := (told b J).map fun k => nfD (k * 2 ^ L)
theorem nums_eq {b L J : Nat} : nums b L J = ((((List.range J).map fun j => (kv b j : Int) * 2 ^ L).reverse.map fun v => nfD (-v)) ++ [d_NOUGHT]) ++ ams b L J := by
  unfold nums told ams
  rw [List.map_append, List.map_append, List.map_reverse, List.map_map, List.map_map, List.map_reverse, List.map_map]
  have e1 : (List.map ((fun k => nfD (k * 2 ^ L)) ∘ fun j => -(kv b j : Int)) (List.range J)) = (List.map ((fun v => nfD (-v)) ∘ fun j => (kv b j : Int) * 2 ^ L) (List.range J)) := by
    refine List.map_congr_left fun j _ => ?_
    simp only [Function.comp]
    rw [Int.neg_mul]
  have e2 : List.map (fun k => nfD (k * 2 ^ L)) [0] = [d_NOUGHT] := by
    simp only [List.map_cons, List.map_nil, Int.zero_mul]
    rw [nfD_0]
    rfl
  rw [e1, e2]
  rfl
/-- the walk of numbers_of -/
theorem numbers_ev {b L H J : Nat} {most : Int} {dr : Dr} (hb : 2 ≤ b ∧ b ≤ 24) (hL : 80 ≤ L ∧ L ≤ 119) (hH : L ≤ H ∧ H ≤ 200) (S : Sq b (H - L) J) (hm : 2 * (J : Int) ≤ most) :
    m_numbers_of [frm b L H, .int most] dr = some (if most = 2 * (J : Int) then errD 2 "TooLarge" (.int most) else .list (nums b L J), dr) := by
  refine fnM_eq ?_
  unfold b_numbers_of
  simp -dsimp [f1]
  refine w_while (fun n μ => ∃ (j : Nat) (a5 : Sl), n + j = J ∧ (a5 = .un ∨ ∃ d, a5 = .val d) ∧ (j = J → most ≠ 2 * (J : Int)) ∧ μ = ⟨[.val (frm b L H), .val (.int most), .own (ams b L j), .val (.int ((L : Int) - 120 + ((sq b j).2 : Nat))), .val (.int ((sq b j).1 : Nat)), a5], dr⟩) (n := J) (by have := S.j0.2; unfold fuel; omega) ⟨0, .un, by omega, .inl rfl, by have := S.j0.1; omega, by simp [ams, sq]⟩ ?_
  rintro n μ ⟨j, a5, hj, h5, hlast, rfl⟩
  have hk : keepS a5 .un = a5 := by
    rcases h5 with rfl | ⟨d, rfl⟩ <;> rfl
  clear h5
  obtain ⟨s1, s2⟩ := S.sz j (by omega)
  have hJ := S.j0
  have hlo := S.lo j
  have hhi := S.hi
  have hv : kv b j = (sq b j).1 * 2 ^ (sq b j).2 := rfl
  have hnx : sq b (j + 1) = nx b (sq b j) := rfl
  generalize hp : sq b j = p at *
  obtain ⟨c, sh⟩ := p
  simp only at s1 s2 hlo hv
  have hc25 : c < 2 ^ 300 := Nat.lt_of_le_of_lt s1.2 (by decide +kernel)
  have hx : m_dyadic [.int (c : Int), .int ((L : Int) - 120 + (sh : Int))] dr = some (nfD ((kv b j : Int) * 2 ^ L), dr) := by
    rw [dyadic_nf (B := 300) (by rw [Int.natAbs_natCast]; exact hc25) (by decide) (by omega)]
    congr 3
    rw [show ((L : Int) - 120 + (sh : Int) + 120).toNat = sh + L by omega, Int.pow_add, ← Int.mul_assoc, hv, Int.natCast_mul, pow_cast]
  have hkn : (kv b j : Int) * 2 ^ L = ((c * 2 ^ (sh + L) : Nat) : Int) := by
    rw [hv, Nat.pow_add, ← Nat.mul_assoc, Int.natCast_mul (c * 2 ^ sh), pow_cast]
  have hk0 : (kv b j : Int) * 2 ^ L ≠ 0 := by
    rw [hkn]
    have : 0 < c * 2 ^ (sh + L) := Nat.mul_pos s1.1 (Nat.two_pow_pos _)
    omega
  obtain ⟨T, ht, hT⟩ : ∃ T : Int, m_top_of [nfD ((kv b j : Int) * 2 ^ L)] dr = some (.int T, dr) ∧ (T > (H : Int) - 120 ↔ H - L < bt c + sh) := by
    refine ⟨_, top_nf hk0, ?_⟩
    rw [hkn, Int.natAbs_natCast, bt_shl (by omega)]
    omega
  by_cases hstop : H - L < bt c + sh
  · have hjJ : j = J := by
      rcases Nat.lt_or_ge j J with h | h
      · have := hlo h; omega
      · omega
    have hne := hlast hjJ
    subst hjJ
    have hT' : (H : Int) - 120 < T := hT.mpr hstop
    rw [if_neg hne]
    simp -dsimp [hx, ht, f2, hT', flat_nf]
    refine wm_lcmap nfD (fun v => nfD (-v)) ⟨[.val (frm b L H), .val (.int most), .own (ams b L j), .val (.int ((L : Int) - 120 + (sh : Int))), .val (.int (c : Int)), .val (nfD ((kv b j : Int) * 2 ^ L))], dr⟩ ((List.range j).map fun j => (kv b j : Int) * 2 ^ L).reverse (by simp; omega) ?_ ?_ ?_
    · simp -dsimp
      rfl
    · intro v _
      simp -dsimp [minus_nf, flat_nf]
    · have hl1 : ((List.range j).map fun j => (kv b j : Int) * 2 ^ L).reverse.length = j := by simp
      simp -dsimp [ams_len]
      refine ⟨by omega, by omega, ?_⟩
      rw [nums_eq]
      simp [List.map_reverse, List.map_map]
  · have hjJ : j < J := by
      rcases Nat.lt_or_ge j J with h | h
      · exact h
      · have : j = J := by omega
        subst this
        rw [hp] at hhi
        exact absurd hhi hstop
    have hT' : ¬ (H : Int) - 120 < T := fun z => hstop (hT.mp z)
    have hmul : mulD (.int 2) (.int ((j : Int) + 1)) = some (.int (2 * ((j : Int) + 1))) := mulD_of 2 20 (by decide) (by omega) (by decide)
    have hs : shlD (.int 1) (.int (b : Int)) = some (.int (2 ^ b)) := by rw [shl1 (by omega) (by omega), Int.toNat_natCast]
    have hlt : j < 16777216 := by omega
    by_cases hr : 2 * ((j : Int) + 1) + 1 > most
    · have hmost : most = 2 * (J : Int) := by omega
      rw [if_pos hmost]
      simp -dsimp [hx, ht, f2, hT', flat_nf, ams_len, hlt, hmul, hr]
    · have hr' : ¬ most < 2 * ((j : Int) + 1) + 1 := by omega
      have hd : fdivD (.int ((c : Int) + 1)) (.int 2) = some (.int (((c : Int) + 1) / 2)) := fdivD_of (by decide) (by decide +kernel)
      have hnm : j + 1 = J → most ≠ 2 * (J : Int) := by omega
      by_cases hc : c + 1 = 2 ^ b
      · have hcI : (c : Int) + 1 = 2 ^ b := by rw [← pow_cast]; omega
        have h2 : sq b (j + 1) = ((c + 1) / 2, sh + 1) := by rw [hnx]; exact if_pos hc
        have hd2 : fdivD (.int (2 ^ b)) (.int 2) = some (.int (2 ^ b / 2)) := fdivD_of (by decide) (by decide +kernel)
        simp -dsimp [hx, ht, f2, f0, hT', flat_nf, ams_len, hlt, hmul, hr', hs, hd2, hcI]
        refine ⟨n - 1, by omega, j + 1, by omega, .val (nfD ((kv b j : Int) * 2 ^ L)), (by first | exact .inr ⟨_, rfl⟩ | exact ⟨_, rfl⟩ | simp), hnm, ?_⟩
        rw [ams_succ, h2]
        have q1 : (((c + 1) / 2 : Nat) : Int) = 2 ^ b / 2 := by rw [← hcI]; omega
        have q2 : (L : Int) - 120 + ((sh + 1 : Nat) : Int) = (L : Int) - 120 + (sh : Int) + 1 := by omega
        rw [q1, q2]
        exact ⟨rfl, rfl, rfl, rfl⟩
      · have hcI : ¬ (c : Int) + 1 = 2 ^ b := by rw [← pow_cast]; omega
        have h2 : sq b (j + 1) = (c + 1, sh) := by rw [hnx]; exact if_neg hc
        simp -dsimp [hx, ht, f2, f0, hT', flat_nf, ams_len, hlt, hmul, hr', hs, hd, hcI]
        refine ⟨n - 1, by omega, j + 1, by omega, .val (nfD ((kv b j : Int) * 2 ^ L)), (by first | exact .inr ⟨_, rfl⟩ | exact ⟨_, rfl⟩ | simp), hnm, ?_⟩
        rw [ams_succ, h2]
        exact ⟨rfl, rfl, by omega, rfl⟩
end Wk
namespace Wk
open PySem PySem.Spec PyProof.Rows L2 Mi Ea
theorem stays_iff {b L H : Nat} {k : Int} (hL : 24 ≤ L) (hH : L ≤ H) (hb : b ≤ 24) (hk : k.natAbs < 2 ^ (H - L)) : stays b k = decide (rd b L H (k * 2 ^ L) = some (k * 2 ^ L)) := by
  have hn : (k * 2 ^ L).natAbs = k.natAbs * 2 ^ L := by rw [Int.natAbs_mul, natAbs_pow]
  have hlt : k.natAbs * 2 ^ L < 2 ^ H := by
    have : 2 ^ H = 2 ^ (H - L) * 2 ^ L := by rw [← Nat.pow_add]; congr 1; omega
    rw [this]
    exact Nat.mul_lt_mul_of_pos_right hk (Nat.two_pow_pos _)
  have key : rd b L H (k * 2 ^ L) = some (k * 2 ^ L) ↔ 2 ^ (bt k.natAbs - b) ∣ k.natAbs := by
    rw [rd_some, hn, amt_self]
    by_cases h0 : k.natAbs = 0
    · rw [h0]
      simp
      exact Nat.two_pow_pos _
    · have hst : stp b L (k.natAbs * 2 ^ L) = (bt k.natAbs - b) + L := by
        unfold stp
        rw [bt_shl h0]
        omega
      rw [hst, Nat.pow_add]
      constructor
      · rintro ⟨h, _⟩
        exact Nat.dvd_of_mul_dvd_mul_right (Nat.two_pow_pos L) h
      · intro h
        exact ⟨Nat.mul_dvd_mul_right h _, hlt⟩
  unfold stays
  by_cases h : 2 ^ (bt k.natAbs - b) ∣ k.natAbs
  · rw [decide_eq_true (key.mpr h), Nat.mod_eq_zero_of_dvd h]
    rfl
  · rw [decide_eq_false (fun z => h (key.mp z))]
    have : k.natAbs % 2 ^ (bt k.natAbs - b) ≠ 0 := fun z => h (Nat.dvd_of_mod_eq_zero z)
    simpa using this
theorem ks_mem {m : Nat} {k : Int} (h : k ∈ ksAll m) : k.natAbs < 2 ^ m := by
  unfold ksAll at h
  rw [List.mem_map] at h
  obtain ⟨i, hi, rfl⟩ := h
  rw [List.mem_range, Nat.pow_succ] at hi
  have := pow_cast m
  have := Nat.two_pow_pos m
  omega
theorem rng_ks {m : Nat} (h : m ≤ 60) : rng2 [.int (1 - 2 ^ m), .int (2 ^ m)] = some ((ksAll m).map .int) := by
  unfold rng2 intsR ksAll
  have h1 : (2 : Nat) ^ m ≤ 2 ^ 60 := Nat.pow_le_pow_right (by decide) h
  have h2 := pow_cast m
  have h3 := Nat.two_pow_pos m
  simp only
  rw [if_pos (by omega), List.map_map, show ((2 : Int) ^ m - (1 - 2 ^ m)).toNat = 2 ^ (m + 1) - 1 by rw [Nat.pow_succ]; omega]
  rfl
theorem nums_len {b L J : Nat} : (nums b L J).length = 2 * J + 1 := by
  unfold nums told
  simp
  omega
theorem shaped_nums {b L J : Nat} : SeqAt.shaped (.list (nums b L J)) = true := shaped_lay (n := 2) (lay_list (n := 1) fun d hd => by
  unfold nums at hd
  rw [List.mem_map] at hd
  obtain ⟨k, _, rfl⟩ := hd
  exact lay_nf) (by decide)
theorem law_listed_ev {dr : Dr} : Go (WO (m_law_listed [.dict []] dr) fun z => z.1 = .bool true) := by
  refine fnM_wo ?_
  unfold b_law_listed
  simp -dsimp
  refine draw_w (by decide) (by decide) fun x dr1 x0 x1 => ?_
  simp -dsimp
  refine draw_w (by decide) (by decide) fun y dr2 y0 y1 => ?_
  simp -dsimp
  refine draw_w (by decide) (by decide) fun z dr3 z0 z1 => ?_
  obtain ⟨b, hb⟩ : ∃ b : Nat, (b : Int) = 2 + x := ⟨(2 + x).toNat, by omega⟩
  obtain ⟨L, hL⟩ : ∃ L : Nat, (L : Int) = 119 - y := ⟨(119 - y).toNat, by omega⟩
  obtain ⟨H, hH⟩ : ∃ H : Nat, (H : Int) = 121 + z := ⟨(121 + z).toNat, by omega⟩
  have hfrm : PyData.tuple [.int (2 + x), .int (-1 - y), .int (1 + z)] = frm b L H := frm_of b L H (by omega) (by omega) (by omega)
  have F : Fm b L H := ⟨by omega, by omega, by omega⟩
  obtain ⟨m, hm⟩ : ∃ m : Nat, m = H - L := ⟨_, rfl⟩
  have S := sq_ok (b := b) (m := m) (by omega) (by omega) (by omega)
  generalize js b m = J at S
  have hs : shlD (.int 1) (.int ((H : Int) - 120 - ((L : Int) - 120))) = some (.int (2 ^ m)) := by
    rw [shl1 (by omega) (by omega)]
    congr 3
    omega
  have hsL : shlD (.int 1) (.int (L : Int)) = some (.int (2 ^ L)) := by rw [shl1 (by omega) (by omega), Int.toNat_natCast]
  have hm8 : m ≤ 8 := by omega
  clear hb hL hH
  simp -dsimp [hfrm]
  refine w_forN PyData.int (fun i μ => ∃ a3 a4, μ = ⟨[.val (.dict []), .val (frm b L H), .own ((((ksAll m).take i).filter (stays b)).map fun k => nfD (k * 2 ^ L)), a3, a4, .un], dr3⟩) (ksAll m) ?_ ?_ ?_
  · simp -dsimp [f1, f2, hs, rng_ks (show m ≤ 60 by omega)]
  · rintro i k μ hi ⟨a3, a4, rfl⟩
    have hk : k.natAbs < 2 ^ m := ks_mem (List.mem_of_getElem? hi)
    have hk' : k.natAbs < 2 ^ 90 := Nat.lt_of_lt_of_le hk (Nat.pow_le_pow_right (by decide) (by omega))
    have hmul : mulD (.int k) (.int (2 ^ L)) = some (.int (k * 2 ^ L)) := mulD_of 90 120 hk' (by rw [natAbs_pow]; exact Nat.pow_lt_pow_right (by decide) (by have := F.l; omega)) (by decide)
    have hn : (k * 2 ^ L).natAbs < 2 ^ 250 := small_mono (shl_small hk') (by have := F.l; omega)
    have hd := law_due_ev (dr := dr3) F hn
    have hx := law_exact_ev (dr := dr3) hn (by decide)
    have hq : eqD (RT (rd b L H (k * 2 ^ L))) (.tuple [nfD (k * 2 ^ L), .none]) = some (.bool (stays b k)) := by
      rw [stays_iff (H := H) (L := L) (by have := F.l; omega) (by have := F.l; have := F.h; omega) (by have := F.b; omega) (by rw [← hm]; exact hk)]
      exact eqD_RT (o' := some _)
    have hlen : ((((ksAll m).take i).filter (stays b)).map fun k => nfD (k * 2 ^ L)).length < 16777216 := by
      rw [List.length_map]
      have h1 := List.length_filter_le (stays b) ((ksAll m).take i)
      have h2 := List.length_take_le i (ksAll m)
      have h3 : (ksAll m).length = 2 ^ (m + 1) - 1 := by simp [ksAll]
      have h4 : 2 ^ (m + 1) ≤ 2 ^ 20 := Nat.pow_le_pow_right (by decide) (by omega)
      have h5 : ((ksAll m).take i).length ≤ (ksAll m).length := by rw [List.length_take]; omega
      omega
    have htk : (ksAll m).take (i + 1) = (ksAll m).take i ++ [k] := by rw [List.take_add_one, hi]; rfl
    cases hst : stays b k with
    | true =>
      rw [hst] at hq
      rw [List.length_map] at hlen
      simp -dsimp [f1, hsL, hmul, hd, hx, flat_RT, flat_nf, hq, hlen]
      rw [htk, List.filter_append, List.map_append, List.filter_cons_of_pos hst]
      rfl
    | false =>
      rw [hst] at hq
      simp -dsimp [f1, hsL, hmul, hd, hx, flat_RT, flat_nf, hq]
      rw [htk, List.filter_append, List.map_append, List.filter_cons_of_neg (by rw [hst]; decide)]
      simp
  · rintro μ ⟨a3, a4, rfl⟩
    have e : (((ksAll m).take (ksAll m).length).filter (stays b)).map (fun k => nfD (k * 2 ^ L)) = nums b L J := by rw [List.take_length, S.eq]; rfl
    rw [e]
    have hm' : m = H - L := hm
    rw [hm'] at S
    have hok : ∀ most dr, 2 * (J : Int) < most → noErr m_numbers_of [frm b L H, .int most] dr = some (.list (nums b L J), dr) := fun most dr hlt => by
      refine noErr_of ?_ rfl
      rw [numbers_ev F.b F.l (by have := F.h; have := F.l; omega) S (by omega), if_neg (by omega)]
    have hbad : ∀ dr, m_numbers_of [frm b L H, .int (2 * (J : Int))] dr = some (errD 2 "TooLarge" (.int (2 * (J : Int))), dr) := fun dr => by
      rw [numbers_ev F.b F.l (by have := F.h; have := F.l; omega) S (by omega), if_pos rfl]
    have hlen : lenD [.list (nums b L J)] = some (.int (2 * (J : Int) + 1)) := by
      show some (PyData.int ((nums b L J).length : Int)) = _
      rw [nums_len]
      rfl
    have h1 := fun dr => hok (2 * (J : Int) + 1) dr (by omega)
    have hself := neD_self (shaped_nums (b := b) (L := L) (J := J))
    have hq : eqD (.str "TooLarge") (.str "TooLarge") = some (.bool true) := eqD_self (shaped_of (by decide +kernel) (by decide))
    have hfl : flat (.list (nums b L J)) = false := rfl
    have hJ := S.j0
    generalize nums b L J = ns at *
    simp -dsimp [hlen, h1, hself, hfl]
    refine draw_w (by decide) (by decide) fun c dr4 c0 c1 => ?_
    have h2 := fun dr => hok (2 * (J : Int) + 1 + 1 + c) dr (by omega)
    have h3 : (2 * (J : Int) + 1 - 1) = 2 * (J : Int) := by omega
    simp -dsimp [hlen, h2, hself, hfl, h3, hbad, hq]
end Wk
namespace Wk
open PySem PySem.Spec PyProof.Rows L2 Mi Ea
theorem whole_of {a : D} {x y : Bool} {dr : Dr} (h1 : isiN "int" a = some (.bool x)) (h2 : isiN "bool" a = some (.bool y)) : m_is_whole [a] dr = some (.bool (x && !y), dr) := by
  refine fnM_eq ?_
  unfold b_is_whole
  cases x <;> cases y <;> simp -dsimp [h1, h2]
def isW : D → Bool
  | .int _ => true
  | _ => false
theorem whole_ev {d : D} {dr : Dr} (h : ∀ ks, d ≠ .dict ks) : m_is_whole [d] dr = some (.bool (isW d), dr) := by
  cases d with
  | none => exact whole_of (x := false) (y := false) rfl rfl
  | bool b => exact whole_of (x := true) (y := true) rfl rfl
  | int i => exact whole_of (x := true) (y := false) rfl rfl
  | str x => exact whole_of (x := false) (y := false) rfl rfl
  | list ds => exact whole_of (x := false) (y := false) rfl rfl
  | tuple ds => exact whole_of (x := false) (y := false) rfl rfl
  | dict ks => exact absurd rfl (h ks)
theorem exact_notT {v : D} {dr : Dr} (h : isiN "tuple" v = some (.bool false)) : m_is_exact [v] dr = some (.bool false, dr) := by
  refine fnM_eq ?_
  unfold b_is_exact
  simp -dsimp [h]
theorem exact_notW {a b : D} {dr : Dr} (ha : ∀ ks, a ≠ .dict ks) (hb : ∀ ks, b ≠ .dict ks) (h : (isW a && isW b) = false) : m_is_exact [.tuple [a, b]] dr = some (.bool false, dr) := by
  have wa := fun dr => whole_ev (d := a) (dr := dr) ha
  have wb := fun dr => whole_ev (d := b) (dr := dr) hb
  refine fnM_eq ?_
  unfold b_is_exact
  have hl : lenD [.tuple [a, b]] = some (.int 2) := rfl
  generalize isW a = x at *
  generalize isW b = y at *
  cases x
  · simp -dsimp [hl, ix0, ix1, wa]
  · cases y
    · simp -dsimp [hl, ix0, ix1, wa, wb]
    · cases h
theorem exact_even {s e : Int} {dr : Dr} (h : ¬ s % 2 = 1) (h0 : ¬ (s = 0 ∧ e = 0)) : m_is_exact [pr s e] dr = some (.bool false, dr) := by
  refine fnM_eq ?_
  unfold b_is_exact
  have hl : lenD [pr s e] = some (.int 2) := rfl
  have ht : isiN "tuple" (pr s e) = some (.bool true) := rfl
  have hq : eqD (pr s e) d_NOUGHT = some (.bool false) := by
    have : eqD (pr s e) d_NOUGHT = some (.bool (decide (s = 0 ∧ e = 0))) := eqD_pr
    rw [this]
    simp [h0]
  have hb : (s % 2 == 1) = false := by simpa using h
  simp -dsimp [hl, pr0, pr1, ht, hq, is_whole_int, mod2, hb]
/-- is it a format: what the shape tells -/
theorem fmt_notT {v : D} {dr : Dr} (h : isiN "tuple" v = some (.bool false)) : m_is_format [v] dr = some (.bool false, dr) := by
  refine fnM_eq ?_
  unfold b_is_format
  simp -dsimp [h]
theorem fmt_len {ds : List D} {dr : Dr} (h : ds.length ≠ 3) : m_is_format [.tuple ds] dr = some (.bool false, dr) := by
  have h2 : ¬ (ds.length : Int) = 3 := by omega
  refine fnM_eq ?_
  unfold b_is_format
  simp -dsimp [h2]
theorem fmt_notW {a b c : D} {dr : Dr} (hd : ∀ d ∈ [a, b, c], ∀ ks, d ≠ .dict ks) (h : (isW a && (isW b && isW c)) = false) : m_is_format [.tuple [a, b, c]] dr = some (.bool false, dr) := by
  refine fnM_eq ?_
  unfold b_is_format
  have hl : lenD [.tuple [a, b, c]] = some (.int 3) := rfl
  simp -dsimp [hl]
  refine wm_lcmap id (fun d => .bool (isW d)) ⟨[.val (.tuple [a, b, c]), .un, .un, .un, .un], dr⟩ [a, b, c] (by simp) ?_ ?_ ?_
  · simp -dsimp
  · intro d hdm
    simp -dsimp [whole_ev (dr := dr) (hd d hdm)]
  · have ha : allD [.list [.bool (isW a), .bool (isW b), .bool (isW c)]] = some (.bool (isW a && (isW b && isW c))) := by
      have := allD_map (p := isW) (xs := [a, b, c])
      simpa using this
    simp -dsimp [ha, h]
theorem fmt_ints {x y z : Int} {dr : Dr} : m_is_format [.tuple [.int x, .int y, .int z]] dr = some (.bool (decide ((2 ≤ x ∧ x ≤ 24) ∧ (-40 ≤ y ∧ y ≤ -1) ∧ (1 ≤ z ∧ z ≤ 40))), dr) := by
  refine fnM_eq ?_
  unfold b_is_format
  have hl : lenD [.tuple [.int x, .int y, .int z]] = some (.int 3) := rfl
  simp -dsimp [hl]
  refine wm_lcmap PyData.int (fun _ => .bool true) ⟨[.val (.tuple [.int x, .int y, .int z]), .un, .un, .un, .un], dr⟩ [x, y, z] (by simp) ?_ ?_ ?_
  · simp -dsimp
  · intro d hdm
    simp -dsimp [is_whole_int]
  · have ha : allD [.list [.bool true, .bool true, .bool true]] = some (.bool true) := rfl
    have hu : gT 3 (gsCons (gN 1) (gsCons (gN 2) (gsCons (gN 3) gsNil))) (.tuple [.int x, .int y, .int z]) ⟨[.val (.tuple [.int x, .int y, .int z]), .un, .un, .un, .un], dr⟩ = some ⟨[.val (.tuple [.int x, .int y, .int z]), .val (.int x), .val (.int y), .val (.int z), .un], dr⟩ := rfl
    simp -dsimp [ha, hu]
    by_cases h1 : 2 ≤ x
    · by_cases h2 : x ≤ 24
      · by_cases h3 : -40 ≤ y
        · by_cases h4 : y ≤ -1
          · by_cases h5 : 1 ≤ z
            · by_cases h6 : z ≤ 40 <;> simp -dsimp [h1, h2, h3, h4, h5, h6]
            · simp -dsimp [h1, h2, h3, h4, h5]
          · simp -dsimp [h1, h2, h3, h4]
        · simp -dsimp [h1, h2, h3]
      · simp -dsimp [h1, h2]
    · simp -dsimp [h1]
theorem check_bad {v : D} {dr : Dr} (h : m_is_format [v] dr = some (.bool false, dr)) : m_check_format [v] dr = some (errD 3 "InvalidFormat" v, dr) := by
  refine fnM_eq ?_
  unfold b_check_format
  simp -dsimp [h]
theorem check_ok {v : D} {dr : Dr} (h : m_is_format [v] dr = some (.bool true, dr)) : noErr m_check_format [v] dr = some (.none, dr) := by
  refine noErr_of (fnM_eq ?_) rfl
  unfold b_check_format
  simp -dsimp [h]
theorem refused_ev {v : D} {dr : Dr} (h : ∀ dr, m_is_format [v] dr = some (.bool false, dr)) (hs : SeqAt.shaped v = true) : m_law_refused [v] dr = some (.bool true, dr) := by
  refine fnM_eq ?_
  unfold b_law_refused
  have hq : eqD (.str "InvalidFormat") (.str "InvalidFormat") = some (.bool true) := eqD_self (shaped_of (by decide +kernel) (by decide))
  simp -dsimp [check_bad (h dr), eqD_self hs, hq]
def odds : List D := [.tuple [.int 1, .int (-1), .int 1], .tuple [.int 25, .int (-1), .int 1], .tuple [.int 2, .int 0, .int 1], .tuple [.int 2, .int (-41), .int 1], .tuple [.int 2, .int (-1), .int 0], .tuple [.int 2, .int (-1), .int 41], .tuple [.str "2", .int (-1), .int 1], .tuple [.int 2, .int (-1), .bool true], .list [.int 8, .int (-20), .int 20],
  .tuple [.int 8, .int (-20)], .tuple [.int 8, .int (-20), .int 20, .int 0], .none, .str "8", .int 8, .tuple [.bool true, .int (-1), .int 1], .tuple [.int 2, .none, .int 1]]
theorem shp {d : D} (h : d.canLay0 = true) (h2 : d.depth ≤ 64) : SeqAt.shaped d = true := shaped_of h h2
theorem odds_ok : ∀ d ∈ odds, (∀ dr, m_is_format [d] dr = some (.bool false, dr)) ∧ SeqAt.shaped d = true := by
  intro d hd
  have nd3 : ∀ {a b c : D}, (∀ ks, a ≠ .dict ks) → (∀ ks, b ≠ .dict ks) → (∀ ks, c ≠ .dict ks) → ∀ d ∈ [a, b, c], ∀ ks, d ≠ .dict ks := by
    intro a b c h1 h2 h3 d hd
    simp only [List.mem_cons, List.not_mem_nil, or_false] at hd
    rcases hd with rfl | rfl | rfl
    · exact h1
    · exact h2
    · exact h3
  have fi : ∀ {x y z : Int}, decide ((2 ≤ x ∧ x ≤ 24) ∧ (-40 ≤ y ∧ y ≤ -1) ∧ (1 ≤ z ∧ z ≤ 40)) = false → ∀ dr, m_is_format [.tuple [.int x, .int y, .int z]] dr = some (.bool false, dr) := fun h dr => by
    rw [fmt_ints, h]
  simp only [odds, List.mem_cons, List.not_mem_nil, or_false] at hd
  rcases hd with rfl | rfl | rfl | rfl | rfl | rfl | rfl | rfl | rfl | rfl | rfl | rfl | rfl | rfl | rfl | rfl
  · exact ⟨fi (by decide), shp (by decide +kernel) (by decide +kernel)⟩
  · exact ⟨fi (by decide), shp (by decide +kernel) (by decide +kernel)⟩
  · exact ⟨fi (by decide), shp (by decide +kernel) (by decide +kernel)⟩
  · exact ⟨fi (by decide), shp (by decide +kernel) (by decide +kernel)⟩
  · exact ⟨fi (by decide), shp (by decide +kernel) (by decide +kernel)⟩
  · exact ⟨fi (by decide), shp (by decide +kernel) (by decide +kernel)⟩
  · exact ⟨fun _ => fmt_notW (nd3 (by simp) (by simp) (by simp)) rfl, shp (by decide +kernel) (by decide +kernel)⟩
  · exact ⟨fun _ => fmt_notW (nd3 (by simp) (by simp) (by simp)) rfl, shp (by decide +kernel) (by decide +kernel)⟩
  · exact ⟨fun _ => fmt_notT rfl, shp (by decide +kernel) (by decide +kernel)⟩
  · exact ⟨fun _ => fmt_len (by decide), shp (by decide +kernel) (by decide +kernel)⟩
  · exact ⟨fun _ => fmt_len (by decide), shp (by decide +kernel) (by decide +kernel)⟩
  · exact ⟨fun _ => fmt_notT rfl, shp (by decide +kernel) (by decide +kernel)⟩
  · exact ⟨fun _ => fmt_notT rfl, shp (by decide +kernel) (by decide +kernel)⟩
  · exact ⟨fun _ => fmt_notT rfl, shp (by decide +kernel) (by decide +kernel)⟩
  · exact ⟨fun _ => fmt_notW (nd3 (by simp) (by simp) (by simp)) rfl, shp (by decide +kernel) (by decide +kernel)⟩
  · exact ⟨fun _ => fmt_notW (nd3 (by simp) (by simp) (by simp)) rfl, shp (by decide +kernel) (by decide +kernel)⟩
def F8 : D := frm 8 100 140
theorem fm8 : Fm 8 100 140 := ⟨by decide, by decide, by decide⟩
theorem of_not {v : D} {dr : Dr} (h : ∀ dr, m_is_exact [v] dr = some (.bool false, dr)) : m_is_of_format [F8, v] dr = some (.bool false, dr) := by
  refine fnM_eq ?_
  unfold b_is_of_format
  simp -dsimp [h]
theorem of_pr {s e : Int} {q : Nat} {x : Bool} {dr : Dr} (h1 : s % 2 = 1) (h2 : e + 120 = q) (hb : (s * 2 ^ q).natAbs < 2 ^ 250) (hx : decide (rd 8 100 140 (s * 2 ^ q) = some (s * 2 ^ q)) = x) : m_is_of_format [F8, pr s e] dr = some (.bool x, dr) := by
  have hn : nfD (s * 2 ^ q) = pr s e := nfD_is (.inr ⟨h1, by omega, by rw [h2, Int.toNat_natCast]⟩)
  rw [← hn, ← hx]
  exact is_of_format_ev fm8 hb
def vals : List (D × Bool) := [(pr 1 0, true), (pr 0 0, true), (pr 255 0, true), (pr 257 0, false), (pr 1 (-20), true), (pr 1 (-21), false), (pr 1 20, false), (pr 255 12, true), (pr 2 0, false), (.int 1, false), (.tuple [.int 1, .bool false], false), (.tuple [.bool true, .int 0], false), (.list [.int 1, .int 0], false), (.none, false)]
theorem vals_ok : ∀ p ∈ vals, ∀ dr, m_is_of_format [F8, p.1] dr = some (.bool p.2, dr) := by
  intro p hp dr
  simp only [vals, List.mem_cons, List.not_mem_nil, or_false] at hp
  rcases hp with rfl | rfl | rfl | rfl | rfl | rfl | rfl | rfl | rfl | rfl | rfl | rfl | rfl | rfl
  · exact of_pr (q := 120) (by decide) (by decide) (by decide +kernel) (by decide +kernel)
  · have := is_of_format_ev (n := 0) (dr := dr) fm8 (by decide +kernel)
    rw [nfD_0, decide_eq_true rd0] at this
    exact this
  · exact of_pr (q := 120) (by decide) (by decide) (by decide +kernel) (by decide +kernel)
  · exact of_pr (q := 120) (by decide) (by decide) (by decide +kernel) (by decide +kernel)
  · exact of_pr (q := 100) (by decide) (by decide) (by decide +kernel) (by decide +kernel)
  · exact of_pr (q := 99) (by decide) (by decide) (by decide +kernel) (by decide +kernel)
  · exact of_pr (q := 140) (by decide) (by decide) (by decide +kernel) (by decide +kernel)
  · exact of_pr (q := 132) (by decide) (by decide) (by decide +kernel) (by decide +kernel)
  · exact of_not fun _ => exact_even (by decide) (by decide)
  · exact of_not fun _ => exact_notT rfl
  · exact of_not fun _ => exact_notW (by simp) (by simp) rfl
  · exact of_not fun _ => exact_notW (by simp) (by simp) rfl
  · exact of_not fun _ => exact_notT rfl
  · exact of_not fun _ => exact_notT rfl
theorem eqD_bool {a b : Bool} : eqD (.bool a) (.bool b) = some (.bool (a == b)) := by simp [eqD, SeqAt.shaped, PyData.canLay0, PyData.depth, PyData.eqv]
def vemb (p : D × Bool) : D := .tuple [p.1, .bool p.2]
def rights : List D := [.tuple [.int 2, .int (-1), .int 1], .tuple [.int 24, .int (-40), .int 40], .tuple [.int 8, .int (-20), .int 20]]
theorem rights_ok : ∀ d ∈ rights, ∀ dr, m_is_format [d] dr = some (.bool true, dr) := by
  intro d hd dr
  simp only [rights, List.mem_cons, List.not_mem_nil, or_false] at hd
  rcases hd with rfl | rfl | rfl
  · rw [fmt_ints]; rfl
  · rw [fmt_ints]; rfl
  · rw [fmt_ints]; rfl
theorem kinds_ev {dr : Dr} : m_law_kinds [] dr = some (.bool true, dr) := by
  refine fnM_eq ?_
  unfold b_law_kinds
  have hF : isD (.bool false) (.bool false) = some (.bool true) := rfl
  have hT : isD (.bool true) (.bool true) = some (.bool true) := rfl
  have hN : isD .none .none = some (.bool true) := rfl
  have hf8 : PyData.tuple [.int 8, .int (-20), .int 20] = F8 := rfl
  simp -dsimp
  refine wm_lcmap id (fun _ => .bool true) ⟨[.val (.list odds), .un, .un, .un, .un, .un], dr⟩ odds (by decide) ?_ ?_ ?_
  · simp -dsimp [odds]
  · intro d hd
    obtain ⟨h1, h2⟩ := odds_ok d hd
    simp -dsimp [h1, hF, refused_ev h1 h2]
  have ha1 : allD [.list (odds.map fun _ => .bool true)] = some (.bool true) := allD_true
  simp -dsimp [ha1]
  refine wm_lcmap id (fun _ => .bool true) ⟨[.val (.list odds), .val (.list rights), .un, .un, .un, .un], dr⟩ rights (by decide) ?_ ?_ ?_
  · simp -dsimp [rights]
  · intro d hd
    have h1 := rights_ok d hd
    simp -dsimp [h1, hT, check_ok (h1 dr), hN]
  have ha2 : allD [.list (rights.map fun _ => .bool true)] = some (.bool true) := allD_true
  have hadd : addD (.list [.tuple [.tuple [.int 1, .int 0], .bool true], .tuple [.tuple [.int 0, .int 0], .bool true], .tuple [.tuple [.int 255, .int 0], .bool true], .tuple [.tuple [.int 257, .int 0], .bool false], .tuple [.tuple [.int 1, .int (-20)], .bool true], .tuple [.tuple [.int 1, .int (-21)], .bool false], .tuple [.tuple [.int 1, .int 20], .bool false]])
      (.list [.tuple [.tuple [.int 255, .int 12], .bool true], .tuple [.tuple [.int 2, .int 0], .bool false], .tuple [.int 1, .bool false], .tuple [.tuple [.int 1, .bool false], .bool false], .tuple [.tuple [.bool true, .int 0], .bool false], .tuple [.list [.int 1, .int 0], .bool false], .tuple [.none, .bool false]]) = some (.list (vals.map vemb)) := rfl
  simp -dsimp [ha2, hadd, hf8]
  refine wm_lcmap vemb (fun _ => .bool true) ⟨[.val (.list odds), .val (.list rights), .val F8, .val (.list (vals.map vemb)), .un, .un], dr⟩ vals (by decide) ?_ ?_ ?_
  · simp -dsimp
    try rfl
  · intro p hp
    have hu : gT 2 (gsCons (gN 4) (gsCons (gN 5) gsNil)) (vemb p) ⟨[.val (.list odds), .val (.list rights), .val F8, .val (.list (vals.map vemb)), .un, .un], dr⟩ = some ⟨[.val (.list odds), .val (.list rights), .val F8, .val (.list (vals.map vemb)), .val p.1, .val (.bool p.2)], dr⟩ := rfl
    simp -dsimp [hu, vals_ok p hp, eqD_bool]
  have ha3 : allD [.list (vals.map fun _ => .bool true)] = some (.bool true) := allD_true
  have hs : ∀ dr, m_is_of_format [F8, .str "1"] dr = some (.bool false, dr) := fun dr => of_not fun _ => exact_notT rfl
  simp -dsimp [ha3, hs, hF]
theorem law_true (ns : List Int) (_ : ns.length ≤ 63) : ∃ dr, f_law (drOf ns) = .rt (.bool true) dr := by
  refine of_W ?_
  unfold f_law b_law
  obtain ⟨⟨z, dr1⟩, h1, hz1⟩ := WO_get (law_round_ev (dr := drOf ns))
  simp only at hz1
  subst hz1
  obtain ⟨⟨z, dr2⟩, h2, hz2⟩ := WO_get (law_listed_ev (dr := dr1))
  simp only at hz2
  subst hz2
  simp -dsimp [h1, h2, kinds_ev]
end Wk
namespace Wk
open PySem PySem.Spec PyProof.Rows L2 Mi
theorem all_mk {l : PySem.W.OpenLaw} {w : World} {K : PySem.W.Frag} {h : Heap} {mg : Str → Option Value} {fa : Addr} (X : K.In h) (G : h.Ns mainGlobals mg) (hfa : mg "law" = some (.ref fa))
    {od6 an6 : Option Addr} {sl6 : Array (Option Value)} {oc6 kV6 dc6 pm6 cd6 ct6 : Value} {f6 : Addr}
    {od7 an7 : Option Addr} {sl7 : Array (Option Value)} {oc7 kV7 dc7 pm7 cd7 ct7 : Value} {f7 : Addr}
    {od8 an8 : Option Addr} {sl8 : Array (Option Value)} {oc8 kV8 dc8 pm8 cd8 ct8 : Value} {f8 : Addr}
    {od9 an9 : Option Addr} {sl9 : Array (Option Value)} {oc9 kV9 dc9 pm9 cd9 ct9 : Value} {f9 : Addr}
    {od10 an10 : Option Addr} {sl10 : Array (Option Value)} {oc10 kV10 dc10 pm10 cd10 ct10 : Value} {f10 : Addr}
    {od11 an11 : Option Addr} {sl11 : Array (Option Value)} {oc11 kV11 dc11 pm11 cd11 ct11 : Value} {f11 : Addr}
    {od13 an13 : Option Addr} {sl13 : Array (Option Value)} {oc13 kV13 dc13 pm13 cd13 ct13 : Value} {f13 : Addr}
    {od14 an14 : Option Addr} {sl14 : Array (Option Value)} {oc14 kV14 dc14 pm14 cd14 ct14 : Value} {f14 : Addr}
    {od15 an15 : Option Addr} {sl15 : Array (Option Value)} {oc15 kV15 dc15 pm15 cd15 ct15 : Value} {f15 : Addr}
    {od16 an16 : Option Addr} {sl16 : Array (Option Value)} {oc16 kV16 dc16 pm16 cd16 ct16 : Value} {f16 : Addr}
    {od17 an17 : Option Addr} {sl17 : Array (Option Value)} {oc17 kV17 dc17 pm17 cd17 ct17 : Value} {f17 : Addr}
    {od18 an18 : Option Addr} {sl18 : Array (Option Value)} {oc18 kV18 dc18 pm18 cd18 ct18 : Value} {f18 : Addr}
    {od19 an19 : Option Addr} {sl19 : Array (Option Value)} {oc19 kV19 dc19 pm19 cd19 ct19 : Value} {f19 : Addr}
    {od21 an21 : Option Addr} {sl21 : Array (Option Value)} {oc21 kV21 dc21 pm21 cd21 ct21 : Value} {f21 : Addr}
    {od22 an22 : Option Addr} {sl22 : Array (Option Value)} {oc22 kV22 dc22 pm22 cd22 ct22 : Value} {f22 : Addr}
    {od23 an23 : Option Addr} {sl23 : Array (Option Value)} {oc23 kV23 dc23 pm23 cd23 ct23 : Value} {f23 : Addr}
    {od24 an24 : Option Addr} {sl24 : Array (Option Value)} {oc24 kV24 dc24 pm24 cd24 ct24 : Value} {f24 : Addr}
    {od25 an25 : Option Addr} {sl25 : Array (Option Value)} {oc25 kV25 dc25 pm25 cd25 ct25 : Value} {f25 : Addr}
    {od26 an26 : Option Addr} {sl26 : Array (Option Value)} {oc26 kV26 dc26 pm26 cd26 ct26 : Value} {f26 : Addr}
    {od27 an27 : Option Addr} {sl27 : Array (Option Value)} {oc27 kV27 dc27 pm27 cd27 ct27 : Value} {f27 : Addr}
    {od28 an28 : Option Addr} {sl28 : Array (Option Value)} {oc28 kV28 dc28 pm28 cd28 ct28 : Value} {f28 : Addr}
    {od29 an29 : Option Addr} {sl29 : Array (Option Value)} {oc29 kV29 dc29 pm29 cd29 ct29 : Value} {f29 : Addr}
    {od30 an30 : Option Addr} {sl30 : Array (Option Value)} {oc30 kV30 dc30 pm30 cd30 ct30 : Value} {f30 : Addr}
    {od31 an31 : Option Addr} {sl31 : Array (Option Value)} {oc31 kV31 dc31 pm31 cd31 ct31 : Value} {f31 : Addr}
    {c1 f1 cc1 cd1 NN1 : Addr} {nm1 qn1 file1 : Str} {bs1 sub1 : List Value} {sn1 : List Str} {ab1 : Bool} {col1 : Option Bool} {dd1 od1 ob1 eb1 : Option Addr} {qa1 qb1 qc1 qd1 qe1 : Option Value} {oc1 doc1 pm1 ctv1 oa1 ea1 : Value} {sl1 os1 es1 : Array (Option Value)} {vs1 : Array Value} {tf1 : Tok}
    {c2 f2 cc2 cd2 NN2 : Addr} {nm2 qn2 file2 : Str} {bs2 sub2 : List Value} {sn2 : List Str} {ab2 : Bool} {col2 : Option Bool} {dd2 od2 ob2 eb2 : Option Addr} {qa2 qb2 qc2 qd2 qe2 : Option Value} {oc2 doc2 pm2 ctv2 oa2 ea2 : Value} {sl2 os2 es2 : Array (Option Value)} {vs2 : Array Value} {tf2 : Tok}
    {c3 f3 cc3 cd3 NN3 : Addr} {nm3 qn3 file3 : Str} {bs3 sub3 : List Value} {sn3 : List Str} {ab3 : Bool} {col3 : Option Bool} {dd3 od3 ob3 eb3 : Option Addr} {qa3 qb3 qc3 qd3 qe3 : Option Value} {oc3 doc3 pm3 ctv3 oa3 ea3 : Value} {sl3 os3 es3 : Array (Option Value)} {vs3 : Array Value} {tf3 : Tok}
    {at_NOUGHT : Addr} {od_NOUGHT : Option Addr} {its_NOUGHT : Array Value} {n_NOUGHT : Nat} {sl_NOUGHT : Array (Option Value)}
    (a6 : PySem.W.nsIn K mainGlobals "is_whole" = some (some (.ref f6))) (l6 : K.lookup f6 = some ⟨oc6, od6, .func (PySem.W.fnOf "is_whole" "is_whole" (defArgs (topS 6)) (defBody (topS 6)) (defScope (topS 6)) .none kV6 dc6 pm6 an6 cd6 ct6), sl6⟩) (c6 : PySem.W.codeIn K cd6 "is_whole" = true) (k6 : PySem.W.keepIn K (.ref f6) = true)
    (a7 : PySem.W.nsIn K mainGlobals "is_exact" = some (some (.ref f7))) (l7 : K.lookup f7 = some ⟨oc7, od7, .func (PySem.W.fnOf "is_exact" "is_exact" (defArgs (topS 7)) (defBody (topS 7)) (defScope (topS 7)) .none kV7 dc7 pm7 an7 cd7 ct7), sl7⟩) (c7 : PySem.W.codeIn K cd7 "is_exact" = true) (k7 : PySem.W.keepIn K (.ref f7) = true)
    (a8 : PySem.W.nsIn K mainGlobals "dyadic" = some (some (.ref f8))) (l8 : K.lookup f8 = some ⟨oc8, od8, .func (PySem.W.fnOf "dyadic" "dyadic" (defArgs (topS 8)) (defBody (topS 8)) (defScope (topS 8)) .none kV8 dc8 pm8 an8 cd8 ct8), sl8⟩) (c8 : PySem.W.codeIn K cd8 "dyadic" = true) (k8 : PySem.W.keepIn K (.ref f8) = true)
    (a9 : PySem.W.nsIn K mainGlobals "minus_of" = some (some (.ref f9))) (l9 : K.lookup f9 = some ⟨oc9, od9, .func (PySem.W.fnOf "minus_of" "minus_of" (defArgs (topS 9)) (defBody (topS 9)) (defScope (topS 9)) .none kV9 dc9 pm9 an9 cd9 ct9), sl9⟩) (c9 : PySem.W.codeIn K cd9 "minus_of" = true) (k9 : PySem.W.keepIn K (.ref f9) = true)
    (a10 : PySem.W.nsIn K mainGlobals "top_of" = some (some (.ref f10))) (l10 : K.lookup f10 = some ⟨oc10, od10, .func (PySem.W.fnOf "top_of" "top_of" (defArgs (topS 10)) (defBody (topS 10)) (defScope (topS 10)) .none kV10 dc10 pm10 an10 cd10 ct10), sl10⟩) (c10 : PySem.W.codeIn K cd10 "top_of" = true) (k10 : PySem.W.keepIn K (.ref f10) = true)
    (a11 : PySem.W.nsIn K mainGlobals "places_of_whole" = some (some (.ref f11))) (l11 : K.lookup f11 = some ⟨oc11, od11, .func (PySem.W.fnOf "places_of_whole" "places_of_whole" (defArgs (topS 11)) (defBody (topS 11)) (defScope (topS 11)) .none kV11 dc11 pm11 an11 cd11 ct11), sl11⟩) (c11 : PySem.W.codeIn K cd11 "places_of_whole" = true) (k11 : PySem.W.keepIn K (.ref f11) = true)
    (a13 : PySem.W.nsIn K mainGlobals "is_format" = some (some (.ref f13))) (l13 : K.lookup f13 = some ⟨oc13, od13, .func (PySem.W.fnOf "is_format" "is_format" (defArgs (topS 13)) (defBody (topS 13)) (defScope (topS 13)) .none kV13 dc13 pm13 an13 cd13 ct13), sl13⟩) (c13 : PySem.W.codeIn K cd13 "is_format" = true) (k13 : PySem.W.keepIn K (.ref f13) = true)
    (a14 : PySem.W.nsIn K mainGlobals "check_format" = some (some (.ref f14))) (l14 : K.lookup f14 = some ⟨oc14, od14, .func (PySem.W.fnOf "check_format" "check_format" (defArgs (topS 14)) (defBody (topS 14)) (defScope (topS 14)) .none kV14 dc14 pm14 an14 cd14 ct14), sl14⟩) (c14 : PySem.W.codeIn K cd14 "check_format" = true) (k14 : PySem.W.keepIn K (.ref f14) = true)
    (a15 : PySem.W.nsIn K mainGlobals "laid" = some (some (.ref f15))) (l15 : K.lookup f15 = some ⟨oc15, od15, .func (PySem.W.fnOf "laid" "laid" (defArgs (topS 15)) (defBody (topS 15)) (defScope (topS 15)) .none kV15 dc15 pm15 an15 cd15 ct15), sl15⟩) (c15 : PySem.W.codeIn K cd15 "laid" = true) (k15 : PySem.W.keepIn K (.ref f15) = true)
    (a16 : PySem.W.nsIn K mainGlobals "signed" = some (some (.ref f16))) (l16 : K.lookup f16 = some ⟨oc16, od16, .func (PySem.W.fnOf "signed" "signed" (defArgs (topS 16)) (defBody (topS 16)) (defScope (topS 16)) .none kV16 dc16 pm16 an16 cd16 ct16), sl16⟩) (c16 : PySem.W.codeIn K cd16 "signed" = true) (k16 : PySem.W.keepIn K (.ref f16) = true)
    (a17 : PySem.W.nsIn K mainGlobals "rounded" = some (some (.ref f17))) (l17 : K.lookup f17 = some ⟨oc17, od17, .func (PySem.W.fnOf "rounded" "rounded" (defArgs (topS 17)) (defBody (topS 17)) (defScope (topS 17)) .none kV17 dc17 pm17 an17 cd17 ct17), sl17⟩) (c17 : PySem.W.codeIn K cd17 "rounded" = true) (k17 : PySem.W.keepIn K (.ref f17) = true)
    (a18 : PySem.W.nsIn K mainGlobals "is_of_format" = some (some (.ref f18))) (l18 : K.lookup f18 = some ⟨oc18, od18, .func (PySem.W.fnOf "is_of_format" "is_of_format" (defArgs (topS 18)) (defBody (topS 18)) (defScope (topS 18)) .none kV18 dc18 pm18 an18 cd18 ct18), sl18⟩) (c18 : PySem.W.codeIn K cd18 "is_of_format" = true) (k18 : PySem.W.keepIn K (.ref f18) = true)
    (a19 : PySem.W.nsIn K mainGlobals "numbers_of" = some (some (.ref f19))) (l19 : K.lookup f19 = some ⟨oc19, od19, .func (PySem.W.fnOf "numbers_of" "numbers_of" (defArgs (topS 19)) (defBody (topS 19)) (defScope (topS 19)) .none kV19 dc19 pm19 an19 cd19 ct19), sl19⟩) (c19 : PySem.W.codeIn K cd19 "numbers_of" = true) (k19 : PySem.W.keepIn K (.ref f19) = true)
    (a21 : PySem.W.nsIn K mainGlobals "_law_state" = some (some (.ref f21))) (l21 : K.lookup f21 = some ⟨oc21, od21, .func (PySem.W.fnOf "_law_state" "_law_state" (defArgs (topS 21)) (defBody (topS 21)) (defScope (topS 21)) .none kV21 dc21 pm21 an21 cd21 ct21), sl21⟩) (c21 : PySem.W.codeIn K cd21 "_law_state" = true) (k21 : PySem.W.keepIn K (.ref f21) = true)
    (a22 : PySem.W.nsIn K mainGlobals "_law_draw" = some (some (.ref f22))) (l22 : K.lookup f22 = some ⟨oc22, od22, .func (PySem.W.fnOf "_law_draw" "_law_draw" (defArgs (topS 22)) (defBody (topS 22)) (defScope (topS 22)) .none kV22 dc22 pm22 an22 cd22 ct22), sl22⟩) (c22 : PySem.W.codeIn K cd22 "_law_draw" = true) (k22 : PySem.W.keepIn K (.ref f22) = true)
    (a23 : PySem.W.nsIn K mainGlobals "_law_exact" = some (some (.ref f23))) (l23 : K.lookup f23 = some ⟨oc23, od23, .func (PySem.W.fnOf "_law_exact" "_law_exact" (defArgs (topS 23)) (defBody (topS 23)) (defScope (topS 23)) .none kV23 dc23 pm23 an23 cd23 ct23), sl23⟩) (c23 : PySem.W.codeIn K cd23 "_law_exact" = true) (k23 : PySem.W.keepIn K (.ref f23) = true)
    (a24 : PySem.W.nsIn K mainGlobals "_law_form" = some (some (.ref f24))) (l24 : K.lookup f24 = some ⟨oc24, od24, .func (PySem.W.fnOf "_law_form" "_law_form" (defArgs (topS 24)) (defBody (topS 24)) (defScope (topS 24)) .none kV24 dc24 pm24 an24 cd24 ct24), sl24⟩) (c24 : PySem.W.codeIn K cd24 "_law_form" = true) (k24 : PySem.W.keepIn K (.ref f24) = true)
    (a25 : PySem.W.nsIn K mainGlobals "_law_due" = some (some (.ref f25))) (l25 : K.lookup f25 = some ⟨oc25, od25, .func (PySem.W.fnOf "_law_due" "_law_due" (defArgs (topS 25)) (defBody (topS 25)) (defScope (topS 25)) .none kV25 dc25 pm25 an25 cd25 ct25), sl25⟩) (c25 : PySem.W.codeIn K cd25 "_law_due" = true) (k25 : PySem.W.keepIn K (.ref f25) = true)
    (a26 : PySem.W.nsIn K mainGlobals "_law_number" = some (some (.ref f26))) (l26 : K.lookup f26 = some ⟨oc26, od26, .func (PySem.W.fnOf "_law_number" "_law_number" (defArgs (topS 26)) (defBody (topS 26)) (defScope (topS 26)) .none kV26 dc26 pm26 an26 cd26 ct26), sl26⟩) (c26 : PySem.W.codeIn K cd26 "_law_number" = true) (k26 : PySem.W.keepIn K (.ref f26) = true)
    (a27 : PySem.W.nsIn K mainGlobals "_law_round_all" = some (some (.ref f27))) (l27 : K.lookup f27 = some ⟨oc27, od27, .func (PySem.W.fnOf "_law_round_all" "_law_round_all" (defArgs (topS 27)) (defBody (topS 27)) (defScope (topS 27)) .none kV27 dc27 pm27 an27 cd27 ct27), sl27⟩) (c27 : PySem.W.codeIn K cd27 "_law_round_all" = true) (k27 : PySem.W.keepIn K (.ref f27) = true)
    (a28 : PySem.W.nsIn K mainGlobals "_law_listed" = some (some (.ref f28))) (l28 : K.lookup f28 = some ⟨oc28, od28, .func (PySem.W.fnOf "_law_listed" "_law_listed" (defArgs (topS 28)) (defBody (topS 28)) (defScope (topS 28)) .none kV28 dc28 pm28 an28 cd28 ct28), sl28⟩) (c28 : PySem.W.codeIn K cd28 "_law_listed" = true) (k28 : PySem.W.keepIn K (.ref f28) = true)
    (a29 : PySem.W.nsIn K mainGlobals "_law_refused" = some (some (.ref f29))) (l29 : K.lookup f29 = some ⟨oc29, od29, .func (PySem.W.fnOf "_law_refused" "_law_refused" (defArgs (topS 29)) (defBody (topS 29)) (defScope (topS 29)) .none kV29 dc29 pm29 an29 cd29 ct29), sl29⟩) (c29 : PySem.W.codeIn K cd29 "_law_refused" = true) (k29 : PySem.W.keepIn K (.ref f29) = true)
    (a30 : PySem.W.nsIn K mainGlobals "_law_kinds" = some (some (.ref f30))) (l30 : K.lookup f30 = some ⟨oc30, od30, .func (PySem.W.fnOf "_law_kinds" "_law_kinds" (defArgs (topS 30)) (defBody (topS 30)) (defScope (topS 30)) .none kV30 dc30 pm30 an30 cd30 ct30), sl30⟩) (c30 : PySem.W.codeIn K cd30 "_law_kinds" = true) (k30 : PySem.W.keepIn K (.ref f30) = true)
    (a31 : PySem.W.nsIn K mainGlobals "law" = some (some (.ref f31))) (l31 : K.lookup f31 = some ⟨oc31, od31, .func (PySem.W.fnOf "law" "law" (defArgs (topS 31)) (defBody (topS 31)) (defScope (topS 31)) .none kV31 dc31 pm31 an31 cd31 ct31), sl31⟩) (c31 : PySem.W.codeIn K cd31 "law" = true) (k31 : PySem.W.keepIn K (.ref f31) = true)
    (z_super : PySem.W.nsIn K mainGlobals "super" = some none) (x_tp : (l.prog.main.scope.names.lookup ("super" : Str)).isSome = false) (x_op : PySem.W.nsIn K PySem.cStatics "thirdparty.any" = some none)
    (yg1 : PySem.W.nsIn K mainGlobals "CutError" = some (some (.ref c1))) (yc1 : K.lookup c1 = some (excClassObj nm1 qn1 c1 NN1 bs1 [.type "ValueError", .type "Exception", .type "BaseException", .type "object"] true sn1 sub1 ab1 col1 dd1 qa1 qb1 qc1 qd1 qe1 "ValueError.__new__")) (yl1 : K.lookup f1 = some (⟨oc1, od1, .func (PySem.W.fnX "__init__" "CutError.__init__" (defArgs (clsInit (topS 1))) (defBody (clsInit (topS 1))) (defScope (clsInit (topS 1))) [(("__class__" : Str), cc1)] .none .none doc1 pm1 none (.ref cd1) ctv1), sl1⟩ : Obj)) (yi1 : PySem.W.codeIn K (.ref cd1) "CutError.__init__" = true) (yo1 : K.lookup cd1 = some (⟨oa1, ob1, .fields vs1, os1⟩ : Obj)) (yv1 : vs1[2]? = some (.str file1 tf1)) (yf1 : ((l.prog.main.file : Str) == file1) = true) (ye1 : K.lookup cc1 = some (⟨ea1, eb1, .cell (some (.ref c1)), es1⟩ : Obj)) (yt1 : PySem.W.typeIn K (.ref f1) = some (.type "function")) (yn1 : PySem.W.fnIn K f1 = true) (yC1 : PySem.W.typeIn K (.ref c1) = some (.type "type"))
    (yg2 : PySem.W.nsIn K mainGlobals "TooLarge" = some (some (.ref c2))) (yc2 : K.lookup c2 = some (excClassObj nm2 qn2 c2 NN2 bs2 [.ref c1, .type "ValueError", .type "Exception", .type "BaseException", .type "object"] true sn2 sub2 ab2 col2 dd2 qa2 qb2 qc2 qd2 qe2 "ValueError.__new__")) (yl2 : K.lookup f2 = some (⟨oc2, od2, .func (PySem.W.fnX "__init__" "TooLarge.__init__" (defArgs (clsInit (topS 2))) (defBody (clsInit (topS 2))) (defScope (clsInit (topS 2))) [(("__class__" : Str), cc2)] .none .none doc2 pm2 none (.ref cd2) ctv2), sl2⟩ : Obj)) (yi2 : PySem.W.codeIn K (.ref cd2) "TooLarge.__init__" = true) (yo2 : K.lookup cd2 = some (⟨oa2, ob2, .fields vs2, os2⟩ : Obj)) (yv2 : vs2[2]? = some (.str file2 tf2)) (yf2 : ((l.prog.main.file : Str) == file2) = true) (ye2 : K.lookup cc2 = some (⟨ea2, eb2, .cell (some (.ref c2)), es2⟩ : Obj)) (yt2 : PySem.W.typeIn K (.ref f2) = some (.type "function")) (yA2 : PySem.W.findIn K (.ref c2) "__setattr__" = some (some (.builtin "object.__setattr__"))) (yB2 : PySem.W.subIn K (.ref c2) (.type "BaseException") = some true) (yC2 : PySem.W.typeIn K (.ref c2) = some (.type "type")) (yD2 : PySem.W.keepIn K (.ref c2) = true) (yE2 : PySem.W.findIn K (.ref c2) "__init__" = some (some (.ref f2))) (yF2 : PySem.W.mroIn K c2 (.ref c2) = some true) (yG2 : PySem.W.mroIn K c2 (.ref c1) = some true) (yH2 : PySem.W.ks_superIn K c2 c2 "__init__" = some (some (.ref f1))) (yI2 : PySem.W.ks_superIn K c2 c1 "__init__" = some (some (.builtin "ValueError.__init__"))) (yJ2 : PySem.W.subIn K (.ref c2) (.type "ValueError") = some true) (yK2 : PySem.W.findIn K (.ref c2) "place" = some none) (yL2 : PySem.W.findIn K (.ref c2) "name" = some none) (yM2 : PySem.W.subIn K (.ref c2) (.ref c2) = some true) (yN2 : PySem.W.subIn K (.ref c2) (.ref c1) = some true) (yP2 : PySem.W.findIn K (.ref c2) "__getattribute__" = some (some (.builtin "BaseException.__getattribute__"))) (yQ2 : PySem.W.findIn K (.ref c2) "__getattr__" = some none) (yR2 : PySem.W.hasDictIn K c2 = true) (yS2 : PySem.W.findIn K (.ref c2) "__class__" = some (some (.builtin "object.__class__"))) (yT2 : PySem.W.specialIn K (.builtin "object.__class__") "__get__" = some (some (.builtin "getset_descriptor.__get__"))) (yU2 : PySem.W.takesIn K (.builtin "object.__class__") = some true) (yV2 : PySem.W.mroIn K c2 (.type "object") = some true)
    (yg3 : PySem.W.nsIn K mainGlobals "InvalidFormat" = some (some (.ref c3))) (yc3 : K.lookup c3 = some (excClassObj nm3 qn3 c3 NN3 bs3 [.ref c1, .type "ValueError", .type "Exception", .type "BaseException", .type "object"] true sn3 sub3 ab3 col3 dd3 qa3 qb3 qc3 qd3 qe3 "ValueError.__new__")) (yl3 : K.lookup f3 = some (⟨oc3, od3, .func (PySem.W.fnX "__init__" "InvalidFormat.__init__" (defArgs (clsInit (topS 3))) (defBody (clsInit (topS 3))) (defScope (clsInit (topS 3))) [(("__class__" : Str), cc3)] .none .none doc3 pm3 none (.ref cd3) ctv3), sl3⟩ : Obj)) (yi3 : PySem.W.codeIn K (.ref cd3) "InvalidFormat.__init__" = true) (yo3 : K.lookup cd3 = some (⟨oa3, ob3, .fields vs3, os3⟩ : Obj)) (yv3 : vs3[2]? = some (.str file3 tf3)) (yf3 : ((l.prog.main.file : Str) == file3) = true) (ye3 : K.lookup cc3 = some (⟨ea3, eb3, .cell (some (.ref c3)), es3⟩ : Obj)) (yt3 : PySem.W.typeIn K (.ref f3) = some (.type "function")) (yA3 : PySem.W.findIn K (.ref c3) "__setattr__" = some (some (.builtin "object.__setattr__"))) (yB3 : PySem.W.subIn K (.ref c3) (.type "BaseException") = some true) (yC3 : PySem.W.typeIn K (.ref c3) = some (.type "type")) (yD3 : PySem.W.keepIn K (.ref c3) = true) (yE3 : PySem.W.findIn K (.ref c3) "__init__" = some (some (.ref f3))) (yF3 : PySem.W.mroIn K c3 (.ref c3) = some true) (yG3 : PySem.W.mroIn K c3 (.ref c1) = some true) (yH3 : PySem.W.ks_superIn K c3 c3 "__init__" = some (some (.ref f1))) (yI3 : PySem.W.ks_superIn K c3 c1 "__init__" = some (some (.builtin "ValueError.__init__"))) (yJ3 : PySem.W.subIn K (.ref c3) (.type "ValueError") = some true) (yK3 : PySem.W.findIn K (.ref c3) "place" = some none) (yL3 : PySem.W.findIn K (.ref c3) "name" = some none) (yM3 : PySem.W.subIn K (.ref c3) (.ref c3) = some true) (yN3 : PySem.W.subIn K (.ref c3) (.ref c1) = some true) (yP3 : PySem.W.findIn K (.ref c3) "__getattribute__" = some (some (.builtin "BaseException.__getattribute__"))) (yQ3 : PySem.W.findIn K (.ref c3) "__getattr__" = some none) (yR3 : PySem.W.hasDictIn K c3 = true) (yS3 : PySem.W.findIn K (.ref c3) "__class__" = some (some (.builtin "object.__class__"))) (yT3 : PySem.W.specialIn K (.builtin "object.__class__") "__get__" = some (some (.builtin "getset_descriptor.__get__"))) (yU3 : PySem.W.takesIn K (.builtin "object.__class__") = some true) (yV3 : PySem.W.mroIn K c3 (.type "object") = some true)
    (z_ValueError : PySem.W.nsIn K mainGlobals "ValueError" = some none)
    (z_abs : PySem.W.nsIn K mainGlobals "abs" = some none)
    (z_all : PySem.W.nsIn K mainGlobals "all" = some none)
    (z_bool : PySem.W.nsIn K mainGlobals "bool" = some none)
    (z_int : PySem.W.nsIn K mainGlobals "int" = some none)
    (z_isinstance : PySem.W.nsIn K mainGlobals "isinstance" = some none)
    (z_len : PySem.W.nsIn K mainGlobals "len" = some none)
    (z_max : PySem.W.nsIn K mainGlobals "max" = some none)
    (z_min : PySem.W.nsIn K mainGlobals "min" = some none)
    (z_range : PySem.W.nsIn K mainGlobals "range" = some none)
    (z_tuple : PySem.W.nsIn K mainGlobals "tuple" = some none)
    (x_NOUGHT : PySem.W.nsIn K mainGlobals "NOUGHT" = some (some (.ref at_NOUGHT))) (y_NOUGHT : K.lookup at_NOUGHT = some ⟨.type "tuple", od_NOUGHT, .seq its_NOUGHT n_NOUGHT, sl_NOUGHT⟩) (w_NOUGHT : constIs its_NOUGHT d_NOUGHT = true) :
    ∃ fd : FuncData, (∀ (s : Shared) (v : Value), BindsTo s fd ⟨[v], []⟩ [("script", v)]) ∧ ∀ base : Heap, K.In base → base.Ns mainGlobals mg → FnOk l.prog w K mg base CX0 7 fa fd ["script"] (spLaw K f_law) := by
  have e := hfa.symm.trans (PySem.W.mg_of X G a31)
  cases e
  have F6 := fun_mk (st := topS 6) l6 c6 k6
  have b6 := F6.binds (ps := ["value"]) fun _ _ _ _ _ _ us hl => match us, hl with | [_], _ => rfl
  have F7 := fun_mk (st := topS 7) l7 c7 k7
  have b7 := F7.binds (ps := ["value"]) fun _ _ _ _ _ _ us hl => match us, hl with | [_], _ => rfl
  have F8 := fun_mk (st := topS 8) l8 c8 k8
  have b8 := F8.binds (ps := ["s", "e"]) fun _ _ _ _ _ _ us hl => match us, hl with | [_, _], _ => rfl
  have F9 := fun_mk (st := topS 9) l9 c9 k9
  have b9 := F9.binds (ps := ["x"]) fun _ _ _ _ _ _ us hl => match us, hl with | [_], _ => rfl
  have F10 := fun_mk (st := topS 10) l10 c10 k10
  have b10 := F10.binds (ps := ["x"]) fun _ _ _ _ _ _ us hl => match us, hl with | [_], _ => rfl
  have F11 := fun_mk (st := topS 11) l11 c11 k11
  have b11 := F11.binds (ps := ["n"]) fun _ _ _ _ _ _ us hl => match us, hl with | [_], _ => rfl
  have F13 := fun_mk (st := topS 13) l13 c13 k13
  have b13 := F13.binds (ps := ["value"]) fun _ _ _ _ _ _ us hl => match us, hl with | [_], _ => rfl
  have F14 := fun_mk (st := topS 14) l14 c14 k14
  have b14 := F14.binds (ps := ["value"]) fun _ _ _ _ _ _ us hl => match us, hl with | [_], _ => rfl
  have F15 := fun_mk (st := topS 15) l15 c15 k15
  have b15 := F15.binds (ps := ["form", "below", "count", "rest", "whole"]) fun _ _ _ _ _ _ us hl => match us, hl with | [_, _, _, _, _], _ => rfl
  have F16 := fun_mk (st := topS 16) l16 c16 k16
  have b16 := F16.binds (ps := ["told", "is_below"]) fun _ _ _ _ _ _ us hl => match us, hl with | [_, _], _ => rfl
  have F17 := fun_mk (st := topS 17) l17 c17 k17
  have b17 := F17.binds (ps := ["form", "x"]) fun _ _ _ _ _ _ us hl => match us, hl with | [_, _], _ => rfl
  have F18 := fun_mk (st := topS 18) l18 c18 k18
  have b18 := F18.binds (ps := ["form", "value"]) fun _ _ _ _ _ _ us hl => match us, hl with | [_, _], _ => rfl
  have F19 := fun_mk (st := topS 19) l19 c19 k19
  have b19 := F19.binds (ps := ["form", "most"]) fun _ _ _ _ _ _ us hl => match us, hl with | [_, _], _ => rfl
  have F21 := fun_mk (st := topS 21) l21 c21 k21
  have b21 := F21.binds (ps := ["script"]) fun _ _ _ _ _ _ us hl => match us, hl with | [_], _ => rfl
  have F22 := fun_mk (st := topS 22) l22 c22 k22
  have b22 := F22.binds (ps := ["state", "many"]) fun _ _ _ _ _ _ us hl => match us, hl with | [_, _], _ => rfl
  have F23 := fun_mk (st := topS 23) l23 c23 k23
  have b23 := F23.binds (ps := ["n", "shift"]) fun _ _ _ _ _ _ us hl => match us, hl with | [_, _], _ => rfl
  have F24 := fun_mk (st := topS 24) l24 c24 k24
  have b24 := F24.binds (ps := ["state"]) fun _ _ _ _ _ _ us hl => match us, hl with | [_], _ => rfl
  have F25 := fun_mk (st := topS 25) l25 c25 k25
  have b25 := F25.binds (ps := ["form", "n"]) fun _ _ _ _ _ _ us hl => match us, hl with | [_, _], _ => rfl
  have F26 := fun_mk (st := topS 26) l26 c26 k26
  have b26 := F26.binds (ps := ["state", "form"]) fun _ _ _ _ _ _ us hl => match us, hl with | [_, _], _ => rfl
  have F27 := fun_mk (st := topS 27) l27 c27 k27
  have b27 := F27.binds (ps := ["state"]) fun _ _ _ _ _ _ us hl => match us, hl with | [_], _ => rfl
  have F28 := fun_mk (st := topS 28) l28 c28 k28
  have b28 := F28.binds (ps := ["state"]) fun _ _ _ _ _ _ us hl => match us, hl with | [_], _ => rfl
  have F29 := fun_mk (st := topS 29) l29 c29 k29
  have b29 := F29.binds (ps := ["value"]) fun _ _ _ _ _ _ us hl => match us, hl with | [_], _ => rfl
  have F30 := fun_mk (st := topS 30) l30 c30 k30
  have b30 := F30.binds (ps := []) fun _ _ _ _ _ _ us hl => match us, hl with | [], _ => rfl
  have F31 := fun_mk (st := topS 31) l31 c31 k31
  have b31 := F31.binds (ps := ["script"]) fun _ _ _ _ _ _ us hl => match us, hl with | [_], _ => rfl
  let aa : Nat → Addr := fun n => match n with
    | 6 => f6
    | 7 => f7
    | 8 => f8
    | 9 => f9
    | 10 => f10
    | 11 => f11
    | 13 => f13
    | 14 => f14
    | 15 => f15
    | 16 => f16
    | 17 => f17
    | 18 => f18
    | 19 => f19
    | 21 => f21
    | 22 => f22
    | 23 => f23
    | 24 => f24
    | 25 => f25
    | 26 => f26
    | 27 => f27
    | 28 => f28
    | 29 => f29
    | 30 => f30
    | 31 => fa
    | 1 => c1
    | 2 => c2
    | 3 => c3
    | _ => 0
  let ff : Nat → Addr := fun n => match n with
    | 1 => f1
    | 2 => f2
    | 3 => f3
    | _ => 0
  let dd : Nat → FuncData := fun n => match n with
    | 6 => PySem.W.fnOf "is_whole" "is_whole" (defArgs (topS 6)) (defBody (topS 6)) (defScope (topS 6)) .none kV6 dc6 pm6 an6 cd6 ct6
    | 7 => PySem.W.fnOf "is_exact" "is_exact" (defArgs (topS 7)) (defBody (topS 7)) (defScope (topS 7)) .none kV7 dc7 pm7 an7 cd7 ct7
    | 8 => PySem.W.fnOf "dyadic" "dyadic" (defArgs (topS 8)) (defBody (topS 8)) (defScope (topS 8)) .none kV8 dc8 pm8 an8 cd8 ct8
    | 9 => PySem.W.fnOf "minus_of" "minus_of" (defArgs (topS 9)) (defBody (topS 9)) (defScope (topS 9)) .none kV9 dc9 pm9 an9 cd9 ct9
    | 10 => PySem.W.fnOf "top_of" "top_of" (defArgs (topS 10)) (defBody (topS 10)) (defScope (topS 10)) .none kV10 dc10 pm10 an10 cd10 ct10
    | 11 => PySem.W.fnOf "places_of_whole" "places_of_whole" (defArgs (topS 11)) (defBody (topS 11)) (defScope (topS 11)) .none kV11 dc11 pm11 an11 cd11 ct11
    | 13 => PySem.W.fnOf "is_format" "is_format" (defArgs (topS 13)) (defBody (topS 13)) (defScope (topS 13)) .none kV13 dc13 pm13 an13 cd13 ct13
    | 14 => PySem.W.fnOf "check_format" "check_format" (defArgs (topS 14)) (defBody (topS 14)) (defScope (topS 14)) .none kV14 dc14 pm14 an14 cd14 ct14
    | 15 => PySem.W.fnOf "laid" "laid" (defArgs (topS 15)) (defBody (topS 15)) (defScope (topS 15)) .none kV15 dc15 pm15 an15 cd15 ct15
    | 16 => PySem.W.fnOf "signed" "signed" (defArgs (topS 16)) (defBody (topS 16)) (defScope (topS 16)) .none kV16 dc16 pm16 an16 cd16 ct16
    | 17 => PySem.W.fnOf "rounded" "rounded" (defArgs (topS 17)) (defBody (topS 17)) (defScope (topS 17)) .none kV17 dc17 pm17 an17 cd17 ct17
    | 18 => PySem.W.fnOf "is_of_format" "is_of_format" (defArgs (topS 18)) (defBody (topS 18)) (defScope (topS 18)) .none kV18 dc18 pm18 an18 cd18 ct18
    | 19 => PySem.W.fnOf "numbers_of" "numbers_of" (defArgs (topS 19)) (defBody (topS 19)) (defScope (topS 19)) .none kV19 dc19 pm19 an19 cd19 ct19
    | 21 => PySem.W.fnOf "_law_state" "_law_state" (defArgs (topS 21)) (defBody (topS 21)) (defScope (topS 21)) .none kV21 dc21 pm21 an21 cd21 ct21
    | 22 => PySem.W.fnOf "_law_draw" "_law_draw" (defArgs (topS 22)) (defBody (topS 22)) (defScope (topS 22)) .none kV22 dc22 pm22 an22 cd22 ct22
    | 23 => PySem.W.fnOf "_law_exact" "_law_exact" (defArgs (topS 23)) (defBody (topS 23)) (defScope (topS 23)) .none kV23 dc23 pm23 an23 cd23 ct23
    | 24 => PySem.W.fnOf "_law_form" "_law_form" (defArgs (topS 24)) (defBody (topS 24)) (defScope (topS 24)) .none kV24 dc24 pm24 an24 cd24 ct24
    | 25 => PySem.W.fnOf "_law_due" "_law_due" (defArgs (topS 25)) (defBody (topS 25)) (defScope (topS 25)) .none kV25 dc25 pm25 an25 cd25 ct25
    | 26 => PySem.W.fnOf "_law_number" "_law_number" (defArgs (topS 26)) (defBody (topS 26)) (defScope (topS 26)) .none kV26 dc26 pm26 an26 cd26 ct26
    | 27 => PySem.W.fnOf "_law_round_all" "_law_round_all" (defArgs (topS 27)) (defBody (topS 27)) (defScope (topS 27)) .none kV27 dc27 pm27 an27 cd27 ct27
    | 28 => PySem.W.fnOf "_law_listed" "_law_listed" (defArgs (topS 28)) (defBody (topS 28)) (defScope (topS 28)) .none kV28 dc28 pm28 an28 cd28 ct28
    | 29 => PySem.W.fnOf "_law_refused" "_law_refused" (defArgs (topS 29)) (defBody (topS 29)) (defScope (topS 29)) .none kV29 dc29 pm29 an29 cd29 ct29
    | 30 => PySem.W.fnOf "_law_kinds" "_law_kinds" (defArgs (topS 30)) (defBody (topS 30)) (defScope (topS 30)) .none kV30 dc30 pm30 an30 cd30 ct30
    | 31 => PySem.W.fnOf "law" "law" (defArgs (topS 31)) (defBody (topS 31)) (defScope (topS 31)) .none kV31 dc31 pm31 an31 cd31 ct31
    | _ => PySem.W.fnOf "law" "law" (defArgs (topS 31)) (defBody (topS 31)) (defScope (topS 31)) .none kV31 dc31 pm31 an31 cd31 ct31
  have I1 : InitTxt l.prog K c1 f1 cc1 (nfOf "CutError.__init__" (topS 1) cc1 cd1) := ⟨⟨_, _, _, _, _, _, yl1⟩, yi1, ⟨_, _, _, _, _, _, yo1, yv1, yf1⟩, ⟨_, _, _, ye1⟩, clsIn_mk yc1, rfl, ⟨_, rfl, rfl⟩, NdefX.nscope_by (by show NdefX.nscB _ _ _ (defScope (clsInit (topS 1))) = true; decide +kernel), by first | rfl | decide +kernel, x_tp⟩
  have I2 : InitTxt l.prog K c2 f2 cc2 (nfOf "TooLarge.__init__" (topS 2) cc2 cd2) := ⟨⟨_, _, _, _, _, _, yl2⟩, yi2, ⟨_, _, _, _, _, _, yo2, yv2, yf2⟩, ⟨_, _, _, ye2⟩, clsIn_mk yc2, rfl, ⟨_, rfl, rfl⟩, NdefX.nscope_by (by show NdefX.nscB _ _ _ (defScope (clsInit (topS 2))) = true; decide +kernel), by first | rfl | decide +kernel, x_tp⟩
  have I3 : InitTxt l.prog K c3 f3 cc3 (nfOf "InvalidFormat.__init__" (topS 3) cc3 cd3) := ⟨⟨_, _, _, _, _, _, yl3⟩, yi3, ⟨_, _, _, _, _, _, yo3, yv3, yf3⟩, ⟨_, _, _, ye3⟩, clsIn_mk yc3, rfl, ⟨_, rfl, rfl⟩, NdefX.nscope_by (by show NdefX.nscB _ _ _ (defScope (clsInit (topS 3))) = true; decide +kernel), by first | rfl | decide +kernel, x_tp⟩
  have TT : T l.prog K mg aa dd ff := {
    z_super := PySem.W.mg_none_of X G z_super
    g1 := PySem.W.mg_of X G yg1
    e1 := ⟨⟨_, _, _, _, _, _, _, _, I1, yl1⟩, yt1, yn1⟩
    e2 := ⟨⟨_, _, _, _, _, _, _, _, I2, yl2⟩, PySem.W.mg_of X G yg2, oexC_mk yc2 rfl yA2 yB2 yC2 yD2, yE2, yt2, ⟨oexC_mk yc2 rfl yA2 yB2 yC2 yD2, yF2, yH2, x_op, yJ2⟩, ⟨oexC_mk yc2 rfl yA2 yB2 yC2 yD2, yG2, yI2, x_op, yJ2⟩, ⟨yK2, yL2⟩, exm_mk yB2 (clsIn_mk yc2) yC2 yM2⟩
    e3 := ⟨⟨_, _, _, _, _, _, _, _, I3, yl3⟩, PySem.W.mg_of X G yg3, oexC_mk yc3 rfl yA3 yB3 yC3 yD3, yE3, yt3, ⟨oexC_mk yc3 rfl yA3 yB3 yC3 yD3, yF3, yH3, x_op, yJ3⟩, ⟨oexC_mk yc3 rfl yA3 yB3 yC3 yD3, yG3, yI3, x_op, yJ3⟩, ⟨yK3, yL3⟩, exm_mk yB3 (clsIn_mk yc3) yC3 yM3⟩
    x2 := ⟨yP2, yQ2, yB2, yR2, yS2, yT2, yU2, yV2⟩
    x3 := ⟨yP3, yQ3, yB3, yR3, yS3, yT3, yU3, yV3⟩
    q3_1 := isi_mk (clsIn_mk yc1) yC1 yN3
    z_ValueError := PySem.W.mg_none_of X G z_ValueError
    z_abs := PySem.W.mg_none_of X G z_abs
    z_all := PySem.W.mg_none_of X G z_all
    z_bool := PySem.W.mg_none_of X G z_bool
    z_int := PySem.W.mg_none_of X G z_int
    z_isinstance := PySem.W.mg_none_of X G z_isinstance
    z_len := PySem.W.mg_none_of X G z_len
    z_max := PySem.W.mg_none_of X G z_max
    z_min := PySem.W.mg_none_of X G z_min
    z_range := PySem.W.mg_none_of X G z_range
    z_tuple := PySem.W.mg_none_of X G z_tuple
    F6 := F6
    m6 := PySem.W.mg_of X G a6
    b6 := b6
    F7 := F7
    m7 := PySem.W.mg_of X G a7
    b7 := b7
    F8 := F8
    m8 := PySem.W.mg_of X G a8
    b8 := b8
    F9 := F9
    m9 := PySem.W.mg_of X G a9
    b9 := b9
    F10 := F10
    m10 := PySem.W.mg_of X G a10
    b10 := b10
    F11 := F11
    m11 := PySem.W.mg_of X G a11
    b11 := b11
    F13 := F13
    m13 := PySem.W.mg_of X G a13
    b13 := b13
    F14 := F14
    m14 := PySem.W.mg_of X G a14
    b14 := b14
    F15 := F15
    m15 := PySem.W.mg_of X G a15
    b15 := b15
    F16 := F16
    m16 := PySem.W.mg_of X G a16
    b16 := b16
    F17 := F17
    m17 := PySem.W.mg_of X G a17
    b17 := b17
    F18 := F18
    m18 := PySem.W.mg_of X G a18
    b18 := b18
    F19 := F19
    m19 := PySem.W.mg_of X G a19
    b19 := b19
    F21 := F21
    m21 := PySem.W.mg_of X G a21
    b21 := b21
    F22 := F22
    m22 := PySem.W.mg_of X G a22
    b22 := b22
    F23 := F23
    m23 := PySem.W.mg_of X G a23
    b23 := b23
    F24 := F24
    m24 := PySem.W.mg_of X G a24
    b24 := b24
    F25 := F25
    m25 := PySem.W.mg_of X G a25
    b25 := b25
    F26 := F26
    m26 := PySem.W.mg_of X G a26
    b26 := b26
    F27 := F27
    m27 := PySem.W.mg_of X G a27
    b27 := b27
    F28 := F28
    m28 := PySem.W.mg_of X G a28
    b28 := b28
    F29 := F29
    m29 := PySem.W.mg_of X G a29
    b29 := b29
    F30 := F30
    m30 := PySem.W.mg_of X G a30
    b30 := b30
    F31 := F31
    m31 := PySem.W.mg_of X G a31
    b31 := b31
    k_NOUGHT := ⟨_, .ref at_NOUGHT, PySem.W.mg_of X G x_NOUGHT, rfl, fun st B => const_rp y_NOUGHT w_NOUGHT⟩
  }
  exact ⟨PySem.W.fnOf "law" "law" (defArgs (topS 31)) (defBody (topS 31)) (defScope (topS 31)) .none kV31 dc31 pm31 an31 cd31 ct31, fun s v => .of_eq rfl, fun base _ _ => ok_law TT⟩
theorem walk {l : PySem.W.OpenLaw} {q : Program} {loose : List Str} {XP : (Str → Option Value) → Heap → Prop} {YP : World → Heap → Prop} {d : DefRec} {K : Params → PySem.W.Frag} (hf : ∀ ns : List Int, ns.length ≤ 63 → ∃ dr, f_law (drOf ns) = .rt (.bool true) dr) (hn : l.most = some 63) (hdf : d.params.defaults = [])
    (hY : ∀ (w : World) (h : Heap), YP w h → (K w.params).In h)
    (F : ∀ (w : World) (mg : Str → Option Value) (fa : Addr) (h : Heap), (K w.params).In h → h.Ns mainGlobals mg → mg d.name = some (.ref fa) →
      ∃ fd : FuncData, (∀ (s : Shared) (u : Value), BindsTo s fd ⟨[u], []⟩ [("script", u)]) ∧ ∀ base : Heap, (K w.params).In base → base.Ns mainGlobals mg → FnOk l.prog w (K w.params) mg base CX0 7 fa fd ["script"] (spLaw (K w.params) f_law)) :
    PySem.W.WalkO q loose XP YP l.row.toRowW d [] (fun f vs => PySem.call f vs) :=
  L2.walk_of (n := 63) (k := 7) (x := "script") (CX := fun _ => CX0) (sp := fun w => spLaw (K w.params) f_law) hn (by decide) hdf ⟨rfl, by decide, by decide⟩ hY F (fun _ _ a ns hl _ hS => ⟨a, ns, rfl, hS, hl, hf ns hl, fun _ => rfl⟩) fun _ _ _ _ _ z => z
end Wk

open PySem PySem.W PyProof.Rows in
set_option maxHeartbeats 0 in
theorem PySem.Challenge.cw_plaintraining_k02_the_one_rounding_holds : PySem.Challenge.rw_plaintraining_k02_the_one_rounding.Holds := by
  w_on; o_law; k_head; (case hw => w_witness2)
  k_fill
  refine Wk.walk (l := PySem.Challenge.rw_plaintraining_k02_the_one_rounding) Wk.law_true rfl rfl (fun w h Y => PySem.W.kIn_of Y) ?F
  case F =>
    intro w mg fa h KX G hmg
    refine' Wk.all_mk KX G hmg ?a6 ?l6 ?c6 ?k6 ?a7 ?l7 ?c7 ?k7 ?a8 ?l8 ?c8 ?k8 ?a9 ?l9 ?c9 ?k9 ?a10 ?l10 ?c10 ?k10 ?a11 ?l11 ?c11 ?k11 ?a13 ?l13 ?c13 ?k13 ?a14 ?l14 ?c14 ?k14 ?a15 ?l15 ?c15 ?k15 ?a16 ?l16 ?c16 ?k16 ?a17 ?l17 ?c17 ?k17 ?a18 ?l18 ?c18 ?k18 ?a19 ?l19 ?c19 ?k19 ?a21 ?l21 ?c21 ?k21 ?a22 ?l22 ?c22 ?k22 ?a23 ?l23 ?c23 ?k23 ?a24 ?l24 ?c24 ?k24 ?a25 ?l25 ?c25 ?k25 ?a26 ?l26 ?c26 ?k26 ?a27 ?l27 ?c27 ?k27 ?a28 ?l28 ?c28 ?k28 ?a29 ?l29 ?c29 ?k29 ?a30 ?l30 ?c30 ?k30 ?a31 ?l31 ?c31 ?k31 ?z_super ?x_tp ?x_op ?yg1 ?yc1 ?yl1 ?yi1 ?yo1 ?yv1 ?yf1 ?ye1 ?yt1 ?yn1 ?yC1 ?yg2 ?yc2 ?yl2 ?yi2 ?yo2 ?yv2 ?yf2 ?ye2 ?yt2 ?yA2 ?yB2 ?yC2 ?yD2 ?yE2 ?yF2 ?yG2 ?yH2 ?yI2 ?yJ2 ?yK2 ?yL2 ?yM2 ?yN2 ?yP2 ?yQ2 ?yR2 ?yS2 ?yT2 ?yU2 ?yV2 ?yg3 ?yc3 ?yl3 ?yi3 ?yo3 ?yv3 ?yf3 ?ye3 ?yt3 ?yA3 ?yB3 ?yC3 ?yD3 ?yE3 ?yF3 ?yG3 ?yH3 ?yI3 ?yJ3 ?yK3 ?yL3 ?yM3 ?yN3 ?yP3 ?yQ3 ?yR3 ?yS3 ?yT3 ?yU3 ?yV3 ?z_ValueError ?z_abs ?z_all ?z_bool ?z_int ?z_isinstance ?z_len ?z_max ?z_min ?z_range ?z_tuple ?x_NOUGHT ?y_NOUGHT ?w_NOUGHT
    (case a6 => k_is)
    (case l6 => k_is)
    (case c6 => k_is)
    (case k6 => k_is)
    (case a7 => k_is)
    (case l7 => k_is)
    (case c7 => k_is)
    (case k7 => k_is)
    (case a8 => k_is)
    (case l8 => k_is)
    (case c8 => k_is)
    (case k8 => k_is)
    (case a9 => k_is)
    (case l9 => k_is)
    (case c9 => k_is)
    (case k9 => k_is)
    (case a10 => k_is)
    (case l10 => k_is)
    (case c10 => k_is)
    (case k10 => k_is)
    (case a11 => k_is)
    (case l11 => k_is)
    (case c11 => k_is)
    (case k11 => k_is)
    (case a13 => k_is)
    (case l13 => k_is)
    (case c13 => k_is)
    (case k13 => k_is)
    (case a14 => k_is)
    (case l14 => k_is)
    (case c14 => k_is)
    (case k14 => k_is)
    (case a15 => k_is)
    (case l15 => k_is)
    (case c15 => k_is)
    (case k15 => k_is)
    (case a16 => k_is)
    (case l16 => k_is)
    (case c16 => k_is)
    (case k16 => k_is)
    (case a17 => k_is)
    (case l17 => k_is)
    (case c17 => k_is)
    (case k17 => k_is)
    (case a18 => k_is)
    (case l18 => k_is)
    (case c18 => k_is)
    (case k18 => k_is)
    (case a19 => k_is)
    (case l19 => k_is)
    (case c19 => k_is)
    (case k19 => k_is)
    (case a21 => k_is)
    (case l21 => k_is)
    (case c21 => k_is)
    (case k21 => k_is)
    (case a22 => k_is)
    (case l22 => k_is)
    (case c22 => k_is)
    (case k22 => k_is)
    (case a23 => k_is)
    (case l23 => k_is)
    (case c23 => k_is)
    (case k23 => k_is)
    (case a24 => k_is)
    (case l24 => k_is)
    (case c24 => k_is)
    (case k24 => k_is)
    (case a25 => k_is)
    (case l25 => k_is)
    (case c25 => k_is)
    (case k25 => k_is)
    (case a26 => k_is)
    (case l26 => k_is)
    (case c26 => k_is)
    (case k26 => k_is)
    (case a27 => k_is)
    (case l27 => k_is)
    (case c27 => k_is)
    (case k27 => k_is)
    (case a28 => k_is)
    (case l28 => k_is)
    (case c28 => k_is)
    (case k28 => k_is)
    (case a29 => k_is)
    (case l29 => k_is)
    (case c29 => k_is)
    (case k29 => k_is)
    (case a30 => k_is)
    (case l30 => k_is)
    (case c30 => k_is)
    (case k30 => k_is)
    (case a31 => k_is)
    (case l31 => k_is)
    (case c31 => k_is)
    (case k31 => k_is)
    (case z_super => k_is)
    (case x_tp => decide +kernel)
    (case x_op => k_is)
    (case yg1 => k_is)
    (case yc1 => k_is)
    (case yg2 => k_is)
    (case yc2 => k_is)
    (case yg3 => k_is)
    (case yc3 => k_is)
    (case z_ValueError => k_is)
    (case z_abs => k_is)
    (case z_all => k_is)
    (case z_bool => k_is)
    (case z_int => k_is)
    (case z_isinstance => k_is)
    (case z_len => k_is)
    (case z_max => k_is)
    (case z_min => k_is)
    (case z_range => k_is)
    (case z_tuple => k_is)
    (case x_NOUGHT => k_is)
    (case y_NOUGHT => k_is)
    (case w_NOUGHT => decide +kernel)
    (case yE2 => k_is)
    (case yH2 => first | ks_is | k_is)
    (case yE3 => k_is)
    (case yH3 => first | ks_is | k_is)
    (case yl1 => k_is)
    (case yi1 => k_is)
    (case yo1 => k_is)
    (case yv1 => rfl)
    (case yf1 => decide +kernel)
    (case ye1 => k_is)
    (case yt1 => k_is)
    (case yn1 => k_is)
    (case yC1 => k_is)
    (case yl2 => k_is)
    (case yi2 => k_is)
    (case yo2 => k_is)
    (case yv2 => rfl)
    (case yf2 => decide +kernel)
    (case ye2 => k_is)
    (case yt2 => k_is)
    (case yA2 => k_is)
    (case yB2 => k_is)
    (case yC2 => k_is)
    (case yD2 => k_is)
    (case yF2 => k_is)
    (case yG2 => k_is)
    (case yI2 => first | ks_is | k_is)
    (case yJ2 => k_is)
    (case yK2 => k_is)
    (case yL2 => k_is)
    (case yM2 => k_is)
    (case yN2 => k_is)
    (case yP2 => k_is)
    (case yQ2 => k_is)
    (case yR2 => k_is)
    (case yS2 => k_is)
    (case yT2 => k_is)
    (case yU2 => k_is)
    (case yV2 => k_is)
    (case yl3 => k_is)
    (case yi3 => k_is)
    (case yo3 => k_is)
    (case yv3 => rfl)
    (case yf3 => decide +kernel)
    (case ye3 => k_is)
    (case yt3 => k_is)
    (case yA3 => k_is)
    (case yB3 => k_is)
    (case yC3 => k_is)
    (case yD3 => k_is)
    (case yF3 => k_is)
    (case yG3 => k_is)
    (case yI3 => first | ks_is | k_is)
    (case yJ3 => k_is)
    (case yK3 => k_is)
    (case yL3 => k_is)
    (case yM3 => k_is)
    (case yN3 => k_is)
    (case yP3 => k_is)
    (case yQ3 => k_is)
    (case yR3 => k_is)
    (case yS3 => k_is)
    (case yT3 => k_is)
    (case yU3 => k_is)
    (case yV3 => k_is)
#print axioms PySem.Challenge.cw_plaintraining_k02_the_one_rounding_holds
