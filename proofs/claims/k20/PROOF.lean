import PyProof.Rows.All
import Wide.All
import OpenK.AllK
import Wide.FinOn
import HandS.ForMost
import HandS.TupAny
import HandS.Flow
import HandS.Style
import HandS.Wide
import HandS.WideBits
import HandS.IsInst
import HandS.Zip
import HandS.Deep
import KE.KTupSum
import KE.DatumOrd
import HandS.Conv
import HandS.SetFor
import HandS.Strs
import HandS.SortInts
import HandS.SetKeys
import KE.OsSort
import PySem.Challenge.RW_plaintraining_k20_rows_drawn
set_option Elab.async false
set_option linter.all false
set_option autoImplicit false
set_option maxRecDepth 100000
set_option maxHeartbeats 8000000
/-! Mi: a mirror layer. Plain data D; what represents it; judgements that pair a construct with its mirror. -/
namespace Mi
open PySem PySem.Spec PyProof.Rows L2

abbrev D := PyData
abbrev Dr := List Int × Int
abbrev St := L2.St

/-! ### heaps -/
def Ext (H H' : Hp) : Prop := ∀ a o, H a = some o → H' a = some o
theorem Ext.refl (H : Hp) : Ext H H := fun _ _ h => h
theorem Ext.trans {H H1 H2 : Hp} (a : Ext H H1) (b : Ext H1 H2) : Ext H H2 := fun x o h => b x o (a x o h)
theorem Ext.new {H : Hp} {p : Addr} {o : HO} (h : H p = none) : Ext H (upd H p o) := fun a u e => by
  rw [upd_ne (ne_of_none e h)]
  exact e
theorem Ext.rd {H H' : Hp} {a : Addr} {u : HO} (e : Ext H H') (h : Rd H a u) : Rd H' a u := by
  rcases h with h | ⟨o, h⟩
  · exact Or.inl (e a _ h)
  · exact Or.inr ⟨o, e a _ h⟩
theorem Ext.sqt {K : PySem.W.Frag} {H H' : Hp} {a : Addr} {xs : List V} (e : Ext H H') (h : SqT K H a xs) : SqT K H' a xs := by
  rcases h with h | h
  · exact Or.inl (e.rd h)
  · exact Or.inr h
theorem Ext.none {H H' : Hp} {p : Addr} (e : Ext H H') (h : H' p = Option.none) : H p = Option.none := by
  cases h1 : H p with
  | none => rfl
  | some o => rw [e p o h1] at h; cases h

/-! ### what represents plain data -/
structure C where
  st : Option (Addr × Addr)
  H0 : Hp
  B0 : Hp
/-- a tuple's data with ints and texts among its items: what may be a key -/
def mixd (ds : List D) : Bool := (ds.any fun d => match d with | .int _ => true | _ => false) && (ds.any fun d => match d with | .str _ => true | _ => false)
def TupAt (K : PySem.W.Frag) (B : Hp) (a : Addr) (xs : List V) (ds : List D) : Prop := B a = some (.tup xs) ∨ (SqT K B a xs ∧ mixd ds = false)
theorem TupAt.sqt {K : PySem.W.Frag} {B : Hp} {a : Addr} {xs : List V} {ds : List D} (h : TupAt K B a xs ds) : SqT K B a xs := by
  rcases h with h | h
  · exact .inl (.inl h)
  · exact h.1
theorem TupAt.mono {K : PySem.W.Frag} {B B' : Hp} {a : Addr} {xs : List V} {ds : List D} (e : Ext B B') (h : TupAt K B a xs ds) : TupAt K B' a xs ds := by
  rcases h with h | h
  · exact .inl (e _ _ h)
  · exact .inr ⟨e.sqt h.1, h.2⟩
theorem TupAt.new {K : PySem.W.Frag} {B : Hp} {a : Addr} {xs : List V} {ds : List D} (h : B a = some (.tup xs)) : TupAt K B a xs ds := .inl h
/-- a dict's keys as data -/
def kkD : Key → D
  | .inl i => .int i
  | .inr x => .str x
def tkD (k : List Key) : D := .tuple (k.map kkD)
mutual
inductive Rp (K : PySem.W.Frag) (st : Option (Addr × Addr)) (B : Hp) : V → D → Prop
  | non : Rp K st B .non .none
  | bl (b : Bool) : Rp K st B (.bl b) (.bool b)
  | int (i : Int) : Rp K st B (.int i) (.int i)
  | str (x : Str) : Rp K st B (.str x) (.str x)
  | lst {a : Addr} {xs : List V} {ds : List D} : B a = some (.lst xs) → RpA K st B xs ds → Rp K st B (.ref a) (.list ds)
  | tup {a : Addr} {xs : List V} {ds : List D} : TupAt K B a xs ds → RpA K st B xs ds → Rp K st B (.ref a) (.tuple ds)
  | dct {a : Addr} {kvs : List (List Key × V)} {ks : List (D × D)} : B a = some (.dT kvs) → RpK K st B (kvs.map fun p => (tkD p.1, p.2)) ks → Rp K st B (.ref a) (.dict ((.bool true, .none) :: ks))
  | dck {a : Addr} {kvs : List (Key × V)} {ks : List (D × D)} : B a = some (.dK kvs) → RpK K st B (kvs.map fun p => (kkD p.1, p.2)) ks → Rp K st B (.ref a) (.dict ((.bool false, .none) :: ks))
  | stt {a c : Addr} : st = some (a, c) → Rp K st B (.ref a) (.dict [])
inductive RpA (K : PySem.W.Frag) (st : Option (Addr × Addr)) (B : Hp) : List V → List D → Prop
  | nil : RpA K st B [] []
  | cons {v : V} {vs : List V} {d : D} {ds : List D} : Rp K st B v d → RpA K st B vs ds → RpA K st B (v :: vs) (d :: ds)
inductive RpK (K : PySem.W.Frag) (st : Option (Addr × Addr)) (B : Hp) : List (D × V) → List (D × D) → Prop
  | nil : RpK K st B [] []
  | cons {k d : D} {v : V} {us : List (D × V)} {ks : List (D × D)} : Rp K st B v d → RpK K st B us ks → RpK K st B ((k, v) :: us) ((k, d) :: ks)
end
section
variable {K : PySem.W.Frag} {st : Option (Addr × Addr)} {B B' H : Hp}
mutual
theorem Rp.mono (e : Ext B B') : ∀ (d : D) (v : V), Rp K st B v d → Rp K st B' v d
  | .none, _, h => by cases h; exact .non
  | .bool b, _, h => by cases h; exact .bl b
  | .int i, _, h => by cases h; exact .int i
  | .str x, _, h => by cases h; exact .str x
  | .list ds, _, h => by
    cases h with
    | lst hs ha => exact .lst (e _ _ hs) (RpA.mono e ds _ ha)
  | .tuple ds, _, h => by
    cases h with
    | tup hs ha => exact .tup (hs.mono e) (RpA.mono e ds _ ha)
  | .dict _, _, h => by
    cases h with
    | stt h => exact .stt h
    | dct hs hk => exact .dct (e _ _ hs) (RpK.mono e _ _ hk)
    | dck hs hk => exact .dck (e _ _ hs) (RpK.mono e _ _ hk)
termination_by d => sizeOf d
theorem RpA.mono (e : Ext B B') : ∀ (ds : List D) (vs : List V), RpA K st B vs ds → RpA K st B' vs ds
  | [], _, h => by cases h; exact .nil
  | d :: ds, _, h => by
    cases h with
    | cons h1 h2 => exact .cons (Rp.mono e d _ h1) (RpA.mono e ds _ h2)
termination_by ds => sizeOf ds
theorem RpK.mono (e : Ext B B') : ∀ (ks : List (D × D)) (us : List (D × V)), RpK K st B us ks → RpK K st B' us ks
  | [], _, h => by cases h; exact .nil
  | (k, d) :: ks, _, h => by
    cases h with
    | cons h1 h2 => exact .cons (Rp.mono e d _ h1) (RpK.mono e ks _ h2)
termination_by ks => sizeOf ks
end
theorem RpA.length : ∀ {vs : List V} {ds : List D}, RpA K st B vs ds → vs.length = ds.length
  | _, _, .nil => rfl
  | _, _, .cons _ t => by simp [RpA.length t]
theorem RpA.get : ∀ {vs : List V} {ds : List D} {i : Nat} {d : D}, RpA K st B vs ds → ds[i]? = some d → ∃ v, vs[i]? = some v ∧ Rp K st B v d
  | _, _, i, d, .nil, e => by simp at e
  | _, _, 0, d, .cons r _, e => by simp at e; subst e; exact ⟨_, rfl, r⟩
  | _, _, i + 1, d, .cons _ t, e => by
    obtain ⟨v, h1, h2⟩ := RpA.get (i := i) (d := d) t (by simpa using e)
    exact ⟨v, by simpa using h1, h2⟩
theorem RpA.getV : ∀ {vs : List V} {ds : List D} {i : Nat} {v : V}, RpA K st B vs ds → vs[i]? = some v → ∃ d, ds[i]? = some d ∧ Rp K st B v d
  | _, _, i, d, .nil, e => by simp at e
  | _, _, 0, d, .cons r _, e => by simp at e; subst e; exact ⟨_, rfl, r⟩
  | _, _, i + 1, d, .cons _ t, e => by
    obtain ⟨v, h1, h2⟩ := RpA.getV (i := i) (v := d) t (by simpa using e)
    exact ⟨v, by simpa using h1, h2⟩
theorem RpA.append : ∀ {vs us : List V} {ds es : List D}, RpA K st B vs ds → RpA K st B us es → RpA K st B (vs ++ us) (ds ++ es)
  | _, _, _, _, .nil, s => s
  | _, _, _, _, .cons r t, s => .cons r (RpA.append t s)
theorem RpA.take : ∀ {vs : List V} {ds : List D} (n : Nat), RpA K st B vs ds → RpA K st B (vs.take n) (ds.take n)
  | _, _, 0, _ => .nil
  | _, _, _ + 1, .nil => .nil
  | _, _, n + 1, .cons r t => .cons r (RpA.take n t)
theorem RpA.drop : ∀ {vs : List V} {ds : List D} (n : Nat), RpA K st B vs ds → RpA K st B (vs.drop n) (ds.drop n)
  | _, _, 0, r => r
  | _, _, _ + 1, .nil => .nil
  | _, _, n + 1, .cons _ t => RpA.drop n t
theorem RpA.set {v : V} {d : D} (r : Rp K st B v d) : ∀ {vs : List V} {ds : List D} (i : Nat), RpA K st B vs ds → RpA K st B (vs.set i v) (ds.set i d)
  | _, _, _, .nil => .nil
  | _, _, 0, .cons _ t => .cons r t
  | _, _, i + 1, .cons q t => .cons q (RpA.set r i t)
theorem RpA.erase : ∀ {vs : List V} {ds : List D} (i : Nat), RpA K st B vs ds → RpA K st B (vs.eraseIdx i) (ds.eraseIdx i)
  | _, _, _, .nil => .nil
  | _, _, 0, .cons _ t => t
  | _, _, i + 1, .cons q t => .cons q (RpA.erase i t)
theorem RpA.dropLast {vs : List V} {ds : List D} (h : RpA K st B vs ds) : RpA K st B vs.dropLast ds.dropLast := by
  rw [List.dropLast_eq_take, List.dropLast_eq_take, h.length]
  exact h.take _
theorem RpA.reverse : ∀ {vs : List V} {ds : List D}, RpA K st B vs ds → RpA K st B vs.reverse ds.reverse
  | _, _, .nil => .nil
  | _, _, .cons r t => by
    rw [List.reverse_cons, List.reverse_cons]
    exact RpA.append (RpA.reverse t) (.cons r .nil)
theorem RpA.ints : ∀ {vs : List V} {ns : List Int}, RpA K st B vs (ns.map PyData.int) → vs = ns.map V.int
  | _, [], .nil => rfl
  | _, n :: ns, .cons r t => by
    cases r
    rw [RpA.ints t]
    rfl
theorem RpA.ofInts : ∀ ns : List Int, RpA K st B (ns.map V.int) (ns.map PyData.int)
  | [] => .nil
  | n :: ns => .cons (.int n) (RpA.ofInts ns)
theorem RpA.bools : ∀ {vs : List V} {ns : List Bool}, RpA K st B vs (ns.map PyData.bool) → vs = ns.map V.bl
  | _, [], .nil => rfl
  | _, n :: ns, .cons r t => by
    cases r
    rw [RpA.bools t]
    rfl
theorem RpA.strs : ∀ {vs : List V} {ns : List Str}, RpA K st B vs (ns.map PyData.str) → vs = ns.map V.str
  | _, [], .nil => rfl
  | _, n :: ns, .cons r t => by
    cases r
    rw [RpA.strs t]
    rfl
mutual
theorem Rp.dp (e : Ext B H) : ∀ (d : D) (v : V), Rp K st B v d → d.canLay0 = true → Dp K H v d
  | .none, _, h, _ => by cases h; exact .non
  | .bool b, _, h, _ => by cases h; exact .bl b
  | .int i, _, h, _ => by cases h; exact .int i
  | .str x, _, h, _ => by cases h; exact .str x
  | .list ds, _, h, c => by
    cases h with
    | lst hs ha => exact .lst (SqL.of (e _ _ hs)) (RpA.dp e ds _ ha (by simpa [PyData.canLay0] using c))
  | .tuple ds, _, h, c => by
    cases h with
    | tup hs ha => exact .tup (e.sqt hs.sqt) (RpA.dp e ds _ ha (by simpa [PyData.canLay0] using c))
  | .dict _, _, h, c => by simp [PyData.canLay0] at c
theorem RpA.dp (e : Ext B H) : ∀ (ds : List D) (vs : List V), RpA K st B vs ds → PyData.canLayAll0 ds = true → DpAll K H vs ds
  | [], _, h, _ => by cases h; exact .nil
  | d :: ds, _, h, c => by
    have c' : d.canLay0 = true ∧ PyData.canLayAll0 ds = true := by simpa [PyData.canLayAll0] using c
    cases h with
    | cons h1 h2 => exact .cons (Rp.dp e d _ h1 c'.1) (RpA.dp e ds _ h2 c'.2)
end
/-- what holds no reference -/
def flat : D → Bool
  | .none => true
  | .bool _ => true
  | .int _ => true
  | .str _ => true
  | _ => false
theorem Rp.flat_any {B B' : Hp} {d : D} {v : V} (h : Rp K st B v d) (f : flat d = true) : Rp K st B' v d := by
  cases h with
  | non => exact .non
  | bl b => exact .bl b
  | int i => exact .int i
  | str x => exact .str x
  | lst _ _ => cases f
  | tup _ _ => cases f
  | stt _ => cases f
  | dct _ _ => cases f
  | dck _ _ => cases f
mutual
theorem Rp.st_none : ∀ (d : D) (v : V), Rp K none B v d → Rp K st B v d
  | .none, _, h => by cases h; exact .non
  | .bool b, _, h => by cases h; exact .bl b
  | .int i, _, h => by cases h; exact .int i
  | .str x, _, h => by cases h; exact .str x
  | .list ds, _, h => by
    cases h with
    | lst hs ha => exact .lst hs (RpA.st_none ds _ ha)
  | .tuple ds, _, h => by
    cases h with
    | tup hs ha => exact .tup hs (RpA.st_none ds _ ha)
  | .dict _, _, h => by
    cases h with
    | stt h => cases h
    | dct hs hk => exact .dct hs (RpK.st_none _ _ hk)
    | dck hs hk => exact .dck hs (RpK.st_none _ _ hk)
termination_by d => sizeOf d
theorem RpA.st_none : ∀ (ds : List D) (vs : List V), RpA K none B vs ds → RpA K st B vs ds
  | [], _, h => by cases h; exact .nil
  | d :: ds, _, h => by
    cases h with
    | cons h1 h2 => exact .cons (Rp.st_none d _ h1) (RpA.st_none ds _ h2)
termination_by ds => sizeOf ds
theorem RpK.st_none : ∀ (ks : List (D × D)) (us : List (D × V)), RpK K none B us ks → RpK K st B us ks
  | [], _, h => by cases h; exact .nil
  | (k, d) :: ks, _, h => by
    cases h with
    | cons h1 h2 => exact .cons (Rp.st_none d _ h1) (RpK.st_none ks _ h2)
termination_by ks => sizeOf ks
end
theorem RpK.length : ∀ {us : List (D × V)} {ks : List (D × D)}, RpK K st B us ks → us.length = ks.length
  | _, _, .nil => rfl
  | _, _, .cons _ t => by simp [RpK.length t]
end

/-! ### the mirror's state -/
/-- an object of ours: a list; a dict (with tuples or with plain keys) -/
inductive Ob where
  | l (ds : List D)
  | d (tk : Bool) (ks : List (D × D))
def Ob.dat : Ob → D
  | .l ds => .list ds
  | .d tk ks => .dict ((.bool tk, .none) :: ks)
def ObR (K : PySem.W.Frag) (st : Option (Addr × Addr)) (B : Hp) : HO → Ob → Prop
  | .lst vs, .l ds => RpA K st B vs ds
  | .dT kvs, .d true ks => RpK K st B (kvs.map fun p => (tkD p.1, p.2)) ks
  | .dK kvs, .d false ks => RpK K st B (kvs.map fun p => (kkD p.1, p.2)) ks
  | _, _ => False
theorem ObR.mono {K : PySem.W.Frag} {st : Option (Addr × Addr)} {B B' : Hp} (e : Ext B B') {h : HO} {o : Ob} (r : ObR K st B h o) : ObR K st B' h o := by
  unfold ObR at r ⊢
  split at r
  · exact RpA.mono e _ _ r
  · exact RpK.mono e _ _ r
  · exact RpK.mono e _ _ r
  · exact r.elim
theorem ObR.rp {K : PySem.W.Frag} {st : Option (Addr × Addr)} {B : Hp} {h : HO} {o : Ob} {a : Addr} (r : ObR K st B h o) (hb : B a = some h) : Rp K st B (.ref a) o.dat := by
  unfold ObR at r
  split at r
  · exact .lst hb r
  · exact .dct hb r
  · exact .dck hb r
  · exact r.elim
theorem ObR.list {K : PySem.W.Frag} {st : Option (Addr × Addr)} {B : Hp} {h : HO} {ds : List D} (r : ObR K st B h (.l ds)) : ∃ vs, h = .lst vs ∧ RpA K st B vs ds := by
  unfold ObR at r
  split at r
  · rename_i e; cases e; exact ⟨_, rfl, r⟩
  · rename_i e; cases e
  · rename_i e; cases e
  · exact r.elim
inductive Sl where
  | un
  | val (d : D)
  | ow (o : Ob)
abbrev Sl.own (ds : List D) : Sl := .ow (.l ds)
structure MS where
  sl : List Sl
  dr : Dr
abbrev M (α : Type) := MS → Option (α × MS)

def SlOk (K : PySem.W.Frag) (c : C) (B : Hp) (σ : St) (H : Hp) (i : Nat) : Sl → Prop
  | .un => True
  | .val d => ∃ v, σ[i]? = some (some v) ∧ Rp K c.st B v d
  | .ow o => ∃ p h, σ[i]? = some (some (.ref p)) ∧ H p = some h ∧ B p = none ∧ c.H0 p = none ∧ ObR K c.st B h o
def DrOk (c : C) (B H : Hp) (dr : Dr) : Prop := ∀ x y, c.st = some (x, y) → x ≠ y ∧ H x = some (.lst [.ref y, .int dr.2]) ∧ H y = some (.lst (dr.1.map .int)) ∧ B x = none ∧ B y = none ∧ c.H0 x ≠ none ∧ c.H0 y ≠ none
def IsSt (c : C) (a : Addr) : Prop := ∃ x y, c.st = some (x, y) ∧ (a = x ∨ a = y)
structure Rel0 (c : C) (B H : Hp) (dr : Dr) : Prop where
  ext : Ext B H
  dr : DrOk c B H dr
  fr : ∀ a o, c.H0 a = some o → ¬ IsSt c a → H a = some o
  nw : ∀ a o, B a = some o → c.B0 a = some o ∨ c.H0 a = none
  b0 : Ext c.B0 B
structure Rel (K : PySem.W.Frag) (c : C) (B : Hp) (σ : St) (H : Hp) (μ : MS) : Prop where
  r0 : Rel0 c B H μ.dr
  len : σ.length = μ.sl.length
  sl : ∀ (i : Nat) (s : Sl), μ.sl[i]? = some s → SlOk K c B σ H i s
  sep : ∀ (i j : Nat) (di dj : Ob), i ≠ j → μ.sl[i]? = some (.ow di) → μ.sl[j]? = some (.ow dj) → σ[i]? ≠ σ[j]?

theorem IsSt.some {c : C} {B H : Hp} {dr : Dr} {a : Addr} (h : DrOk c B H dr) (s : IsSt c a) : (∃ o, H a = some o) ∧ B a = none ∧ c.H0 a ≠ none := by
  obtain ⟨x, y, e, s⟩ := s
  obtain ⟨_, h1, h2, h3, h4, h5, h6⟩ := h x y e
  rcases s with rfl | rfl
  · exact ⟨⟨_, h1⟩, h3, h5⟩
  · exact ⟨⟨_, h2⟩, h4, h6⟩
/-- fresh now: fresh at the entry -/
theorem Rel0.fresh {c : C} {B H : Hp} {dr : Dr} (r : Rel0 c B H dr) {p : Addr} (h : H p = none) : c.H0 p = none ∧ B p = none := by
  refine ⟨?_, r.ext.none h⟩
  cases q : c.H0 p with
  | none => rfl
  | some o =>
    by_cases s : IsSt c p
    · obtain ⟨⟨o', e⟩, _⟩ := s.some r.dr
      rw [h] at e; cases e
    · rw [r.fr p o q s] at h; cases h
/-- a new object, known from now on -/
theorem Rel0.know {c : C} {B H : Hp} {dr : Dr} (r : Rel0 c B H dr) {p : Addr} {o : HO} (h : H p = none) : Rel0 c (upd B p o) (upd H p o) dr := by
  obtain ⟨h0, hb⟩ := r.fresh h
  refine ⟨fun a u e => ?_, fun x y e => ?_, fun a u e s => ?_, fun a u e => ?_, r.b0.trans (Ext.new hb)⟩
  · by_cases ha : a = p
    · subst ha; rw [upd_same] at e ⊢; exact e
    · rw [upd_ne ha] at e ⊢; exact r.ext a u e
  · obtain ⟨h1, h2, h3, h4, h5, h6, h7⟩ := r.dr x y e
    have nx : x ≠ p := fun q => by subst q; exact h6 h0
    have ny : y ≠ p := fun q => by subst q; exact h7 h0
    rw [upd_ne nx, upd_ne ny, upd_ne nx, upd_ne ny]
    exact ⟨h1, h2, h3, h4, h5, h6, h7⟩
  · rw [upd_ne (ne_of_none e h0)]
    exact r.fr a u e s
  · by_cases ha : a = p
    · subst ha; exact .inr h0
    · rw [upd_ne ha] at e; exact r.nw a u e
/-- a new object, or a change of one that is neither known nor stood at the entry -/
theorem Rel0.hide {c : C} {B H : Hp} {dr : Dr} (r : Rel0 c B H dr) {p : Addr} {o : HO} (h0 : c.H0 p = none) (hb : B p = none) : Rel0 c B (upd H p o) dr := by
  refine ⟨fun a u e => ?_, fun x y e => ?_, fun a u e s => ?_, r.nw, r.b0⟩
  · rw [upd_ne (ne_of_none e hb)]; exact r.ext a u e
  · obtain ⟨h1, h2, h3, h4, h5, h6, h7⟩ := r.dr x y e
    have nx : x ≠ p := fun q => by subst q; exact h6 h0
    have ny : y ≠ p := fun q => by subst q; exact h7 h0
    rw [upd_ne nx, upd_ne ny]
    exact ⟨h1, h2, h3, h4, h5, h6, h7⟩
  · rw [upd_ne (ne_of_none e h0)]
    exact r.fr a u e s
/-- an object of ours that is no more changed is known from now on -/
theorem Rel0.freeze {c : C} {B H : Hp} {dr : Dr} (r : Rel0 c B H dr) {p : Addr} {o : HO} (h : H p = some o) (h0 : c.H0 p = none) (hb : B p = none) : Rel0 c (upd B p o) H dr := by
  refine ⟨fun a u e => ?_, fun x y e => ?_, r.fr, fun a u e => ?_, r.b0.trans (Ext.new hb)⟩
  · by_cases ha : a = p
    · subst ha; rw [upd_same] at e; rw [← e]; exact h
    · rw [upd_ne ha] at e; exact r.ext a u e
  · obtain ⟨h1, h2, h3, h4, h5, h6, h7⟩ := r.dr x y e
    have nx : x ≠ p := fun q => by subst q; exact h6 h0
    have ny : y ≠ p := fun q => by subst q; exact h7 h0
    rw [upd_ne nx, upd_ne ny]
    exact ⟨h1, h2, h3, h4, h5, h6, h7⟩
  · by_cases ha : a = p
    · subst ha; exact .inr h0
    · rw [upd_ne ha] at e; exact r.nw a u e

section
variable {K : PySem.W.Frag} {c : C} {B B' H H' : Hp} {σ : St} {μ : MS}
/-- the slots under a new base, where lists of ours stand as they stood -/
theorem Rel.move {dr : Dr} (r : Rel K c B σ H μ) (r0 : Rel0 c B' H' dr) (e : Ext B B')
    (own : ∀ (i : Nat) (ds : Ob) (p : Addr), μ.sl[i]? = some (.ow ds) → σ[i]? = some (some (.ref p)) → H' p = H p ∧ B' p = none) : Rel K c B' σ H' { μ with dr := dr } := by
  refine ⟨r0, r.len, fun i s hs => ?_, r.sep⟩
  have h := r.sl i s hs
  cases s with
  | un => trivial
  | val d =>
    obtain ⟨v, h1, h2⟩ := h
    exact ⟨v, h1, h2.mono e⟩
  | ow ds =>
    obtain ⟨p, vs, h1, h2, h3, h4, h5⟩ := h
    obtain ⟨o1, o2⟩ := own i ds p hs h1
    exact ⟨p, vs, h1, by rw [o1]; exact h2, o2, h4, h5.mono e⟩
theorem Rel.owAt (r : Rel K c B σ H μ) {i : Nat} {o : Ob} (h : μ.sl[i]? = some (.ow o)) : ∃ p h, σ[i]? = some (some (.ref p)) ∧ H p = some h ∧ B p = none ∧ c.H0 p = none ∧ ObR K c.st B h o := r.sl i _ h
theorem Rel.ownAt (r : Rel K c B σ H μ) {i : Nat} {ds : List D} (h : μ.sl[i]? = some (.own ds)) : ∃ p vs, σ[i]? = some (some (.ref p)) ∧ H p = some (.lst vs) ∧ B p = none ∧ c.H0 p = none ∧ RpA K c.st B vs ds := by
  obtain ⟨p, ho, h1, h2, h3, h4, h5⟩ := r.owAt h
  obtain ⟨vs, rfl, h6⟩ := h5.list
  exact ⟨p, vs, h1, h2, h3, h4, h6⟩
theorem Rel.valAt (r : Rel K c B σ H μ) {i : Nat} {d : D} (h : μ.sl[i]? = some (.val d)) : ∃ v, σ[i]? = some (some v) ∧ Rp K c.st B v d := r.sl i _ h
/-- a new object, known from now on -/
theorem Rel.know (r : Rel K c B σ H μ) {p : Addr} {o : HO} (h : H p = none) : Rel K c (upd B p o) σ (upd H p o) μ := by
  obtain ⟨h0, hb⟩ := r.r0.fresh h
  refine r.move (dr := μ.dr) (r.r0.know h) (Ext.new hb) fun i ds q h1 h2 => ?_
  obtain ⟨q', vs, e1, e2, e3, e4, e5⟩ := r.owAt h1
  rw [h2] at e1; cases e1
  have nq : q ≠ p := ne_of_none e2 h
  rw [upd_ne nq, upd_ne nq]
  exact ⟨rfl, e3⟩
/-- a new object that nobody knows -/
theorem Rel.hide (r : Rel K c B σ H μ) {p : Addr} {o : HO} (h : H p = none) : Rel K c B σ (upd H p o) μ := by
  obtain ⟨h0, hb⟩ := r.r0.fresh h
  refine r.move (dr := μ.dr) (r.r0.hide h0 hb) (Ext.refl _) fun i ds q h1 h2 => ?_
  obtain ⟨q', vs, e1, e2, e3, e4, e5⟩ := r.owAt h1
  rw [h2] at e1; cases e1
  rw [upd_ne (ne_of_none e2 h)]
  exact ⟨rfl, e3⟩
/-- an address that no slot of ours owns -/
def NoOwn (σ : St) (μ : MS) (p : Addr) : Prop := ∀ (i : Nat) (ds : Ob), μ.sl[i]? = some (.ow ds) → σ[i]? ≠ some (some (.ref p))
theorem Rel.noOwn (r : Rel K c B σ H μ) {p : Addr} (h : H p = none) : NoOwn σ μ p := fun i ds h1 h2 => by
  obtain ⟨q', vs, e1, e2, e3, e4, e5⟩ := r.owAt h1
  rw [h2] at e1; cases e1
  rw [h] at e2; cases e2
/-- a list that nobody owns changes -/
theorem Rel.chg (r : Rel K c B σ H μ) {p : Addr} {o : HO} (h0 : c.H0 p = none) (hb : B p = none) (n : NoOwn σ μ p) : Rel K c B σ (upd H p o) μ := by
  refine r.move (dr := μ.dr) (r.r0.hide h0 hb) (Ext.refl _) fun i ds q h1 h2 => ?_
  obtain ⟨q', vs, e1, e2, e3, e4, e5⟩ := r.owAt h1
  rw [h2] at e1; cases e1
  have nq : q ≠ p := fun z => by subst z; exact n i ds h1 h2
  rw [upd_ne nq]
  exact ⟨rfl, e3⟩
/-- .. is known from now on -/
theorem Rel.freeze (r : Rel K c B σ H μ) {p : Addr} {o : HO} (h : H p = some o) (h0 : c.H0 p = none) (hb : B p = none) (n : NoOwn σ μ p) : Rel K c (upd B p o) σ H μ := by
  refine r.move (dr := μ.dr) (r.r0.freeze h h0 hb) (Ext.new hb) fun i ds q h1 h2 => ?_
  obtain ⟨q', vs, e1, e2, e3, e4, e5⟩ := r.owAt h1
  rw [h2] at e1; cases e1
  have nq : q ≠ p := fun z => by subst z; exact n i ds h1 h2
  rw [upd_ne nq]
  exact ⟨rfl, e3⟩
def setS (μ : MS) (i : Nat) (s : Sl) : MS := { μ with sl := μ.sl.set i s }
/-- a slot is set -/
theorem Rel.put (r : Rel K c B σ H μ) {i : Nat} {v : Option V} {s : Sl} (h : i < μ.sl.length → SlOk K c B (σ.set i v) H i s)
    (hs : ∀ (ds : Ob) (j : Nat) (dj : Ob), s = .ow ds → j ≠ i → μ.sl[j]? = some (.ow dj) → σ[j]? ≠ some v) : Rel K c B (σ.set i v) H (setS μ i s) := by
  refine ⟨r.r0, by simp [setS, r.len], fun j t hj => ?_, fun j k dj dk njk hj hk => ?_⟩
  · by_cases hji : j = i
    · subst hji
      have hl : j < μ.sl.length := by
        have := (List.getElem?_eq_some_iff.mp hj).1
        simpa [setS] using this
      rw [show (setS μ j s).sl = μ.sl.set j s from rfl, List.getElem?_set_self hl] at hj
      cases hj
      exact h hl
    · rw [show (setS μ i s).sl = μ.sl.set i s from rfl, List.getElem?_set_ne (Ne.symm hji)] at hj
      have q := r.sl j t hj
      cases t with
      | un => trivial
      | val d =>
        obtain ⟨v', h1, h2⟩ := q
        exact ⟨v', by rw [List.getElem?_set_ne (Ne.symm hji)]; exact h1, h2⟩
      | ow ds =>
        obtain ⟨p, vs, h1, h2⟩ := q
        exact ⟨p, vs, by rw [List.getElem?_set_ne (Ne.symm hji)]; exact h1, h2⟩
  · by_cases hji : j = i
    · subst hji
      have hl : j < μ.sl.length := by
        have := (List.getElem?_eq_some_iff.mp hj).1
        simpa [setS] using this
      rw [show (setS μ j s).sl = μ.sl.set j s from rfl] at hj hk
      rw [List.getElem?_set_self hl] at hj
      rw [List.getElem?_set_ne njk] at hk
      cases hj
      rw [List.getElem?_set_self (by rw [r.len]; exact hl), List.getElem?_set_ne njk]
      exact (hs dj k dk rfl (Ne.symm njk) hk).symm
    · by_cases hki : k = i
      · subst hki
        have hl : k < μ.sl.length := by
          have := (List.getElem?_eq_some_iff.mp hk).1
          simpa [setS] using this
        rw [show (setS μ k s).sl = μ.sl.set k s from rfl] at hj hk
        rw [List.getElem?_set_self hl] at hk
        rw [List.getElem?_set_ne (Ne.symm njk)] at hj
        cases hk
        rw [List.getElem?_set_self (l := σ) (by rw [r.len]; exact hl), List.getElem?_set_ne (Ne.symm njk)]
        exact hs dk j dj rfl njk hj
      · rw [show (setS μ i s).sl = μ.sl.set i s from rfl] at hj hk
        rw [List.getElem?_set_ne (Ne.symm hji)] at hj
        rw [List.getElem?_set_ne (Ne.symm hki)] at hk
        rw [List.getElem?_set_ne (Ne.symm hji), List.getElem?_set_ne (Ne.symm hki)]
        exact r.sep j k dj dk njk hj hk
theorem Rel.putV (r : Rel K c B σ H μ) {i : Nat} {v : V} {d : D} (h : Rp K c.st B v d) : Rel K c B (σ.set i (some v)) H (setS μ i (.val d)) :=
  r.put (fun hl => ⟨v, by rw [List.getElem?_set_self (by rw [r.len]; exact hl)], h⟩) fun _ _ _ e => by cases e
theorem Rel.putOw (r : Rel K c B σ H μ) {i : Nat} {p : Addr} {h : HO} {o : Ob} (hh : H p = some h) (hb : B p = none) (h0 : c.H0 p = none) (ha : ObR K c.st B h o) (n : NoOwn σ μ p) :
    Rel K c B (σ.set i (some (.ref p))) H (setS μ i (.ow o)) :=
  r.put (fun hl => ⟨p, h, by rw [List.getElem?_set_self (by rw [r.len]; exact hl)], hh, hb, h0, ha⟩) fun _ j dj _ _ hj => n j dj hj
theorem Rel.putO (r : Rel K c B σ H μ) {i : Nat} {p : Addr} {vs : List V} {ds : List D} (h : H p = some (.lst vs)) (hb : B p = none) (h0 : c.H0 p = none) (ha : RpA K c.st B vs ds) (n : NoOwn σ μ p) :
    Rel K c B (σ.set i (some (.ref p))) H (setS μ i (.own ds)) := r.putOw h hb h0 (o := .l ds) ha n
/-- a slot's word alone changes (its value stays) -/
theorem Rel.same (r : Rel K c B σ H μ) {i : Nat} {s : Sl} (h : i < μ.sl.length → SlOk K c B σ H i s) (hs : ∀ ds, s ≠ .ow ds) : Rel K c B σ H (setS μ i s) := by
  refine ⟨r.r0, by simp [setS, r.len], fun j t hj => ?_, fun j k dj dk njk hj hk => ?_⟩
  · by_cases hji : j = i
    · subst hji
      have hl : j < μ.sl.length := by
        have := (List.getElem?_eq_some_iff.mp hj).1
        simpa [setS] using this
      rw [show (setS μ j s).sl = μ.sl.set j s from rfl, List.getElem?_set_self hl] at hj
      cases hj
      exact h hl
    · rw [show (setS μ i s).sl = μ.sl.set i s from rfl, List.getElem?_set_ne (Ne.symm hji)] at hj
      exact r.sl j t hj
  · have aux : ∀ (j : Nat) (dj : Ob), (setS μ i s).sl[j]? = some (.ow dj) → μ.sl[j]? = some (.ow dj) := fun j dj hj => by
      by_cases hji : j = i
      · subst hji
        have hl : j < μ.sl.length := by
          have := (List.getElem?_eq_some_iff.mp hj).1
          simpa [setS] using this
        rw [show (setS μ j s).sl = μ.sl.set j s from rfl, List.getElem?_set_self hl] at hj
        cases hj
        exact (hs dj rfl).elim
      · rw [show (setS μ i s).sl = μ.sl.set i s from rfl, List.getElem?_set_ne (Ne.symm hji)] at hj
        exact hj
    exact r.sep j k dj dk njk (aux j dj hj) (aux k dk hk)
/-- a list of ours in a slot changes -/
theorem Rel.owSet (r : Rel K c B σ H μ) {i : Nat} {ds ds' : Ob} {p : Addr} {vs' : HO} (h : μ.sl[i]? = some (.ow ds)) (hp : σ[i]? = some (some (.ref p))) (ha : ObR K c.st B vs' ds') :
    Rel K c B σ (upd H p vs') (setS μ i (.ow ds')) := by
  obtain ⟨q, vs, e1, e2, e3, e4, e5⟩ := r.owAt h
  rw [hp] at e1; cases e1
  have hl : i < μ.sl.length := (List.getElem?_eq_some_iff.mp h).1
  refine ⟨r.r0.hide e4 e3, by simp [setS, r.len], fun j t hj => ?_, fun j k dj dk njk hj hk => ?_⟩
  · by_cases hji : j = i
    · subst hji
      rw [show (setS μ j (.ow ds')).sl = μ.sl.set j (.ow ds') from rfl, List.getElem?_set_self hl] at hj
      cases hj
      exact ⟨p, vs', hp, upd_same, e3, e4, ha⟩
    · rw [show (setS μ i (.ow ds')).sl = μ.sl.set i (.ow ds') from rfl, List.getElem?_set_ne (Ne.symm hji)] at hj
      have q := r.sl j t hj
      cases t with
      | un => trivial
      | val d => exact q
      | ow dj =>
        obtain ⟨p', vs2, h1, h2, h3, h4, h5⟩ := q
        have np : p' ≠ p := fun z => by
          subst z
          exact r.sep j i dj ds hji hj h (h1.trans hp.symm)
        exact ⟨p', vs2, h1, by rw [upd_ne np]; exact h2, h3, h4, h5⟩
  · have aux : ∀ (j : Nat) (dj : Ob), (setS μ i (.ow ds')).sl[j]? = some (.ow dj) → ∃ dj', μ.sl[j]? = some (.ow dj') := fun j dj hj => by
      by_cases hji : j = i
      · subst hji; exact ⟨_, h⟩
      · rw [show (setS μ i (.ow ds')).sl = μ.sl.set i (.ow ds') from rfl, List.getElem?_set_ne (Ne.symm hji)] at hj
        exact ⟨_, hj⟩
    obtain ⟨dj', hj'⟩ := aux j dj hj
    obtain ⟨dk', hk'⟩ := aux k dk hk
    exact r.sep j k dj' dk' njk hj' hk'
theorem Rel.ownSet (r : Rel K c B σ H μ) {i : Nat} {ds ds' : List D} {p : Addr} {vs' : List V} (h : μ.sl[i]? = some (.own ds)) (hp : σ[i]? = some (some (.ref p))) (ha : RpA K c.st B vs' ds') :
    Rel K c B σ (upd H p (.lst vs')) (setS μ i (.own ds')) := r.owSet (ds' := .l ds') (vs' := .lst vs') h hp ha
/-- a list of ours in a slot is given away as a value -/
theorem Rel.owVal (r : Rel K c B σ H μ) {i : Nat} {ds : Ob} (h : μ.sl[i]? = some (.ow ds)) :
    ∃ p vs, σ[i]? = some (some (.ref p)) ∧ H p = some vs ∧ B p = none ∧ Ext B (upd B p vs) ∧ Rp K c.st (upd B p vs) (.ref p) ds.dat ∧ Rel K c (upd B p vs) σ H (setS μ i (.val ds.dat)) := by
  obtain ⟨p, vs, e1, e2, e3, e4, e5⟩ := r.owAt h
  have ex : Ext B (upd B p vs) := Ext.new e3
  have rp : Rp K c.st (upd B p vs) (.ref p) ds.dat := (e5.mono ex).rp upd_same
  refine ⟨p, vs, e1, e2, e3, ex, rp, ?_⟩
  have r1 : Rel K c B σ H (setS μ i .un) := r.same (fun _ => trivial) fun _ z => by cases z
  have n1 : NoOwn σ (setS μ i .un) p := fun j dj hj hs => by
    by_cases hji : j = i
    · subst hji
      have hl : j < μ.sl.length := (List.getElem?_eq_some_iff.mp h).1
      rw [show (setS μ j .un).sl = μ.sl.set j .un from rfl, List.getElem?_set_self hl] at hj
      cases hj
    · rw [show (setS μ i .un).sl = μ.sl.set i .un from rfl, List.getElem?_set_ne (Ne.symm hji)] at hj
      exact r.sep j i dj ds hji hj h (hs.trans e1.symm)
  have r2 := r1.freeze e2 e4 e3 n1
  have r3 := r2.same (i := i) (s := .val ds.dat) (fun _ => ⟨_, e1, rp⟩) (fun _ z => by cases z)
  have eq : setS (setS μ i .un) i (.val ds.dat) = setS μ i (.val ds.dat) := by
    unfold setS
    simp
  rw [eq] at r3
  exact r3
theorem Rel.ownVal (r : Rel K c B σ H μ) {i : Nat} {ds : List D} (h : μ.sl[i]? = some (.own ds)) :
    ∃ p vs, σ[i]? = some (some (.ref p)) ∧ H p = some (.lst vs) ∧ B p = none ∧ Ext B (upd B p (.lst vs)) ∧ Rp K c.st (upd B p (.lst vs)) (.ref p) (.list ds) ∧ Rel K c (upd B p (.lst vs)) σ H (setS μ i (.val (.list ds))) := by
  obtain ⟨p, ho, h1, h2, h3, h4, h5, h6⟩ := r.owVal h
  obtain ⟨p', vs, e1, e2, _⟩ := r.ownAt h
  rw [h1] at e1
  cases e1
  rw [h2] at e2
  cases e2
  exact ⟨p, vs, h1, h2, h3, h4, h5, h6⟩
end
end Mi
/-! Mi, second part: operands, expressions, tests. -/
namespace Mi
open PySem PySem.Spec PyProof.Rows L2

/-! ### what is wanted behind -/
def Post (K : PySem.W.Frag) (c : C) (B : Hp) (σ : St) (μ' : MS) (d : D) (Q : VK) : Prop := ∀ B' H' v, Ext B B' → Rel K c B' σ H' μ' → Rp K c.st B' v d → Q v H'
section
variable {K : PySem.W.Frag} {c : C} {B B1 H : Hp} {σ : St} {μ : MS} {d : D} {Q : VK}
theorem Post.go {v : V} (k : Post K c B σ μ d Q) (r : Rel K c B σ H μ) (h : Rp K c.st B v d) : Q v H := k B H v (Ext.refl _) r h
theorem Post.ext (k : Post K c B σ μ d Q) (e : Ext B B1) : Post K c B1 σ μ d Q := fun B' H' v a => k B' H' v (e.trans a)
theorem Post.tup {vs : List V} {ds : List D} (k : Post K c B σ μ (.tuple ds) Q) (r : Rel K c B σ H μ) (h : RpA K c.st B vs ds) {p : Addr} (hp : H p = none) : Q (.ref p) (upd H p (.tup vs)) := by
  have e : Ext B (upd B p (.tup vs)) := Ext.new (r.r0.fresh hp).2
  exact k _ _ _ e (r.know hp) (.tup (.inl upd_same) (h.mono e))
theorem Post.lst {vs : List V} {ds : List D} (k : Post K c B σ μ (.list ds) Q) (r : Rel K c B σ H μ) (h : RpA K c.st B vs ds) {p : Addr} (hp : H p = none) : Q (.ref p) (upd H p (.lst vs)) := by
  have e : Ext B (upd B p (.lst vs)) := Ext.new (r.r0.fresh hp).2
  exact k _ _ _ e (r.know hp) (.lst upd_same (h.mono e))
end

/-! ### a look at a value: known, or a list of ours as it stands -/
def Lk (K : PySem.W.Frag) (st : Option (Addr × Addr)) (B H : Hp) (v : V) (d : D) : Prop := Rp K st B v d ∨ (∃ p vs ds, v = .ref p ∧ d = .list ds ∧ H p = some (.lst vs) ∧ RpA K st B vs ds) ∨ ∃ p h tk ks, v = .ref p ∧ d = .dict ((.bool tk, .none) :: ks) ∧ H p = some h ∧ ObR K st B h (.d tk ks)
section
variable {K : PySem.W.Frag} {st : Option (Addr × Addr)} {B H : Hp} {x : V}
theorem Lk.int {i : Int} (h : Lk K st B H x (.int i)) : x = .int i := by
  rcases h with h | ⟨_, _, _, _, e, _⟩ | ⟨_, _, _, _, _, e, _⟩
  · cases h; rfl
  · cases e
  · cases e
theorem Lk.str {i : Str} (h : Lk K st B H x (.str i)) : x = .str i := by
  rcases h with h | ⟨_, _, _, _, e, _⟩ | ⟨_, _, _, _, _, e, _⟩
  · cases h; rfl
  · cases e
  · cases e
theorem Lk.bool {i : Bool} (h : Lk K st B H x (.bool i)) : x = .bl i := by
  rcases h with h | ⟨_, _, _, _, e, _⟩ | ⟨_, _, _, _, _, e, _⟩
  · cases h; rfl
  · cases e
  · cases e
theorem Lk.none (h : Lk K st B H x .none) : x = .non := by
  rcases h with h | ⟨_, _, _, _, e, _⟩ | ⟨_, _, _, _, _, e, _⟩
  · cases h; rfl
  · cases e
  · cases e
theorem Lk.list {ds : List D} (h : Lk K st B H x (.list ds)) (e : Ext B H) : ∃ p vs, x = .ref p ∧ H p = some (.lst vs) ∧ RpA K st B vs ds := by
  rcases h with h | ⟨p, vs, ds', e1, e2, e3, e4⟩ | ⟨p, vs, ds', _, e1, e2, _⟩
  · cases h with
    | lst h1 h2 => exact ⟨_, _, rfl, e _ _ h1, h2⟩
  · cases e2; exact ⟨p, vs, e1, e3, e4⟩
  · cases e2
theorem Lk.dict {tk : Bool} {ks : List (D × D)} (h : Lk K st B H x (.dict ((.bool tk, .none) :: ks))) (e : Ext B H) : ∃ p ho, x = .ref p ∧ H p = some ho ∧ ObR K st B ho (.d tk ks) := by
  rcases h with h | ⟨p, vs, ds', e1, e2, e3, e4⟩ | ⟨p, ho, tk', ks', e1, e2, e3, e4⟩
  · cases h with
    | dct h1 h2 => exact ⟨_, _, rfl, e _ _ h1, h2⟩
    | dck h1 h2 => exact ⟨_, _, rfl, e _ _ h1, h2⟩
  · cases e2
  · cases e2; exact ⟨p, ho, e1, e3, e4⟩
theorem Lk.tuple {ds : List D} (h : Lk K st B H x (.tuple ds)) (e : Ext B H) : ∃ p vs, x = .ref p ∧ SqT K H p vs ∧ TupAt K B p vs ds ∧ RpA K st B vs ds := by
  rcases h with h | ⟨p, vs, ds', e1, e2, e3, e4⟩ | ⟨p, vs, ds', _, e1, e2, _⟩
  · cases h with
    | tup h1 h2 => exact ⟨_, _, rfl, e.sqt h1.sqt, h1, h2⟩
  · cases e2
  · cases e2
theorem Lk.dp {d : D} (h : Lk K st B H x d) (e : Ext B H) (cl : d.canLay0 = true) : Dp K H x d := by
  rcases h with h | ⟨p, vs, ds, rfl, rfl, e3, e4⟩ | ⟨p, h, tk, ks, rfl, rfl, _⟩
  · exact h.dp e d x cl
  · exact .lst (SqL.of e3) (RpA.dp e ds vs e4 (by simpa [PyData.canLay0] using cl))
  · simp [PyData.canLay0] at cl
theorem Lk.of {d : D} (h : Rp K st B x d) : Lk K st B H x d := .inl h
end

/-! ### operands: a value, or a name's slot (read when the operation is done) -/
inductive O where
  | v (d : D)
  | s (i : Nat)
def look : O → MS → Option D
  | .v d, _ => some d
  | .s i, μ => match μ.sl[i]? with
    | some (.val d) => some d
    | some (.ow o) => some o.dat
    | _ => none
def OR (K : PySem.W.Frag) (st : Option (Addr × Addr)) (B : Hp) (σ : St) (v : V) : O → Prop
  | .v d => Rp K st B v d
  | .s i => σ[i]? = some (some v)
inductive ORA (K : PySem.W.Frag) (st : Option (Addr × Addr)) (B : Hp) (σ : St) : List V → List O → Prop
  | nil : ORA K st B σ [] []
  | cons {v : V} {vs : List V} {o : O} {os : List O} : OR K st B σ v o → ORA K st B σ vs os → ORA K st B σ (v :: vs) (o :: os)
inductive LkA (K : PySem.W.Frag) (st : Option (Addr × Addr)) (B H : Hp) : List V → List D → Prop
  | nil : LkA K st B H [] []
  | cons {v : V} {vs : List V} {d : D} {ds : List D} : Lk K st B H v d → LkA K st B H vs ds → LkA K st B H (v :: vs) (d :: ds)
def looks : List O → MS → Option (List D)
  | [], _ => some []
  | o :: os, μ => (look o μ).bind fun d => (looks os μ).bind fun ds => some (d :: ds)
section
variable {K : PySem.W.Frag} {c : C} {B B' H : Hp} {σ : St} {μ : MS}
theorem OR.mono {st : Option (Addr × Addr)} {v : V} {o : O} (e : Ext B B') (h : OR K st B σ v o) : OR K st B' σ v o := by
  cases o with
  | v d => exact Rp.mono e d v h
  | s i => exact h
theorem ORA.mono {st : Option (Addr × Addr)} (e : Ext B B') : ∀ {vs : List V} {os : List O}, ORA K st B σ vs os → ORA K st B' σ vs os
  | _, _, .nil => .nil
  | _, _, .cons h t => .cons (h.mono e) (ORA.mono e t)
theorem look_ok (r : Rel K c B σ H μ) {v : V} {o : O} {d : D} (h : OR K c.st B σ v o) (e : look o μ = some d) : Lk K c.st B H v d := by
  cases o with
  | v d' => cases e; exact .inl h
  | s i =>
    have h' : σ[i]? = some (some v) := h
    simp only [look] at e
    split at e
    · rename_i d' hs
      cases e
      obtain ⟨v', e1, e2⟩ := r.valAt hs
      rw [h'] at e1; cases e1
      exact .inl e2
    · rename_i ds hs
      cases e
      obtain ⟨p, ho, e1, e2, e3, e4, e5⟩ := r.owAt hs
      rw [h'] at e1; cases e1
      cases ds with
      | l ds =>
        obtain ⟨vs, rfl, e6⟩ := e5.list
        exact .inr (.inl ⟨p, vs, ds, rfl, rfl, e2, e6⟩)
      | d tk ks => exact .inr (.inr ⟨p, ho, tk, ks, rfl, rfl, e2, e5⟩)
    · cases e
theorem looks_ok (r : Rel K c B σ H μ) : ∀ {vs : List V} {os : List O} {ds : List D}, ORA K c.st B σ vs os → looks os μ = some ds → LkA K c.st B H vs ds
  | _, _, _, .nil, e => by cases e; exact .nil
  | _, _, _, .cons (o := o) (os := os) h t, e => by
    unfold looks at e
    cases h1 : look o μ with
    | none => rw [h1] at e; cases e
    | some d =>
      cases h2 : looks os μ with
      | none => rw [h1, h2] at e; cases e
      | some ds =>
        rw [h1, h2] at e; cases e
        exact .cons (look_ok r h h1) (looks_ok r t h2)
end

/-! ### the judgements -/
def OkE (K : PySem.W.Frag) (t : TE) (m : M D) : Prop := ∀ (c : C) (B : Hp) (σ : St) (H : Hp) (μ : MS) (d : D) (μ' : MS) (Q : VK), Rel K c B σ H μ → m μ = some (d, μ') → Post K c B σ μ' d Q → t σ H Q
def OkO (K : PySem.W.Frag) (t : TE) (m : M O) : Prop := ∀ (c : C) (B : Hp) (σ : St) (H : Hp) (μ : MS) (o : O) (μ' : MS) (Q : VK), Rel K c B σ H μ → m μ = some (o, μ') →
  (∀ B' H' v, Ext B B' → Rel K c B' σ H' μ' → OR K c.st B' σ v o → Q v H') → t σ H Q
/-- a new list that nobody knows -/
def OkF (K : PySem.W.Frag) (t : TE) (m : M (List D)) : Prop := ∀ (c : C) (B : Hp) (σ : St) (H : Hp) (μ : MS) (ds : List D) (μ' : MS) (Q : VK), Rel K c B σ H μ → m μ = some (ds, μ') →
  (∀ B' H' p vs, Ext B B' → Rel K c B' σ H' μ' → H' p = some (.lst vs) → B' p = none → c.H0 p = none → NoOwn σ μ' p → RpA K c.st B' vs ds → Q (.ref p) H') → t σ H Q
def OkT (K : PySem.W.Frag) (t : TT) (m : M Bool) : Prop := ∀ (c : C) (B : Hp) (σ : St) (H : Hp) (μ : MS) (b : Bool) (μ' : MS) (Q : Bool → Hp → Prop), Rel K c B σ H μ → m μ = some (b, μ') →
  (∀ B' H', Ext B B' → Rel K c B' σ H' μ' → Q b H') → t σ H Q
def OkA (K : PySem.W.Frag) (t : TA) (m : M (List O)) : Prop := ∀ (c : C) (B : Hp) (σ : St) (H : Hp) (μ : MS) (os : List O) (μ' : MS) (Q : List V → Hp → Prop), Rel K c B σ H μ → m μ = some (os, μ') →
  (∀ B' H' vs, Ext B B' → Rel K c B' σ H' μ' → ORA K c.st B' σ vs os → Q vs H') → t σ H Q
structure DE (X : Cx) (e : Expr) (m : M D) : Prop where
  ex : ∃ t, PE X e t ∧ OkE X.K t m
structure DO (X : Cx) (e : Expr) (m : M O) : Prop where
  ex : ∃ t, PE X e t ∧ OkO X.K t m
structure DF (X : Cx) (e : Expr) (m : M (List D)) : Prop where
  ex : ∃ t, PE X e t ∧ OkF X.K t m
structure DT (X : Cx) (e : Expr) (m : M Bool) : Prop where
  ex : ∃ t, PT X e t ∧ OkT X.K t m
structure DW (X : Cx) (e : Expr) (m : M Bool) : Prop where
  ex : ∃ t, PW X e t ∧ OkT X.K t m
structure DA (X : Cx) (es : List Expr) (m : M (List O)) : Prop where
  ex : ∃ t, PA X es t ∧ OkA X.K t m

/-! ### from one judgement to another -/
def oName (i : Nat) : M O := fun μ => (look (.s i) μ).bind fun _ => some (.s i, μ)
def oVal (m : M D) : M O := fun μ => (m μ).bind fun p => some (.v p.1, p.2)
/-- a name's list is given away as a value -/
def frz (m : M O) : M D := fun μ => (m μ).bind fun p => match p.1 with
  | .v d => some (d, p.2)
  | .s i => match p.2.sl[i]? with
    | some (.val d) => some (d, p.2)
    | some (.ow o) => some (o.dat, setS p.2 i (.val o.dat))
    | _ => none
def mVar (i : Nat) : M D := frz (oName i)
def eNew (m : M (List D)) : M D := fun μ => (m μ).bind fun p => some (.list p.1, p.2)
def mC (d : D) : M D := fun μ => some (d, μ)
section
variable {X : Cx} {e : Expr}
theorem o_name (i : Nat) {x : Str} {pos : Pos} (hN : X.N[i]? = some x := by rfl) (hv : Vis X.env.scope x := by first | exact Or.inl rfl | exact Or.inr (Or.inl rfl) | exact Or.inr (Or.inr rfl)) (hd : (x == ("__debug__" : Str)) = false := by decide)
    (hcd : (x == ("__classdict__" : Str)) = false := by decide) : DO X (.Name x pos) (oName i) := by
  refine ⟨_, pv i hN hv hd hcd, fun c B σ H μ o μ' Q r hm k => ?_⟩
  unfold oName at hm
  cases hl : look (.s i) μ with
  | none => rw [hl] at hm; cases hm
  | some d =>
    rw [hl] at hm; cases hm
    have hv : ∃ v, σ[i]? = some (some v) := by
      simp only [look] at hl
      split at hl
      · rename_i hs
        obtain ⟨v', e1, e2⟩ := r.valAt hs
        exact ⟨v', e1⟩
      · rename_i hs
        obtain ⟨p, vs, e1, e2, e3, e4, e5⟩ := r.owAt hs
        exact ⟨_, e1⟩
      · cases hl
    obtain ⟨v, hv⟩ := hv
    exact ⟨v, hv, k B H v (Ext.refl _) r hv⟩
theorem o_of {m : M D} (h : DE X e m) : DO X e (oVal m) := by
  obtain ⟨t, ht, ok⟩ := h.ex
  refine ⟨t, ht, fun c B σ H μ o μ' Q r hm k => ?_⟩
  unfold oVal at hm
  cases h1 : m μ with
  | none => rw [h1] at hm; cases hm
  | some p =>
    rw [h1] at hm; cases hm
    exact ok c B σ H μ p.1 p.2 Q r h1 fun B' H' v e r' hr => k B' H' v e r' hr
theorem e_of {m : M O} (h : DO X e m) : DE X e (frz m) := by
  obtain ⟨t, ht, ok⟩ := h.ex
  refine ⟨t, ht, fun c B σ H μ d μ' Q r hm k => ?_⟩
  unfold frz at hm
  cases h1 : m μ with
  | none => rw [h1] at hm; cases hm
  | some p =>
    rw [h1] at hm
    obtain ⟨o, μ1⟩ := p
    simp only [Option.bind_some] at hm
    refine ok c B σ H μ o μ1 Q r h1 fun B' H' v e r' hr => ?_
    cases o with
    | v d' => cases hm; exact k B' H' v e r' hr
    | s i =>
      simp only at hm
      split at hm
      · rename_i hs
        cases hm
        obtain ⟨v', e1, e2⟩ := r'.valAt hs
        have : σ[i]? = some (some v) := hr
        rw [this] at e1; cases e1
        exact k B' H' v e r' e2
      · rename_i ds hs
        cases hm
        obtain ⟨p, vs, e1, e2, e3, e4, e5, e6⟩ := r'.owVal hs
        have : σ[i]? = some (some v) := hr
        rw [this] at e1; cases e1
        exact k _ H' _ (e.trans e4) e6 e5
      · cases hm
theorem e_new {m : M (List D)} (h : DF X e m) : DE X e (eNew m) := by
  obtain ⟨t, ht, ok⟩ := h.ex
  refine ⟨t, ht, fun c B σ H μ d μ' Q r hm k => ?_⟩
  unfold eNew at hm
  cases h1 : m μ with
  | none => rw [h1] at hm; cases hm
  | some p =>
    rw [h1] at hm; cases hm
    refine ok c B σ H μ p.1 p.2 Q r h1 fun B' H' a vs e r' h2 h3 h4 h5 h6 => ?_
    have e2 : Ext B' (upd B' a (.lst vs)) := Ext.new h3
    exact k _ H' _ (e.trans e2) (r'.freeze h2 h4 h3 h5) (.lst upd_same (h6.mono e2))
theorem e_c {v : V} {d : D} (h : PE X e (tC v)) (hr : ∀ K st B, Rp K st B v d) : DE X e (mC d) :=
  ⟨_, h, fun c B σ H μ d' μ' Q r hm k => by cases hm; exact k.go r (hr _ _ _)⟩
theorem e_int {i j pos} : DE X (.Constant (.int i) j pos) (mC (.int i)) := e_c pe_int fun _ _ _ => .int _
theorem e_bl {b j pos} : DE X (.Constant (.bool b) j pos) (mC (.bool b)) := e_c pe_bl fun _ _ _ => .bl _
theorem e_non {j pos} : DE X (.Constant .none j pos) (mC .none) := e_c pe_non fun _ _ _ => .non
theorem e_str {x j pos} : DE X (.Constant (.str x) j pos) (mC (.str x)) := e_c pe_str fun _ _ _ => .str _
/-- a module's constant -/
theorem e_glob {x : Str} {v : V} {d : D} {u : Value} {pos : Pos} (hg : Gl X x) (hm : X.mg x = some u) (r : RelV v u) (hr : ∀ st B, Rp X.K st B v d) (hd : (x == ("__debug__" : Str)) = false := by decide) : DE X (.Name x pos) (mC d) :=
  ⟨_, pe_glob hg hm r hd, fun c B σ H μ d' μ' Q r hm k => by cases hm; exact k.go r (hr _ _)⟩
end

/-! ### argument lists -/
def aNil : M (List O) := fun μ => some ([], μ)
def aCons (m : M O) (n : M (List O)) : M (List O) := fun μ => (m μ).bind fun p => (n p.2).bind fun q => some (p.1 :: q.1, q.2)
section
variable {X : Cx} {e : Expr} {es : List Expr}
theorem a_nil : DA X [] aNil := ⟨_, pa_nil, fun c B σ H μ os μ' Q r hm k => by cases hm; exact k B H [] (Ext.refl _) r .nil⟩
theorem a_cons {m : M O} {n : M (List O)} (h : DO X e m) (hr : DA X es n) (hs : starEach (e :: es) X.env = (false, eval e X.env) :: starEach es X.env := by rfl) : DA X (e :: es) (aCons m n) := by
  obtain ⟨t, ht, ok⟩ := h.ex
  obtain ⟨t2, ht2, ok2⟩ := hr.ex
  refine ⟨_, pa_cons ht ht2 hs, fun c B σ H μ os μ' Q r hm k => ?_⟩
  unfold aCons at hm
  cases h1 : m μ with
  | none => rw [h1] at hm; cases hm
  | some p =>
    rw [h1] at hm
    cases h2 : n p.2 with
    | none => simp only [Option.bind_some, h2] at hm; cases hm
    | some q =>
      simp only [Option.bind_some, h2] at hm; cases hm
      refine ok c B σ H μ p.1 p.2 _ r h1 fun B' H' v e r' hr => ?_
      refine ok2 c B' σ H' p.2 q.1 q.2 _ r' h2 fun B'' H'' vs e' r'' hrs => ?_
      exact k B'' H'' (v :: vs) (e.trans e') r'' (.cons (hr.mono e') hrs)
end

/-! ### operations of two, of one, calls -/
def Op2 (K : PySem.W.Frag) (r : R2) (g : D → D → Option D) : Prop := ∀ (c : C) (B : Hp) (σ : St) (H : Hp) (μ : MS) (x y : V) (d e z : D) (Q : VK), Rel K c B σ H μ → Lk K c.st B H x d → Lk K c.st B H y e → g d e = some z → Post K c B σ μ z Q → r x y H Q
def m2 (g : D → D → Option D) (ma mb : M O) : M D := fun μ => (ma μ).bind fun p => (mb p.2).bind fun q => (look p.1 q.2).bind fun d => (look q.1 q.2).bind fun e => (g d e).bind fun z => some (z, q.2)
theorem m2_some {g : D → D → Option D} {ma mb : M O} {μ μ' : MS} {z : D} (h : m2 g ma mb μ = some (z, μ')) : ∃ o1 μ1 o2 d e, ma μ = some (o1, μ1) ∧ mb μ1 = some (o2, μ') ∧ look o1 μ' = some d ∧ look o2 μ' = some e ∧ g d e = some z := by
  unfold m2 at h
  simp only [Option.bind_eq_some_iff] at h
  obtain ⟨p, h1, q, h2, d, h3, e, h4, z', h5, h6⟩ := h
  cases h6
  exact ⟨p.1, p.2, q.1, d, e, h1, h2, h3, h4, h5⟩
section
variable {X : Cx} {a b : Expr} {pos : Pos}
theorem ok_op2 {r : R2} {g : D → D → Option D} {ta tb : TE} {ma mb : M O} (hr : Op2 X.K r g) (ha : OkO X.K ta ma) (hb : OkO X.K tb mb) : OkE X.K (tOp r ta tb) (m2 g ma mb) := by
  intro c B σ H μ z μ' Q rel hm k
  obtain ⟨o1, μ1, o2, d, e, h1, h2, h3, h4, h5⟩ := m2_some hm
  refine ha c B σ H μ o1 μ1 _ rel h1 fun B1 H1 x e1 r1 x1 => ?_
  refine hb c B1 σ H1 μ1 o2 μ' _ r1 h2 fun B2 H2 y e2 r2 y2 => ?_
  exact hr c B2 σ H2 μ' x y d e z Q r2 (look_ok r2 (x1.mono e2) h3) (look_ok r2 y2 h4) h5 (k.ext (e1.trans e2))
theorem e_op {op : Operator} {r : R2} {g : D → D → Option D} {ma mb : M O} (ho : OpR X (binaryOp op) r) (hr : Op2 X.K r g) (ha : DO X a ma) (hb : DO X b mb) : DE X (.BinOp a op b pos) (m2 g ma mb) := by
  obtain ⟨ta, pa, oa⟩ := ha.ex
  obtain ⟨tb, pb, ob⟩ := hb.ex
  exact ⟨_, pe_op ho pa pb, ok_op2 hr oa ob⟩
theorem e_cmp {op : CmpOp} {r : R2} {g : D → D → Option D} {ma mb : M O} (ho : OpR X (compareOp op) r) (hr : Op2 X.K r g) (ha : DO X a ma) (hb : DO X b mb) (hm : behindInMarks op b = false) : DE X (.Compare a [op] [b] pos) (m2 g ma mb) := by
  obtain ⟨ta, pa, oa⟩ := ha.ex
  obtain ⟨tb, pb, ob⟩ := hb.ex
  exact ⟨_, pe_cmpR ho pa pb hm, ok_op2 hr oa ob⟩
/-- the bool of a value that is one -/
def mB (m : M D) : M Bool := fun μ => (m μ).bind fun p => match p.1 with
  | .bool b => some (b, p.2)
  | _ => none
theorem mB_some {m : M D} {μ μ' : MS} {b : Bool} (h : mB m μ = some (b, μ')) : m μ = some (.bool b, μ') := by
  unfold mB at h
  simp only [Option.bind_eq_some_iff] at h
  obtain ⟨p, h1, h2⟩ := h
  obtain ⟨d, μ1⟩ := p
  split at h2
  · rename_i b' hb
    cases h2
    have hb' : d = .bool b := hb
    rw [h1, hb']
  · cases h2
theorem ok_test {t : TE} {m : M D} (h : OkE X.K t m) : OkT X.K (tTest t) (mB m) := by
  intro c B σ H μ b μ' Q rel hm k
  exact h c B σ H μ _ μ' _ rel (mB_some hm) fun B' H' v e r hv => by
    cases hv
    exact ⟨b, rfl, k B' H' e r⟩
theorem t_cmp {op : CmpOp} {r : R2} {g : D → D → Option D} {ma mb : M O} (ho : OpR X (compareOp op) r) (hr : Op2 X.K r g) (ha : DO X a ma) (hb : DO X b mb) (hm : behindInMarks op b = false) : DT X (.Compare a [op] [b] pos) (mB (m2 g ma mb)) := by
  obtain ⟨ta, pa, oa⟩ := ha.ex
  obtain ⟨tb, pb, ob⟩ := hb.ex
  exact ⟨_, pt_cmpR ho pa pb hm, ok_test (ok_op2 hr oa ob)⟩
/-- a op b op' c -/
def mChain (g g' : D → D → Option D) (ma mb mc : M O) : M D := fun μ => (ma μ).bind fun p => (mb p.2).bind fun q => (look p.1 q.2).bind fun d => (look q.1 q.2).bind fun e => (g d e).bind fun z => match z with
  | .bool true => (mc q.2).bind fun w => (look q.1 w.2).bind fun e' => (look w.1 w.2).bind fun f => (g' e' f).bind fun z' => some (z', w.2)
  | .bool false => some (.bool false, q.2)
  | _ => none
theorem ok_chain {r r' : R2} {g g' : D → D → Option D} {ta tb tc : TE} {ma mb mc : M O} (hr : Op2 X.K r g) (hr' : Op2 X.K r' g') (ha : OkO X.K ta ma) (hb : OkO X.K tb mb) (hc : OkO X.K tc mc) : OkE X.K (tChain r r' ta tb tc) (mChain g g' ma mb mc) := by
  intro c B σ H μ z μ' Q rel hm k
  unfold mChain at hm
  simp only [Option.bind_eq_some_iff] at hm
  obtain ⟨⟨o1, μ1⟩, h1, ⟨o2, μ2⟩, h2, d, h3, e, h4, z1, h5, h6⟩ := hm
  simp only at h2 h3 h4 h6
  refine ha c B σ H μ o1 μ1 _ rel h1 fun B1 H1 x e1 r1 x1 => ?_
  refine hb c B1 σ H1 μ1 o2 μ2 _ r1 h2 fun B2 H2 y e2 r2 y2 => ?_
  refine hr c B2 σ H2 μ2 x y d e z1 _ r2 (look_ok r2 (x1.mono e2) h3) (look_ok r2 y2 h4) h5 fun B3 H3 v e3 r3 hv => ?_
  split at h6
  · cases hv
    simp only [Option.bind_eq_some_iff] at h6
    obtain ⟨⟨o3, μ3⟩, h7, e', h8, f, h9, z', h10, h11⟩ := h6
    cases h11
    refine ⟨true, rfl, ?_⟩
    rw [if_pos rfl]
    refine hc c B3 σ H3 μ2 o3 _ _ r3 h7 fun B4 H4 w e4 r4 w4 => ?_
    exact hr' c B4 σ H4 _ y w e' f z Q r4 (look_ok r4 ((y2.mono e3).mono e4) h8) (look_ok r4 w4 h9) h10 (k.ext (((e1.trans e2).trans e3).trans e4))
  · cases hv
    cases h6
    refine ⟨false, rfl, ?_⟩
    rw [if_neg Bool.false_ne_true]
    exact k B3 H3 _ ((e1.trans e2).trans e3) r3 (.bl false)
  · cases h6
theorem e_chain {c : Expr} {op op' : CmpOp} {r r' : R2} {g g' : D → D → Option D} {ma mb mc : M O} (ho : OpR X (compareOp op) r) (hr : Op2 X.K r g) (ho' : OpR X (compareOp op') r') (hr' : Op2 X.K r' g') (ha : DO X a ma) (hb : DO X b mb) (hc : DO X c mc)
    (hm : lastMarks [op, op'] [b, c] = false := by with_unfolding_all rfl) : DE X (.Compare a [op, op'] [b, c] pos) (mChain g g' ma mb mc) := by
  obtain ⟨ta, pa, oa⟩ := ha.ex
  obtain ⟨tb, pb, ob⟩ := hb.ex
  obtain ⟨tc, pc, oc⟩ := hc.ex
  exact ⟨_, pe_chain ho ho' pa pb pc hm, ok_chain hr hr' oa ob oc⟩
theorem t_chain {c : Expr} {op op' : CmpOp} {r r' : R2} {g g' : D → D → Option D} {ma mb mc : M O} (ho : OpR X (compareOp op) r) (hr : Op2 X.K r g) (ho' : OpR X (compareOp op') r') (hr' : Op2 X.K r' g') (ha : DO X a ma) (hb : DO X b mb) (hc : DO X c mc)
    (hm : lastMarks [op, op'] [b, c] = false := by with_unfolding_all rfl) : DT X (.Compare a [op, op'] [b, c] pos) (mB (mChain g g' ma mb mc)) := by
  obtain ⟨ta, pa, oa⟩ := ha.ex
  obtain ⟨tb, pb, ob⟩ := hb.ex
  obtain ⟨tc, pc, oc⟩ := hc.ex
  exact ⟨_, pt_chain ho ho' pa pb pc hm, ok_test (ok_chain hr hr' oa ob oc)⟩
/-- subscripts -/
theorem e_ix {r : R2} {g : D → D → Option D} {ma mb : M O} (ho : IxR X r) (hr : Op2 X.K r g) (ha : DO X a ma) (hb : DO X b mb) (hs : PlainIx b) : DE X (.Subscript a b pos) (m2 g ma mb) := by
  obtain ⟨ta, pa, oa⟩ := ha.ex
  obtain ⟨tb, pb, ob⟩ := hb.ex
  exact ⟨_, pe_ix ho pa pb hs, ok_op2 hr oa ob⟩
/-- one operand -/
def Op1 (K : PySem.W.Frag) (r : V → Hp → VK → Prop) (g : D → Option D) : Prop := ∀ (c : C) (B : Hp) (σ : St) (H : Hp) (μ : MS) (x : V) (d z : D) (Q : VK), Rel K c B σ H μ → Lk K c.st B H x d → g d = some z → Post K c B σ μ z Q → r x H Q
def m1 (g : D → Option D) (ma : M O) : M D := fun μ => (ma μ).bind fun p => (look p.1 p.2).bind fun d => (g d).bind fun z => some (z, p.2)
theorem e_un {op : UnaryOp} {r : V → Hp → VK → Prop} {g : D → Option D} {ma : M O} (ho : UnR X (unaryOp op) r) (hr : Op1 X.K r g) (ha : DO X a ma) : DE X (.UnaryOp op a pos) (m1 g ma) := by
  obtain ⟨ta, pa, oa⟩ := ha.ex
  refine ⟨_, pe_un ho pa, fun c B σ H μ z μ' Q rel hm k => ?_⟩
  unfold m1 at hm
  simp only [Option.bind_eq_some_iff] at hm
  obtain ⟨⟨o, μ1⟩, h1, d, h2, z', h3, h4⟩ := hm
  cases h4
  refine oa c B σ H μ o _ _ rel h1 fun B1 H1 x e1 r1 x1 => ?_
  exact hr c B1 σ H1 _ x d z Q r1 (look_ok r1 x1 h2) h3 (k.ext e1)
/-- calls of what is known, by values -/
def CallG (K : PySem.W.Frag) (r : List V → Hp → VK → Prop) (g : List D → Option D) : Prop := ∀ (c : C) (B : Hp) (σ : St) (H : Hp) (μ : MS) (xs : List V) (ds : List D) (z : D) (Q : VK), Rel K c B σ H μ → LkA K c.st B H xs ds → g ds = some z → Post K c B σ μ z Q → r xs H Q
def CallF (K : PySem.W.Frag) (r : List V → Hp → VK → Prop) (g : List D → Option (List D)) : Prop := ∀ (c : C) (B : Hp) (σ : St) (H : Hp) (μ : MS) (xs : List V) (ds : List D) (z : List D) (Q : VK), Rel K c B σ H μ → LkA K c.st B H xs ds → g ds = some z →
  (∀ p vs, H p = none → RpA K c.st B vs z → Q (.ref p) (upd H p (.lst vs))) → r xs H Q
def mCall {α : Type} (g : List D → Option α) (ma : M (List O)) : M α := fun μ => (ma μ).bind fun p => (looks p.1 p.2).bind fun ds => (g ds).bind fun z => some (z, p.2)
theorem mCall_some {α : Type} {g : List D → Option α} {ma : M (List O)} {μ μ' : MS} {z : α} (h : mCall g ma μ = some (z, μ')) : ∃ os ds, ma μ = some (os, μ') ∧ looks os μ' = some ds ∧ g ds = some z := by
  unfold mCall at h
  simp only [Option.bind_eq_some_iff] at h
  obtain ⟨⟨os, μ1⟩, h1, ds, h2, z', h3, h4⟩ := h
  cases h4
  exact ⟨os, ds, h1, h2, h3⟩
theorem ok_call {r : List V → Hp → VK → Prop} {g : List D → Option D} {t : TA} {m : M (List O)} (hr : CallG X.K r g) (h : OkA X.K t m) : OkE X.K (tCB r t) (mCall g m) := by
  intro c B σ H μ z μ' Q rel hm k
  obtain ⟨os, ds, h1, h2, h3⟩ := mCall_some hm
  refine h c B σ H μ os μ' _ rel h1 fun B1 H1 vs e1 r1 o1 => ?_
  exact hr c B1 σ H1 μ' vs ds z Q r1 (looks_ok r1 o1 h2) h3 (k.ext e1)
theorem ok_callF {r : List V → Hp → VK → Prop} {g : List D → Option (List D)} {t : TA} {m : M (List O)} (hr : CallF X.K r g) (h : OkA X.K t m) : OkF X.K (tCB r t) (mCall g m) := by
  intro c B σ H μ z μ' Q rel hm k
  obtain ⟨os, ds, h1, h2, h3⟩ := mCall_some hm
  refine h c B σ H μ os μ' _ rel h1 fun B1 H1 vs e1 r1 o1 => ?_
  refine hr c B1 σ H1 μ' vs ds z Q r1 (looks_ok r1 o1 h2) h3 fun p ws hp hw => ?_
  obtain ⟨f0, fb⟩ := r1.r0.fresh hp
  exact k B1 _ p ws e1 (r1.hide hp) upd_same fb f0 (r1.noOwn hp) hw
variable {x : Str} {p : Pos} {e : Expr} {es : List Expr} {id T : String}
theorem e_callB {r : List V → Hp → VK → Prop} {g : List D → Option D} {m : M (List O)} (hc : CallR X (.builtin id) r) (hr : CallG X.K r g) (hg : Gl X x) (hm : X.mg x = none) (hv : bootBuiltins x = some (.builtin id)) (ha : DA X (e :: es) m) (hn : x ≠ "__name__" := by decide) (hdb : (x == ("__debug__" : Str)) = false := by decide)
    (he : starEach (e :: es) X.env = (false, eval e X.env) :: starEach es X.env := by rfl) (hpl : (backTo pos (starEach es X.env)).any (·.1) = false := by rfl) : DE X (.Call (.Name x p) (e :: es) [] pos) (mCall g m) := by
  obtain ⟨t, ht, ok⟩ := ha.ex
  exact ⟨_, pe_callB hc hg hm hv ht hn hdb he hpl, ok_call hr ok⟩
theorem e_callTy {r : List V → Hp → VK → Prop} {g : List D → Option D} {m : M (List O)} (hc : CallR X (.type T) r) (hr : CallG X.K r g) (hg : Gl X x) (hm : X.mg x = none) (hv : bootBuiltins x = some (.type T)) (ha : DA X (e :: es) m) (hn : x ≠ "__name__" := by decide) (hdb : (x == ("__debug__" : Str)) = false := by decide)
    (he : starEach (e :: es) X.env = (false, eval e X.env) :: starEach es X.env := by rfl) (hpl : (backTo pos (starEach es X.env)).any (·.1) = false := by rfl) : DE X (.Call (.Name x p) (e :: es) [] pos) (mCall g m) := by
  obtain ⟨t, ht, ok⟩ := ha.ex
  exact ⟨_, pe_callTy hc hg hm hv ht hn hdb he hpl, ok_call hr ok⟩
theorem f_callTy {r : List V → Hp → VK → Prop} {g : List D → Option (List D)} {m : M (List O)} (hc : CallR X (.type T) r) (hr : CallF X.K r g) (hg : Gl X x) (hm : X.mg x = none) (hv : bootBuiltins x = some (.type T)) (ha : DA X (e :: es) m) (hn : x ≠ "__name__" := by decide) (hdb : (x == ("__debug__" : Str)) = false := by decide)
    (he : starEach (e :: es) X.env = (false, eval e X.env) :: starEach es X.env := by rfl) (hpl : (backTo pos (starEach es X.env)).any (·.1) = false := by rfl) : DF X (.Call (.Name x p) (e :: es) [] pos) (mCall g m) := by
  obtain ⟨t, ht, ok⟩ := ha.ex
  exact ⟨_, pe_callTy hc hg hm hv ht hn hdb he hpl, ok_callF hr ok⟩
theorem f_callB {r : List V → Hp → VK → Prop} {g : List D → Option (List D)} {m : M (List O)} (hc : CallR X (.builtin id) r) (hr : CallF X.K r g) (hg : Gl X x) (hm : X.mg x = none) (hv : bootBuiltins x = some (.builtin id)) (ha : DA X (e :: es) m) (hn : x ≠ "__name__" := by decide) (hdb : (x == ("__debug__" : Str)) = false := by decide)
    (he : starEach (e :: es) X.env = (false, eval e X.env) :: starEach es X.env := by rfl) (hpl : (backTo pos (starEach es X.env)).any (·.1) = false := by rfl) : DF X (.Call (.Name x p) (e :: es) [] pos) (mCall g m) := by
  obtain ⟨t, ht, ok⟩ := ha.ex
  exact ⟨_, pe_callB hc hg hm hv ht hn hdb he hpl, ok_callF hr ok⟩
end

/-! ### truth, and, or, not, if -/
def truth : D → Option Bool
  | .none => some false
  | .bool b => some b
  | .int i => some (i != 0)
  | .str x => if x.length ≤ 16777216 then some ((x.length : Int) != 0) else none
  | .list ds => some (!ds.isEmpty)
  | .tuple ds => some (!ds.isEmpty)
  | .dict _ => none
theorem isEmpty_rpa {K : PySem.W.Frag} {st : Option (Addr × Addr)} {B : Hp} {vs : List V} {ds : List D} (h : RpA K st B vs ds) : vs.isEmpty = ds.isEmpty := by
  cases h <;> rfl
theorem truth_ok {K : PySem.W.Frag} {st : Option (Addr × Addr)} {B H : Hp} {x : V} {d : D} {b : Bool} (h : Lk K st B H x d) (e : Ext B H) (ht : truth d = some b) : TruV K x H b := by
  cases d with
  | none => rw [h.none]; cases ht; rfl
  | bool b' => rw [h.bool]; cases ht; rfl
  | int i => rw [h.int]; cases ht; rfl
  | str s =>
    rw [h.str]
    simp only [truth] at ht
    split at ht
    · cases ht
      refine ⟨?_, rfl⟩
      rw [sizeLine_eq]; assumption
    · cases ht
  | list ds =>
    obtain ⟨p, vs, rfl, h1, h2⟩ := h.list e
    cases ht
    exact .inl ⟨vs, SqL.of h1, by rw [isEmpty_rpa h2]⟩
  | tuple ds =>
    obtain ⟨p, vs, rfl, h1, _, h2⟩ := h.tuple e
    cases ht
    exact .inr (.inl ⟨vs, h1, by rw [isEmpty_rpa h2]⟩)
  | dict _ => cases ht
def mTruth (ma : M O) : M Bool := fun μ => (ma μ).bind fun p => (look p.1 p.2).bind fun d => (truth d).bind fun b => some (b, p.2)
theorem mTruth_some {ma : M O} {μ μ' : MS} {b : Bool} (h : mTruth ma μ = some (b, μ')) : ∃ o d, ma μ = some (o, μ') ∧ look o μ' = some d ∧ truth d = some b := by
  unfold mTruth at h
  simp only [Option.bind_eq_some_iff] at h
  obtain ⟨⟨o, μ1⟩, h1, d, h2, b', h3, h4⟩ := h
  cases h4
  exact ⟨o, d, h1, h2, h3⟩
def bAnd (m n : M Bool) : M Bool := fun μ => (m μ).bind fun p => if p.1 = true then n p.2 else some (false, p.2)
def bOr (m n : M Bool) : M Bool := fun μ => (m μ).bind fun p => if p.1 = true then some (true, p.2) else n p.2
def bNot (m : M Bool) : M Bool := fun μ => (m μ).bind fun p => some (!p.1, p.2)
def eIf (m : M Bool) (n k : M D) : M D := fun μ => (m μ).bind fun p => if p.1 = true then n p.2 else k p.2
def eAnd (m n : M D) : M D := fun μ => (m μ).bind fun p => (truth p.1).bind fun b => if b = true then n p.2 else some (p.1, p.2)
def eOr (m n : M D) : M D := fun μ => (m μ).bind fun p => (truth p.1).bind fun b => if b = true then some (p.1, p.2) else n p.2
def eNot (ma : M O) : M D := fun μ => (mTruth ma μ).bind fun p => some (.bool (!p.1), p.2)
section
variable {X : Cx} {a b c : Expr} {rest : List Expr} {pos : Pos}
theorem t_of {m : M O} (h : DO X a m) (he : ∀ whole, isTrue a X.env whole = (do let v ← whole; standAt a.pos; holding [v] (truthy v)) := by intro _; rfl) : DT X a (mTruth m) := by
  obtain ⟨t, ht, ok⟩ := h.ex
  refine ⟨_, pt_truth ht he, fun c B σ H μ b μ' Q rel hm k => ?_⟩
  obtain ⟨o, d, h1, h2, h3⟩ := mTruth_some hm
  refine ok c B σ H μ o μ' _ rel h1 fun B1 H1 x e1 r1 x1 => ?_
  exact ⟨b, truth_ok (look_ok r1 x1 h2) r1.r0.ext h3, k B1 H1 e1 r1⟩
theorem t_w {m : M Bool} (h : DW X a m) : DT X a m := by
  obtain ⟨t, ht, ok⟩ := h.ex
  exact ⟨t, ht.pt, ok⟩
theorem w_and1 {m : M Bool} (h : DT X a m) : DW X (.BoolOp .And [a] pos) m := by
  obtain ⟨t, ht, ok⟩ := h.ex
  exact ⟨t, pw_and1 ht, ok⟩
theorem w_or1 {m : M Bool} (h : DT X a m) : DW X (.BoolOp .Or [a] pos) m := by
  obtain ⟨t, ht, ok⟩ := h.ex
  exact ⟨t, pw_or1 ht, ok⟩
theorem w_and {m n : M Bool} (h : DT X a m) (h2 : DW X (.BoolOp .And (b :: rest) pos) n) : DW X (.BoolOp .And (a :: b :: rest) pos) (bAnd m n) := by
  obtain ⟨t, ht, ok⟩ := h.ex
  obtain ⟨t2, ht2, ok2⟩ := h2.ex
  refine ⟨_, pw_and ht ht2, fun c B σ H μ b μ' Q rel hm k => ?_⟩
  unfold bAnd at hm
  simp only [Option.bind_eq_some_iff] at hm
  obtain ⟨⟨b1, μ1⟩, h1, h3⟩ := hm
  refine ok c B σ H μ b1 μ1 _ rel h1 fun B1 H1 e1 r1 => ?_
  cases b1 with
  | true =>
    rw [if_pos rfl] at h3 ⊢
    exact ok2 c B1 σ H1 μ1 b μ' Q r1 h3 fun B2 H2 e2 r2 => k B2 H2 (e1.trans e2) r2
  | false =>
    rw [if_neg Bool.false_ne_true] at h3 ⊢
    cases h3
    exact k B1 H1 e1 r1
theorem w_or {m n : M Bool} (h : DT X a m) (h2 : DW X (.BoolOp .Or (b :: rest) pos) n) : DW X (.BoolOp .Or (a :: b :: rest) pos) (bOr m n) := by
  obtain ⟨t, ht, ok⟩ := h.ex
  obtain ⟨t2, ht2, ok2⟩ := h2.ex
  refine ⟨_, pw_or ht ht2, fun c B σ H μ b μ' Q rel hm k => ?_⟩
  unfold bOr at hm
  simp only [Option.bind_eq_some_iff] at hm
  obtain ⟨⟨b1, μ1⟩, h1, h3⟩ := hm
  refine ok c B σ H μ b1 μ1 _ rel h1 fun B1 H1 e1 r1 => ?_
  cases b1 with
  | true =>
    rw [if_pos rfl] at h3 ⊢
    cases h3
    exact k B1 H1 e1 r1
  | false =>
    rw [if_neg Bool.false_ne_true] at h3 ⊢
    exact ok2 c B1 σ H1 μ1 b μ' Q r1 h3 fun B2 H2 e2 r2 => k B2 H2 (e1.trans e2) r2
theorem t_not {m : M Bool} (h : DT X a m) : DT X (.UnaryOp .Not a pos) (bNot m) := by
  obtain ⟨t, ht, ok⟩ := h.ex
  refine ⟨_, pt_not ht, fun c B σ H μ b μ' Q rel hm k => ?_⟩
  unfold bNot at hm
  simp only [Option.bind_eq_some_iff] at hm
  obtain ⟨⟨b1, μ1⟩, h1, h3⟩ := hm
  cases h3
  exact ok c B σ H μ b1 μ1 _ rel h1 fun B1 H1 e1 r1 => k B1 H1 e1 r1
theorem e_if {m : M Bool} {n k : M D} (h : DT X c m) (ha : DE X a n) (hb : DE X b k) : DE X (.IfExp c a b pos) (eIf m n k) := by
  obtain ⟨t, ht, ok⟩ := h.ex
  obtain ⟨ta, pa, oa⟩ := ha.ex
  obtain ⟨tb, pb, ob⟩ := hb.ex
  refine ⟨_, pe_ifExp ht pa pb, fun c B σ H μ d μ' Q rel hm kk => ?_⟩
  unfold eIf at hm
  simp only [Option.bind_eq_some_iff] at hm
  obtain ⟨⟨b1, μ1⟩, h1, h3⟩ := hm
  refine ok c B σ H μ b1 μ1 _ rel h1 fun B1 H1 e1 r1 => ?_
  cases b1 with
  | true =>
    rw [if_pos rfl] at h3 ⊢
    exact oa c B1 σ H1 μ1 d μ' Q r1 h3 (kk.ext e1)
  | false =>
    rw [if_neg Bool.false_ne_true] at h3 ⊢
    exact ob c B1 σ H1 μ1 d μ' Q r1 h3 (kk.ext e1)
theorem e_one {op} {m : M D} (h : DE X a m) : DE X (.BoolOp op [a] pos) m := by
  obtain ⟨t, ht, ok⟩ := h.ex
  exact ⟨t, pe_one ht, ok⟩
theorem e_and {m n : M D} (h : DE X a m) (h2 : DE X (.BoolOp .And (b :: rest) pos) n) : DE X (.BoolOp .And (a :: b :: rest) pos) (eAnd m n) := by
  obtain ⟨t, ht, ok⟩ := h.ex
  obtain ⟨t2, ht2, ok2⟩ := h2.ex
  refine ⟨_, pe_andT ht ht2, fun c B σ H μ d μ' Q rel hm k => ?_⟩
  unfold eAnd at hm
  simp only [Option.bind_eq_some_iff] at hm
  obtain ⟨⟨d1, μ1⟩, h1, b1, h3, h4⟩ := hm
  refine ok c B σ H μ d1 μ1 _ rel h1 fun B1 H1 x e1 r1 x1 => ⟨b1, truth_ok (.of x1) r1.r0.ext h3, ?_⟩
  cases b1 with
  | true =>
    rw [if_pos rfl] at h4 ⊢
    exact ok2 c B1 σ H1 μ1 d μ' Q r1 h4 (k.ext e1)
  | false =>
    rw [if_neg Bool.false_ne_true] at h4 ⊢
    cases h4
    exact k B1 H1 x e1 r1 x1
theorem e_or {m n : M D} (h : DE X a m) (h2 : DE X (.BoolOp .Or (b :: rest) pos) n) : DE X (.BoolOp .Or (a :: b :: rest) pos) (eOr m n) := by
  obtain ⟨t, ht, ok⟩ := h.ex
  obtain ⟨t2, ht2, ok2⟩ := h2.ex
  refine ⟨_, pe_orT ht ht2, fun c B σ H μ d μ' Q rel hm k => ?_⟩
  unfold eOr at hm
  simp only [Option.bind_eq_some_iff] at hm
  obtain ⟨⟨d1, μ1⟩, h1, b1, h3, h4⟩ := hm
  refine ok c B σ H μ d1 μ1 _ rel h1 fun B1 H1 x e1 r1 x1 => ⟨b1, truth_ok (.of x1) r1.r0.ext h3, ?_⟩
  cases b1 with
  | true =>
    rw [if_pos rfl] at h4 ⊢
    cases h4
    exact k B1 H1 x e1 r1 x1
  | false =>
    rw [if_neg Bool.false_ne_true] at h4 ⊢
    exact ok2 c B1 σ H1 μ1 d μ' Q r1 h4 (k.ext e1)
theorem e_not {m : M O} (h : DO X a m) : DE X (.UnaryOp .Not a pos) (eNot m) := by
  obtain ⟨t, ht, ok⟩ := h.ex
  refine ⟨_, pe_notT ht, fun c B σ H μ d μ' Q rel hm k => ?_⟩
  unfold eNot at hm
  simp only [Option.bind_eq_some_iff] at hm
  obtain ⟨⟨b1, μ1⟩, h1, h3⟩ := hm
  cases h3
  obtain ⟨o, d1, h4, h5, h6⟩ := mTruth_some h1
  refine ok c B σ H μ o _ _ rel h4 fun B1 H1 x e1 r1 x1 => ?_
  exact ⟨b1, truth_ok (look_ok r1 x1 h5) r1.r0.ext h6, k B1 H1 _ e1 r1 (.bl _)⟩
end

/-! ### displays -/
def mTup (m : M (List D)) : M D := fun μ => (m μ).bind fun p => if p.1.length ≤ 16777216 then some (.tuple p.1, p.2) else none
def mDs : List (M D) → M (List D)
  | [] => fun μ => some ([], μ)
  | m :: ms => fun μ => (m μ).bind fun p => (mDs ms p.2).bind fun q => some (p.1 :: q.1, q.2)
/-- arguments as values -/
def OkV (K : PySem.W.Frag) (t : TA) (m : M (List D)) : Prop := ∀ (c : C) (B : Hp) (σ : St) (H : Hp) (μ : MS) (ds : List D) (μ' : MS) (Q : List V → Hp → Prop), Rel K c B σ H μ → m μ = some (ds, μ') →
  (∀ B' H' vs, Ext B B' → Rel K c B' σ H' μ' → RpA K c.st B' vs ds → Q vs H') → t σ H Q
structure DV (X : Cx) (es : List Expr) (m : M (List D)) : Prop where
  ex : ∃ t, PA X es t ∧ OkV X.K t m
section
variable {X : Cx} {e : Expr} {es : List Expr} {pos : Pos}
theorem v_nil : DV X [] (mDs []) := ⟨_, pa_nil, fun c B σ H μ os μ' Q r hm k => by cases hm; exact k B H [] (Ext.refl _) r .nil⟩
theorem v_cons {m : M D} {ms : List (M D)} (h : DE X e m) (hr : DV X es (mDs ms)) (hs : starEach (e :: es) X.env = (false, eval e X.env) :: starEach es X.env := by rfl) : DV X (e :: es) (mDs (m :: ms)) := by
  obtain ⟨t, ht, ok⟩ := h.ex
  obtain ⟨t2, ht2, ok2⟩ := hr.ex
  refine ⟨_, pa_cons ht ht2 hs, fun c B σ H μ os μ' Q r hm k => ?_⟩
  unfold mDs at hm
  simp only [Option.bind_eq_some_iff] at hm
  obtain ⟨⟨d, μ1⟩, h1, ⟨ds, μ2⟩, h2, h3⟩ := hm
  cases h3
  refine ok c B σ H μ d μ1 _ r h1 fun B' H' v e r' hr => ?_
  refine ok2 c B' σ H' μ1 ds _ _ r' h2 fun B'' H'' vs e' r'' hrs => ?_
  exact k B'' H'' (v :: vs) (e.trans e') r'' (.cons (hr.mono e') hrs)
theorem e_tup {x1} {m : M (List D)} (h : DV X es m) : DE X (.Tuple es x1 pos) (mTup m) := by
  obtain ⟨t, ht, ok⟩ := h.ex
  refine ⟨_, pe_tup ht, fun c B σ H μ d μ' Q rel hm k => ?_⟩
  unfold mTup at hm
  simp only [Option.bind_eq_some_iff] at hm
  obtain ⟨⟨ds, μ1⟩, h1, h3⟩ := hm
  split at h3
  · rename_i hl
    cases h3
    refine ok c B σ H μ ds _ _ rel h1 fun B1 H1 vs e1 r1 x1 => ⟨by rw [x1.length, sizeLine_eq]; exact hl, fun p hp => ?_⟩
    exact (k.ext e1).tup r1 x1 hp
  · cases h3
def mLst (m : M (List D)) : M (List D) := fun μ => (m μ).bind fun p => if p.1.length ≤ 16777216 then some (p.1, p.2) else none
theorem f_lst {m : M (List D)} (h : DV X es m) : DF X (.List es pos) (mLst m) := by
  obtain ⟨t, ht, ok⟩ := h.ex
  refine ⟨_, pe_lst ht, fun c B σ H μ d μ' Q rel hm k => ?_⟩
  unfold mLst at hm
  simp only [Option.bind_eq_some_iff] at hm
  obtain ⟨⟨ds, μ1⟩, h1, h3⟩ := hm
  split at h3
  · rename_i hl
    cases h3
    refine ok c B σ H μ _ _ _ rel h1 fun B1 H1 vs e1 r1 x1 => ⟨by rw [x1.length, sizeLine_eq]; exact hl, fun p hp => ?_⟩
    obtain ⟨f0, fb⟩ := r1.r0.fresh hp
    exact k B1 _ p vs e1 (r1.hide hp) upd_same fb f0 (r1.noOwn hp) x1
  · cases h3
end
end Mi
/-! Mi, third part: the operations on plain data and their rules. -/
namespace Mi
open PySem PySem.Spec PyProof.Rows L2

abbrev lineN : Nat := 16777216
/-! ### arithmetic -/
def addD : D → D → Option D
  | .int a, .int b => some (.int (a + b))
  | .int a, .bool b => some (.int (a + b2i b))
  | .str a, .str b => if a.length + b.length ≤ lineN then some (.str (a ++ b)) else none
  | .tuple a, .tuple b => if a.length + b.length ≤ lineN then some (.tuple (a ++ b)) else none
  | .list a, .list b => if a.length + b.length ≤ lineN then some (.list (a ++ b)) else none
  | _, _ => none
def catF : D → D → Option (List D)
  | .list a, .list b => if a.length + b.length ≤ lineN then some (a ++ b) else none
  | _, _ => none
def subD : D → D → Option D
  | .int a, .int b => some (.int (a - b))
  | _, _ => none
def mulD : D → D → Option D
  | .int a, .int b => if (Builtin.Int.intBits a : Int) + (Builtin.Int.intBits b : Int) ≤ 134217728 then some (.int (a * b)) else none
  | _, _ => none
def fdivD : D → D → Option D
  | .int a, .int b => if 0 < b ∧ b.natAbs.log2 < 9000 then some (.int (a / b)) else none
  | _, _ => none
def modD : D → D → Option D
  | .int a, .int b => if 0 < b then some (.int (a % b)) else none
  | _, _ => none
def powD : D → D → Option D
  | .int a, .int b => if 0 ≤ b ∧ b ≤ 1000000 ∧ a.natAbs < 2 ^ 64 then some (.int (a ^ b.toNat)) else none
  | _, _ => none
def shlD : D → D → Option D
  | .int a, .int b => if 0 ≤ b ∧ (Builtin.Int.intBits a : Int) + b ≤ 134217728 then some (.int (a * 2 ^ b.toNat)) else none
  | _, _ => none
def shrD : D → D → Option D
  | .int a, .int b => if 0 ≤ b then some (.int (a / 2 ^ b.toNat)) else none
  | _, _ => none
def negD : D → Option D
  | .int a => some (.int (-a))
  | _ => none
section
variable {X : Cx}
abbrev rAdd (K : PySem.W.Frag) : R2 := fun x y H Q => (rI0 fun i j => .int (i + j)) x y H Q ∨ (∃ i k, x = .int i ∧ y = .bl k ∧ Q (.int (i + b2i k)) H) ∨ (∃ i j, x = .str i ∧ y = .str j ∧ i.length + j.length ≤ sizeLine ∧ Q (.str (i ++ j)) H) ∨ rCatA K x y H Q ∨ rCat x y H Q
theorem op_addM : OpR X (binaryOp .Add) (rAdd X.K) := op_add.or (op_add_ib.or (op_add_str.or (op_catA.or op_cat)))
theorem g_add : Op2 X.K (rAdd X.K) addD := by
  intro c B σ H μ x y d e z Q r hx hy hz k
  unfold addD at hz
  split at hz
  · cases hz; exact .inl ⟨_, _, hx.int, hy.int, k.go r (.int _)⟩
  · cases hz
    refine .inr (.inl ⟨_, _, hx.int, hy.bool, ?_⟩)
    exact k.go r (.int _)
  · split at hz
    · rename_i hl
      cases hz
      exact .inr (.inr (.inl ⟨_, _, hx.str, hy.str, by rw [sizeLine_eq]; exact hl, k.go r (.str _)⟩))
    · cases hz
  · split at hz
    · rename_i hl
      cases hz
      obtain ⟨p, vs, rfl, h1, h1', h2⟩ := hx.tuple r.r0.ext
      obtain ⟨q, us, rfl, h3, h3', h4⟩ := hy.tuple r.r0.ext
      refine .inr (.inr (.inr (.inl ⟨p, q, vs, us, rfl, rfl, h1, h3, by rw [h2.length, h4.length, sizeLine_eq]; exact hl, fun e => ?_, fun _ e => ?_, fun _ _ a ha => ?_⟩)))
      · subst e; cases h2
        exact k.go r (.tup h3' h4)
      · subst e; cases h4
        rw [List.append_nil] at k
        exact k.go r (.tup h1' h2)
      · exact k.tup r (h2.append h4) ha
    · cases hz
  · split at hz
    · rename_i hl
      cases hz
      obtain ⟨p, vs, rfl, h1, h2⟩ := hx.list r.r0.ext
      obtain ⟨q, us, rfl, h3, h4⟩ := hy.list r.r0.ext
      exact .inr (.inr (.inr (.inr ⟨p, q, vs, us, rfl, rfl, h1, h3, by rw [h2.length, h4.length, sizeLine_eq]; exact hl, fun a ha => k.lst r (h2.append h4) ha⟩)))
    · cases hz
  · cases hz
theorem g_sub : Op2 X.K (rI0 fun i j => .int (i - j)) subD := by
  intro c B σ H μ x y d e z Q r hx hy hz k
  unfold subD at hz
  split at hz
  · cases hz; exact ⟨_, _, hx.int, hy.int, k.go r (.int _)⟩
  · cases hz
theorem g_mul : Op2 X.K (rI CMulX fun i j => .int (i * j)) mulD := by
  intro c B σ H μ x y d e z Q r hx hy hz k
  unfold mulD at hz
  split at hz
  · split at hz
    · rename_i hc
      cases hz; exact ⟨_, _, hx.int, hy.int, hc, k.go r (.int _)⟩
    · cases hz
  · cases hz
theorem g_fdiv : Op2 X.K (rI CDivW fun i j => .int (i / j)) fdivD := by
  intro c B σ H μ x y d e z Q r hx hy hz k
  unfold fdivD at hz
  split at hz
  · split at hz
    · rename_i hc
      cases hz; exact ⟨_, _, hx.int, hy.int, hc, k.go r (.int _)⟩
    · cases hz
  · cases hz
theorem g_mod : Op2 X.K (rI (fun _ j => 0 < j) fun i j => .int (i % j)) modD := by
  intro c B σ H μ x y d e z Q r hx hy hz k
  unfold modD at hz
  split at hz
  · split at hz
    · rename_i hc
      cases hz; exact ⟨_, _, hx.int, hy.int, hc, k.go r (.int _)⟩
    · cases hz
  · cases hz
theorem g_pow : Op2 X.K (rI CPow fun i j => .int (i ^ j.toNat)) powD := by
  intro c B σ H μ x y d e z Q r hx hy hz k
  unfold powD at hz
  split at hz
  · split at hz
    · rename_i hc
      cases hz; exact ⟨_, _, hx.int, hy.int, hc, k.go r (.int _)⟩
    · cases hz
  · cases hz
theorem g_shl : Op2 X.K (rI CShl fun i j => .int (i * 2 ^ j.toNat)) shlD := by
  intro c B σ H μ x y d e z Q r hx hy hz k
  unfold shlD at hz
  split at hz
  · split at hz
    · rename_i hc
      cases hz; exact ⟨_, _, hx.int, hy.int, hc, k.go r (.int _)⟩
    · cases hz
  · cases hz
theorem g_shr : Op2 X.K (rI (fun _ j => 0 ≤ j) fun i j => .int (i / 2 ^ j.toNat)) shrD := by
  intro c B σ H μ x y d e z Q r hx hy hz k
  unfold shrD at hz
  split at hz
  · split at hz
    · rename_i hc
      cases hz; exact ⟨_, _, hx.int, hy.int, hc, k.go r (.int _)⟩
    · cases hz
  · cases hz
theorem g_neg : Op1 X.K (rU fun i => .int (-i)) negD := by
  intro c B σ H μ x d z Q r hx hz k
  unfold negD at hz
  split at hz
  · cases hz; exact ⟨_, hx.int, k.go r (.int _)⟩
  · cases hz
variable {a b : Expr} {ma mb : M O} {pos : Pos}
theorem e_add (ha : DO X a ma) (hb : DO X b mb) : DE X (.BinOp a .Add b pos) (m2 addD ma mb) := e_op op_addM g_add ha hb
theorem e_sub (ha : DO X a ma) (hb : DO X b mb) : DE X (.BinOp a .Sub b pos) (m2 subD ma mb) := e_op op_sub g_sub ha hb
theorem e_mul (ha : DO X a ma) (hb : DO X b mb) : DE X (.BinOp a .Mult b pos) (m2 mulD ma mb) := e_op op_mulX g_mul ha hb
theorem e_fdiv (ha : DO X a ma) (hb : DO X b mb) : DE X (.BinOp a .FloorDiv b pos) (m2 fdivD ma mb) := e_op op_fdivW g_fdiv ha hb
theorem e_mod (ha : DO X a ma) (hb : DO X b mb) : DE X (.BinOp a .Mod b pos) (m2 modD ma mb) := e_op op_mod g_mod ha hb
theorem e_pow (ha : DO X a ma) (hb : DO X b mb) : DE X (.BinOp a .Pow b pos) (m2 powD ma mb) := e_op op_pow g_pow ha hb
theorem e_shl (ha : DO X a ma) (hb : DO X b mb) : DE X (.BinOp a .LShift b pos) (m2 shlD ma mb) := e_op op_shlW g_shl ha hb
theorem e_shr (ha : DO X a ma) (hb : DO X b mb) : DE X (.BinOp a .RShift b pos) (m2 shrD ma mb) := e_op op_shr g_shr ha hb
theorem e_neg (ha : DO X a ma) : DE X (.UnaryOp .USub a pos) (m1 negD ma) := e_un un_neg g_neg ha
/-- xs + ys of lists: a new one -/
def m2F (g : D → D → Option (List D)) (ma mb : M O) : M (List D) := fun μ => (ma μ).bind fun p => (mb p.2).bind fun q => (look p.1 q.2).bind fun d => (look q.1 q.2).bind fun e => (g d e).bind fun z => some (z, q.2)
theorem f_cat (ha : DO X a ma) (hb : DO X b mb) : DF X (.BinOp a .Add b pos) (m2F catF ma mb) := by
  obtain ⟨ta, pa, oa⟩ := ha.ex
  obtain ⟨tb, pb, ob⟩ := hb.ex
  refine ⟨_, pe_op op_cat pa pb, fun c B σ H μ z μ' Q rel hm k => ?_⟩
  unfold m2F at hm
  simp only [Option.bind_eq_some_iff] at hm
  obtain ⟨⟨o1, μ1⟩, h1, ⟨o2, μ2⟩, h2, d, h3, e, h4, z', h5, h6⟩ := hm
  cases h6
  refine oa c B σ H μ o1 μ1 _ rel h1 fun B1 H1 x e1 r1 x1 => ?_
  refine ob c B1 σ H1 μ1 o2 _ _ r1 h2 fun B2 H2 y e2 r2 y2 => ?_
  have hx := look_ok r2 (x1.mono e2) h3
  have hy := look_ok r2 y2 h4
  unfold catF at h5
  split at h5
  · split at h5
    · rename_i hl
      cases h5
      obtain ⟨p, vs, rfl, h7, h8⟩ := hx.list r2.r0.ext
      obtain ⟨q, us, rfl, h9, h10⟩ := hy.list r2.r0.ext
      refine ⟨p, q, vs, us, rfl, rfl, h7, h9, by rw [h8.length, h10.length, sizeLine_eq]; exact hl, fun a ha => ?_⟩
      obtain ⟨f0, fb⟩ := r2.r0.fresh ha
      exact k B2 _ a _ (e1.trans e2) (r2.hide ha) upd_same fb f0 (r2.noOwn ha) (h8.append h10)
    · cases h5
  · cases h5
end

/-! ### comparisons -/
def eqD (d e : D) : Option D := if (SeqAt.shaped d && SeqAt.shaped e) = true then some (.bool (PyData.eqv d e)) else none
def neD (d e : D) : Option D := if (SeqAt.shaped d && SeqAt.shaped e) = true then some (.bool (!PyData.eqv d e)) else none
def ltD : D → D → Option D
  | .int a, .int b => some (.bool (decide (a < b)))
  | .str a, .str b => some (.bool (decide (a.cps.toList < b.cps.toList)))
  | _, _ => none
def leD : D → D → Option D
  | .int a, .int b => some (.bool (decide (a ≤ b)))
  | .str a, .str b => some (.bool (!decide (b.cps.toList < a.cps.toList)))
  | _, _ => none
def gtD : D → D → Option D
  | .int a, .int b => some (.bool (decide (b < a)))
  | .str a, .str b => some (.bool (decide (b.cps.toList < a.cps.toList)))
  | _, _ => none
def geD : D → D → Option D
  | .int a, .int b => some (.bool (decide (b ≤ a)))
  | .str a, .str b => some (.bool (!decide (a.cps.toList < b.cps.toList)))
  | _, _ => none
def isNone : D → Bool
  | .none => true
  | _ => false
/-- x is None; True is True -/
def isD : D → D → Option D
  | d, .none => some (.bool (isNone d))
  | .bool a, .bool b => some (.bool (decide (a = b)))
  | _, _ => none
def isNotD : D → D → Option D
  | d, .none => some (.bool (!isNone d))
  | .bool a, .bool b => some (.bool (!decide (a = b)))
  | _, _ => none
def inD : D → D → Option D
  | .str a, .str b => some (.bool (!(Builtin.Str.occurrences b a 0 b.length 1).isEmpty))
  | d, .list ds => if (SeqAt.shaped d && SeqAt.shaped (.list ds)) = true then some (.bool (ds.any fun z => PyData.eqv z d)) else none
  | d, .tuple ds => if (flat d && ds.all flat) = true then some (.bool (ds.any fun z => PyData.eqv z d)) else none
  | _, _ => none
def notInD (d e : D) : Option D := (inD d e).bind fun z => match z with
  | .bool b => some (.bool (!b))
  | _ => none
theorem flat_V {K : PySem.W.Frag} {st : Option (Addr × Addr)} {B : Hp} {x : V} {d : D} (h : Rp K st B x d) (f : flat d = true) : flatV x = true := by
  cases h <;> first | rfl | cases f
theorem flat_eqV {K : PySem.W.Frag} {st : Option (Addr × Addr)} {B : Hp} {x y : V} {d e : D} (h : Rp K st B x d) (h' : Rp K st B y e) (f : flat d = true) (f' : flat e = true) : eqV y x = PyData.eqv e d := by
  cases h <;> first
    | (cases f; done)
    | (cases h' <;> first | (cases f'; done) | simp [eqV, PyData.eqv])
theorem flat_in {K : PySem.W.Frag} {st : Option (Addr × Addr)} {B : Hp} {x : V} {d : D} (h : Rp K st B x d) (f : flat d = true) : ∀ {vs : List V} {ds : List D}, RpA K st B vs ds → ds.all flat = true → vs.all flatV = true ∧ inV x vs = ds.any fun z => PyData.eqv z d
  | _, _, .nil, _ => ⟨rfl, rfl⟩
  | _, _, .cons (v := v) (d := e) r t, g => by
    rw [List.all_cons, Bool.and_eq_true] at g
    obtain ⟨h1, h2⟩ := flat_in h f t g.2
    refine ⟨by rw [List.all_cons, flat_V r g.1, h1]; rfl, ?_⟩
    unfold inV at h2 ⊢
    rw [List.any_cons, List.any_cons, h2, flat_eqV h r f g.1]
section
variable {X : Cx}
theorem g_eq : Op2 X.K (rEqD X.K) eqD := by
  intro c B σ H μ x y d e z Q r hx hy hz k
  unfold eqD at hz
  split at hz
  · rename_i hs
    rw [Bool.and_eq_true] at hs
    cases hz
    exact ⟨d, e, hx.dp r.r0.ext (SeqAt.canLay_of_shaped hs.1), hy.dp r.r0.ext (SeqAt.canLay_of_shaped hs.2), hs.1, hs.2, k.go r (.bl _)⟩
  · cases hz
theorem g_ne : Op2 X.K (rNeD X.K) neD := by
  intro c B σ H μ x y d e z Q r hx hy hz k
  unfold neD at hz
  split at hz
  · rename_i hs
    rw [Bool.and_eq_true] at hs
    cases hz
    exact ⟨d, e, hx.dp r.r0.ext (SeqAt.canLay_of_shaped hs.1), hy.dp r.r0.ext (SeqAt.canLay_of_shaped hs.2), hs.1, hs.2, k.go r (.bl _)⟩
  · cases hz
abbrev rOr (r r' : R2) : R2 := fun x y H Q => r x y H Q ∨ r' x y H Q
theorem g_lt : Op2 X.K (rOr (rI0 fun i j => .bl (decide (i < j))) (fun x y H Q => ∃ i j, x = .str i ∧ y = .str j ∧ Q (.bl (decide (i.cps.toList < j.cps.toList))) H)) ltD := by
  intro c B σ H μ x y d e z Q r hx hy hz k
  unfold ltD at hz
  split at hz
  · cases hz; exact .inl ⟨_, _, hx.int, hy.int, k.go r (.bl _)⟩
  · cases hz; exact .inr ⟨_, _, hx.str, hy.str, k.go r (.bl _)⟩
  · cases hz
theorem g_le : Op2 X.K (rOr (rI0 fun i j => .bl (decide (i ≤ j))) (fun x y H Q => ∃ i j, x = .str i ∧ y = .str j ∧ Q (.bl (!decide (j.cps.toList < i.cps.toList))) H)) leD := by
  intro c B σ H μ x y d e z Q r hx hy hz k
  unfold leD at hz
  split at hz
  · cases hz; exact .inl ⟨_, _, hx.int, hy.int, k.go r (.bl _)⟩
  · cases hz; exact .inr ⟨_, _, hx.str, hy.str, k.go r (.bl _)⟩
  · cases hz
theorem g_gt : Op2 X.K (rOr (rI0 fun i j => .bl (decide (j < i))) (fun x y H Q => ∃ i j, x = .str i ∧ y = .str j ∧ Q (.bl (decide (j.cps.toList < i.cps.toList))) H)) gtD := by
  intro c B σ H μ x y d e z Q r hx hy hz k
  unfold gtD at hz
  split at hz
  · cases hz; exact .inl ⟨_, _, hx.int, hy.int, k.go r (.bl _)⟩
  · cases hz; exact .inr ⟨_, _, hx.str, hy.str, k.go r (.bl _)⟩
  · cases hz
theorem g_ge : Op2 X.K (rOr (rI0 fun i j => .bl (decide (j ≤ i))) (fun x y H Q => ∃ i j, x = .str i ∧ y = .str j ∧ Q (.bl (!decide (i.cps.toList < j.cps.toList))) H)) geD := by
  intro c B σ H μ x y d e z Q r hx hy hz k
  unfold geD at hz
  split at hz
  · cases hz; exact .inl ⟨_, _, hx.int, hy.int, k.go r (.bl _)⟩
  · cases hz; exact .inr ⟨_, _, hx.str, hy.str, k.go r (.bl _)⟩
  · cases hz
theorem lk_none {K : PySem.W.Frag} {st : Option (Addr × Addr)} {B H : Hp} {x : V} {d : D} (h : Lk K st B H x d) : decide (x = .non) = isNone d := by
  rcases h with h | ⟨p, vs, ds, rfl, rfl, _⟩ | ⟨p, h, tk, ks, rfl, rfl, _⟩
  · cases h <;> simp [isNone]
  · simp [isNone]
  · simp [isNone]
theorem g_is : Op2 X.K (rOr (fun x y H Q => y = .non ∧ Q (.bl (decide (x = .non))) H) rIsB) isD := by
  intro c B σ H μ x y d e z Q r hx hy hz k
  unfold isD at hz
  split at hz
  · cases hz
    refine .inl ⟨hy.none, ?_⟩
    rw [lk_none hx]
    exact k.go r (.bl _)
  · cases hz; exact .inr ⟨_, _, hx.bool, hy.bool, k.go r (.bl _)⟩
  · cases hz
theorem g_isNot : Op2 X.K (rOr (fun x y H Q => y = .non ∧ Q (.bl (!decide (x = .non))) H) rNotB) isNotD := by
  intro c B σ H μ x y d e z Q r hx hy hz k
  unfold isNotD at hz
  split at hz
  · cases hz
    refine .inl ⟨hy.none, ?_⟩
    rw [lk_none hx]
    exact k.go r (.bl _)
  · cases hz; exact .inr ⟨_, _, hx.bool, hy.bool, k.go r (.bl _)⟩
  · cases hz
abbrev rInS : R2 := fun x y H Q => ∃ i j, x = .str i ∧ y = .str j ∧ Q (.bl (!(Builtin.Str.occurrences j i 0 j.length 1).isEmpty)) H
abbrev rNotInS : R2 := fun x y H Q => ∃ i j, x = .str i ∧ y = .str j ∧ Q (.bl (!(!(Builtin.Str.occurrences j i 0 j.length 1).isEmpty))) H
theorem lk_flat {K : PySem.W.Frag} {st : Option (Addr × Addr)} {B H : Hp} {x : V} {d : D} (h : Lk K st B H x d) (f : flat d = true) : Rp K st B x d := by
  rcases h with h | ⟨p, vs, ds, rfl, rfl, _⟩ | ⟨p, h, tk, ks, rfl, rfl, _⟩
  · exact h
  · cases f
  · cases f
theorem g_in : Op2 X.K (rOr rInS (rOr (rInD X.K) (rIn X.K false))) inD := by
  intro c B σ H μ x y d e z Q r hx hy hz k
  unfold inD at hz
  split at hz
  · cases hz; exact .inl ⟨_, _, hx.str, hy.str, k.go r (.bl _)⟩
  · split at hz
    · rename_i hs
      rw [Bool.and_eq_true] at hs
      cases hz
      exact .inr (.inl ⟨_, _, hx.dp r.r0.ext (SeqAt.canLay_of_shaped hs.1), hy.dp r.r0.ext (SeqAt.canLay_of_shaped hs.2), hs.1, hs.2, k.go r (.bl _)⟩)
    · cases hz
  · split at hz
    · rename_i hs
      rw [Bool.and_eq_true] at hs
      cases hz
      obtain ⟨p, vs, rfl, h1, h1', h2⟩ := hy.tuple r.r0.ext
      have hx' := lk_flat hx hs.1
      obtain ⟨h3, h4⟩ := flat_in hx' hs.1 h2 hs.2
      refine .inr (.inr ⟨p, vs, rfl, .inr h1, flat_V hx' hs.1, h3, ?_⟩)
      rw [if_neg Bool.false_ne_true, h4]
      exact k.go r (.bl _)
    · cases hz
  · cases hz
theorem g_notIn : Op2 X.K (rOr rNotInS (rOr (rNotInD X.K) (rIn X.K true))) notInD := by
  intro c B σ H μ x y d e z Q r hx hy hz k
  unfold notInD inD at hz
  split at hz
  · cases hz; exact .inl ⟨_, _, hx.str, hy.str, k.go r (.bl _)⟩
  · split at hz
    · rename_i hs
      rw [Bool.and_eq_true] at hs
      cases hz
      exact .inr (.inl ⟨_, _, hx.dp r.r0.ext (SeqAt.canLay_of_shaped hs.1), hy.dp r.r0.ext (SeqAt.canLay_of_shaped hs.2), hs.1, hs.2, k.go r (.bl _)⟩)
    · cases hz
  · split at hz
    · rename_i hs
      rw [Bool.and_eq_true] at hs
      cases hz
      obtain ⟨p, vs, rfl, h1, h1', h2⟩ := hy.tuple r.r0.ext
      have hx' := lk_flat hx hs.1
      obtain ⟨h3, h4⟩ := flat_in hx' hs.1 h2 hs.2
      refine .inr (.inr ⟨p, vs, rfl, .inr h1, flat_V hx' hs.1, h3, ?_⟩)
      rw [if_pos rfl, h4]
      exact k.go r (.bl _)
    · cases hz
  · cases hz
/-- a comparison's rule and mirror, by the operator -/
structure CmpR (X : Cx) (op : CmpOp) (g : D → D → Option D) : Prop where
  ex : ∃ r, OpR X (compareOp op) r ∧ Op2 X.K r g
theorem c_eq (hu : X.A.units + 64 < cLine) : CmpR X .Eq eqD := ⟨_, op_eqD hu, g_eq⟩
theorem c_ne (hu : X.A.units + 64 < cLine) : CmpR X .NotEq neD := ⟨_, op_neD hu, g_ne⟩
theorem c_lt : CmpR X .Lt ltD := ⟨_, OpR.or op_lt op_lt_str, g_lt⟩
theorem c_le : CmpR X .LtE leD := ⟨_, OpR.or op_le op_le_str, g_le⟩
theorem c_gt : CmpR X .Gt gtD := ⟨_, OpR.or op_gt op_gt_str, g_gt⟩
theorem c_ge : CmpR X .GtE geD := ⟨_, OpR.or op_ge op_ge_str, g_ge⟩
theorem c_is : CmpR X .Is isD := ⟨_, OpR.or op_isN op_isBl, g_is⟩
theorem c_isNot : CmpR X .IsNot isNotD := ⟨_, OpR.or op_notN op_notBl, g_isNot⟩
theorem c_in (hu : X.A.units + 65 < cLine) : CmpR X .In inD := ⟨_, OpR.or op_in_str (OpR.or (op_inD hu) op_in_seq), g_in⟩
theorem c_notIn (hu : X.A.units + 65 < cLine) : CmpR X .NotIn notInD := ⟨_, OpR.or op_notin_str (OpR.or (op_notInD hu) op_notIn_seq), g_notIn⟩
variable {a b c : Expr} {ma mb mc : M O} {pos : Pos} {op op' : CmpOp} {g g' : D → D → Option D}
theorem e_cm (h : CmpR X op g) (ha : DO X a ma) (hb : DO X b mb) (hm : behindInMarks op b = false := by first | exact nomark _ | rfl | with_unfolding_all rfl) : DE X (.Compare a [op] [b] pos) (m2 g ma mb) := by
  obtain ⟨r, h1, h2⟩ := h.ex
  exact e_cmp h1 h2 ha hb hm
theorem t_cm (h : CmpR X op g) (ha : DO X a ma) (hb : DO X b mb) (hm : behindInMarks op b = false := by first | exact nomark _ | rfl | with_unfolding_all rfl) : DT X (.Compare a [op] [b] pos) (mB (m2 g ma mb)) := by
  obtain ⟨r, h1, h2⟩ := h.ex
  exact t_cmp h1 h2 ha hb hm
theorem e_cm2 (h : CmpR X op g) (h' : CmpR X op' g') (ha : DO X a ma) (hb : DO X b mb) (hc : DO X c mc) (hm : lastMarks [op, op'] [b, c] = false := by with_unfolding_all rfl) : DE X (.Compare a [op, op'] [b, c] pos) (mChain g g' ma mb mc) := by
  obtain ⟨r, h1, h2⟩ := h.ex
  obtain ⟨r', h1', h2'⟩ := h'.ex
  exact e_chain h1 h2 h1' h2' ha hb hc hm
theorem t_cm2 (h : CmpR X op g) (h' : CmpR X op' g') (ha : DO X a ma) (hb : DO X b mb) (hc : DO X c mc) (hm : lastMarks [op, op'] [b, c] = false := by with_unfolding_all rfl) : DT X (.Compare a [op, op'] [b, c] pos) (mB (mChain g g' ma mb mc)) := by
  obtain ⟨r, h1, h2⟩ := h.ex
  obtain ⟨r', h1', h2'⟩ := h'.ex
  exact t_chain h1 h2 h1' h2' ha hb hc hm
end

/-! ### items, slices -/
def ixD : D → D → Option D
  | .list ds, .int i => atI ds i
  | .tuple ds, .int i => atI ds i
  | .str x, .int i => if x.length ≤ lineN then (atI x.cps.toList i).bind fun c => some (.str ⟨#[c]⟩) else none
  | _, _ => none
theorem atI_len {α β : Type} {xs : List α} {ys : List β} (h : xs.length = ys.length) (i : Int) : ixN xs.length i = ixN ys.length i := by rw [h]
theorem atI_rp {K : PySem.W.Frag} {st : Option (Addr × Addr)} {B : Hp} {vs : List V} {ds : List D} {i : Int} {d : D} (r : RpA K st B vs ds) (h : atI ds i = some d) : ∃ v, atI vs i = some v ∧ Rp K st B v d := by
  unfold atI at h ⊢
  rw [r.length]
  cases q : ixN ds.length i with
  | none => rw [q] at h; cases h
  | some j =>
    rw [q] at h
    exact r.get h
def slD : D → Option Int → Option Int → Option D
  | .tuple ds, lo, hi => some (.tuple ((ds.drop (HT.sIx ds.length 0 lo)).take (HT.sIx ds.length ds.length hi - HT.sIx ds.length 0 lo)))
  | .str x, lo, hi => if x.length ≤ lineN then some (.str (cutS x lo hi)) else none
  | _, _, _ => none
def slF : D → Option Int → Option Int → Option (List D)
  | .list ds, lo, hi => some ((ds.drop (HT.sIx ds.length 0 lo)).take (HT.sIx ds.length ds.length hi - HT.sIx ds.length 0 lo))
  | _, _, _ => none
theorem cut_rp {K : PySem.W.Frag} {st : Option (Addr × Addr)} {B : Hp} {vs : List V} {ds : List D} (r : RpA K st B vs ds) (lo hi : Option Int) :
    RpA K st B (cutV vs lo hi) ((ds.drop (HT.sIx ds.length 0 lo)).take (HT.sIx ds.length ds.length hi - HT.sIx ds.length 0 lo)) := by
  unfold cutV
  rw [r.length]
  exact (r.drop _).take _
def OkP (K : PySem.W.Frag) (t : TO) (m : M (Option Int)) : Prop := ∀ (c : C) (B : Hp) (σ : St) (H : Hp) (μ : MS) (o : Option Int) (μ' : MS) (Q : Option Int → Hp → Prop), Rel K c B σ H μ → m μ = some (o, μ') →
  (∀ B' H', Ext B B' → Rel K c B' σ H' μ' → Q o H') → t σ H Q
/-- a part of a slice -/
structure DP (X : Cx) (e : Option Expr) (m : M (Option Int)) : Prop where
  ex : ∃ t, PO X e t ∧ OkP X.K t m
def pNone : M (Option Int) := fun μ => some (none, μ)
def pSome (m : M D) : M (Option Int) := fun μ => (m μ).bind fun p => match p.1 with
  | .int i => some (some i, p.2)
  | _ => none
section
variable {X : Cx} {a b e : Expr} {ma mb : M O} {pos p2 : Pos} {lo hi : Option Expr} {ml mh : M (Option Int)}
theorem g_ix : Op2 X.K (rIx X.K) ixD := by
  intro c B σ H μ x y d e z Q r hx hy hz k
  unfold ixD at hz
  split at hz
  · obtain ⟨p, vs, rfl, h1, h2⟩ := hx.list r.r0.ext
    obtain ⟨v, h3, h4⟩ := atI_rp h2 hz
    exact .inl ⟨p, vs, _, v, rfl, hy.int, SqL.of h1, h3, k.go r h4⟩
  · obtain ⟨p, vs, rfl, h1, h1', h2⟩ := hx.tuple r.r0.ext
    obtain ⟨v, h3, h4⟩ := atI_rp h2 hz
    exact .inr (.inl ⟨p, vs, _, v, rfl, hy.int, h1, h3, k.go r h4⟩)
  · split at hz
    · rename_i hl
      simp only [Option.bind_eq_some_iff] at hz
      obtain ⟨c', h1, h2⟩ := hz
      cases h2
      exact .inr (.inr ⟨_, _, c', hx.str, hy.int, by rw [sizeLine_eq]; exact hl, h1, k.go r (.str _)⟩)
    · cases hz
  · cases hz
theorem e_at (ha : DO X a ma) (hb : DO X b mb) (hs : PlainIx b := by intro _ _; rfl) : DE X (.Subscript a b pos) (m2 ixD ma mb) := e_ix ix_seq g_ix ha hb hs
theorem p_none : DP X none pNone := ⟨_, po_none, fun c B σ H μ o μ' Q rel hm k => by cases hm; exact k B H (Ext.refl _) rel⟩
theorem p_some {m : M D} (h : DE X e m) : DP X (some e) (pSome m) := by
  obtain ⟨t, ht, ok⟩ := h.ex
  refine ⟨_, po_some ht, fun c B σ H μ o μ' Q rel hm k => ?_⟩
  unfold pSome at hm
  simp only [Option.bind_eq_some_iff] at hm
  obtain ⟨⟨d, μ1⟩, h1, h2⟩ := hm
  refine ok c B σ H μ d μ1 _ rel h1 fun B1 H1 x e1 r1 x1 => ?_
  split at h2
  · rename_i i hd
    cases h2
    have hd' : d = .int i := hd
    subst hd'
    cases x1
    exact ⟨i, rfl, k B1 H1 e1 r1⟩
  · cases h2
def mSl {α : Type} (g : D → Option Int → Option Int → Option α) (ma : M O) (ml mh : M (Option Int)) : M α := fun μ => (ma μ).bind fun p => (ml p.2).bind fun l => (mh l.2).bind fun h => (look p.1 h.2).bind fun d => (g d l.1 h.1).bind fun z => some (z, h.2)
theorem SlR.or {r r' : V → Option Int → Option Int → Hp → VK → Prop} (h : SlR X r) (h' : SlR X r') : SlR X (fun x lo hi H Q => r x lo hi H Q ∨ r' x lo hi H Q) := by
  intro pins s σ H x v vl vu lo hi sl Q I rx hs pl pu q
  rcases q with q | q
  · exact h pins s σ H x v vl vu lo hi sl Q I rx hs pl pu q
  · exact h' pins s σ H x v vl vu lo hi sl Q I rx hs pl pu q
theorem e_slice (ha : DO X a ma) (hl : DP X lo ml) (hh : DP X hi mh) : DE X (.Subscript a (.Slice lo hi none p2) pos) (mSl slD ma ml mh) := by
  obtain ⟨ta, pa, oa⟩ := ha.ex
  obtain ⟨tl, pl, ol⟩ := hl.ex
  obtain ⟨th, ph, oh⟩ := hh.ex
  refine ⟨_, pe_slice (SlR.or sl_tupA sl_str) pa pl ph, fun c B σ H μ z μ' Q rel hm k => ?_⟩
  unfold mSl at hm
  simp only [Option.bind_eq_some_iff] at hm
  obtain ⟨⟨o1, μ1⟩, h1, ⟨l, μ2⟩, h2, ⟨h, μ3⟩, h3, d, h4, z', h5, h6⟩ := hm
  cases h6
  refine oa c B σ H μ o1 μ1 _ rel h1 fun B1 H1 x e1 r1 x1 => ?_
  refine ol c B1 σ H1 μ1 l μ2 _ r1 h2 fun B2 H2 e2 r2 => ?_
  refine oh c B2 σ H2 μ2 h _ _ r2 h3 fun B3 H3 e3 r3 => ?_
  have hx := look_ok r3 ((x1.mono e2).mono e3) h4
  have k' := k.ext ((e1.trans e2).trans e3)
  unfold slD at h5
  split at h5
  · cases h5
    obtain ⟨p, vs, rfl, h7, h7', h8⟩ := hx.tuple r3.r0.ext
    refine .inl ⟨p, vs, rfl, h7, fun hw => ?_, fun hw q hq => ?_⟩
    · rw [h8.length] at hw
      rw [hw.1, hw.2, List.drop_zero, Nat.sub_zero, List.take_length] at k'
      exact k'.go r3 (.tup h7' h8)
    · exact k'.tup r3 (cut_rp h8 l h) hq
  · split at h5
    · rename_i hl
      cases h5
      exact .inr ⟨_, hx.str, by rw [sizeLine_eq]; exact hl, k'.go r3 (.str _)⟩
    · cases h5
  · cases h5
theorem f_slice (ha : DO X a ma) (hl : DP X lo ml) (hh : DP X hi mh) : DF X (.Subscript a (.Slice lo hi none p2) pos) (mSl slF ma ml mh) := by
  obtain ⟨ta, pa, oa⟩ := ha.ex
  obtain ⟨tl, pl, ol⟩ := hl.ex
  obtain ⟨th, ph, oh⟩ := hh.ex
  refine ⟨_, pe_slice sl_list pa pl ph, fun c B σ H μ z μ' Q rel hm k => ?_⟩
  unfold mSl at hm
  simp only [Option.bind_eq_some_iff] at hm
  obtain ⟨⟨o1, μ1⟩, h1, ⟨l, μ2⟩, h2, ⟨h, μ3⟩, h3, d, h4, z', h5, h6⟩ := hm
  cases h6
  refine oa c B σ H μ o1 μ1 _ rel h1 fun B1 H1 x e1 r1 x1 => ?_
  refine ol c B1 σ H1 μ1 l μ2 _ r1 h2 fun B2 H2 e2 r2 => ?_
  refine oh c B2 σ H2 μ2 h _ _ r2 h3 fun B3 H3 e3 r3 => ?_
  have hx := look_ok r3 ((x1.mono e2).mono e3) h4
  unfold slF at h5
  split at h5
  · cases h5
    obtain ⟨p, vs, rfl, h7, h8⟩ := hx.list r3.r0.ext
    refine ⟨p, vs, rfl, SqL.of h7, fun a ha => ?_⟩
    obtain ⟨f0, fb⟩ := r3.r0.fresh ha
    exact k B3 _ a _ ((e1.trans e2).trans e3) (r3.hide ha) upd_same fb f0 (r3.noOwn ha) (cut_rp h8 l h)
  · cases h5
/-- s of unknown kind: a list's slice is known at once -/
def slA : D → Option Int → Option Int → Option D
  | .list ds, lo, hi => (slF (.list ds) lo hi).bind fun z => some (.list z)
  | d, lo, hi => slD d lo hi
theorem e_sliceA (ha : DO X a ma) (hl : DP X lo ml) (hh : DP X hi mh) : DE X (.Subscript a (.Slice lo hi none p2) pos) (mSl slA ma ml mh) := by
  obtain ⟨ta, pa, oa⟩ := ha.ex
  obtain ⟨tl, pl, ol⟩ := hl.ex
  obtain ⟨th, ph, oh⟩ := hh.ex
  refine ⟨_, pe_slice (SlR.or sl_list (SlR.or sl_tupA sl_str)) pa pl ph, fun c B σ H μ z μ' Q rel hm k => ?_⟩
  unfold mSl at hm
  simp only [Option.bind_eq_some_iff] at hm
  obtain ⟨⟨o1, μ1⟩, h1, ⟨l, μ2⟩, h2, ⟨h, μ3⟩, h3, d, h4, z', h5, h6⟩ := hm
  cases h6
  refine oa c B σ H μ o1 μ1 _ rel h1 fun B1 H1 x e1 r1 x1 => ?_
  refine ol c B1 σ H1 μ1 l μ2 _ r1 h2 fun B2 H2 e2 r2 => ?_
  refine oh c B2 σ H2 μ2 h _ _ r2 h3 fun B3 H3 e3 r3 => ?_
  have hx := look_ok r3 ((x1.mono e2).mono e3) h4
  have k' := k.ext ((e1.trans e2).trans e3)
  unfold slA at h5
  split at h5
  · simp only [slF, Option.bind_some] at h5
    cases h5
    obtain ⟨p, vs, rfl, h7, h8⟩ := hx.list r3.r0.ext
    exact .inl ⟨p, vs, rfl, SqL.of h7, fun a ha => k'.lst r3 (cut_rp h8 l h) ha⟩
  · refine .inr ?_
    unfold slD at h5
    split at h5
    · cases h5
      obtain ⟨p, vs, rfl, h7, h7', h8⟩ := hx.tuple r3.r0.ext
      refine .inl ⟨p, vs, rfl, h7, fun hw => ?_, fun hw q hq => ?_⟩
      · rw [h8.length] at hw
        rw [hw.1, hw.2, List.drop_zero, Nat.sub_zero, List.take_length] at k'
        exact k'.go r3 (.tup h7' h8)
      · exact k'.tup r3 (cut_rp h8 l h) hq
    · split at h5
      · rename_i hl
        cases h5
        exact .inr ⟨_, hx.str, by rw [sizeLine_eq]; exact hl, k'.go r3 (.str _)⟩
      · cases h5
    · cases h5
end
end Mi
/-! Mi, fourth part: statements, loops, comprehensions, defs. -/
namespace Mi
open PySem PySem.Spec PyProof.Rows L2

/-! ### statements -/
inductive SR where
  | nx (μ : MS)
  | rt (d : D) (dr : Dr)
  | bk (μ : MS)
  | ct (μ : MS)
  | bad
abbrev MT := MS → SR
def After (K : PySem.W.Frag) (c : C) (B : Hp) (r : SR) (E : Ends) : Prop :=
  match r with
  | .nx μ => ∀ B' σ' H', Ext B B' → Rel K c B' σ' H' μ → E.nx σ' H'
  | .rt d dr => ∀ B' H' v, Ext B B' → Rel0 c B' H' dr → Rp K c.st B' v d → E.rt v H'
  | .bk μ => ∀ B' σ' H', Ext B B' → Rel K c B' σ' H' μ → E.bk σ' H'
  | .ct μ => ∀ B' σ' H', Ext B B' → Rel K c B' σ' H' μ → E.ct σ' H'
  | .bad => False
def OkS (K : PySem.W.Frag) (t : TS) (s : MT) : Prop := ∀ (c : C) (B : Hp) (σ : St) (H : Hp) (μ : MS) (E : Ends), Rel K c B σ H μ → After K c B (s μ) E → t E σ H
structure DS (X : Cx) (st : Stmt) (s : MT) : Prop where
  ex : ∃ t, PS X st t ∧ OkS X.K t s
structure DSs (X : Cx) (st : List Stmt) (s : MT) : Prop where
  ex : ∃ t, PSs X st t ∧ OkS X.K t s
theorem After.ext {K : PySem.W.Frag} {c : C} {B B1 : Hp} {r : SR} {E : Ends} (h : After K c B r E) (e : Ext B B1) : After K c B1 r E := by
  cases r with
  | nx μ => exact fun B' σ' H' a => h B' σ' H' (e.trans a)
  | rt d dr => exact fun B' H' v a => h B' H' v (e.trans a)
  | bk μ => exact fun B' σ' H' a => h B' σ' H' (e.trans a)
  | ct μ => exact fun B' σ' H' a => h B' σ' H' (e.trans a)
  | bad => exact h
def sNil : MT := fun μ => .nx μ
def sSeq (s t : MT) : MT := fun μ => match s μ with
  | .nx μ' => t μ'
  | r => r
def sIf (m : M Bool) (s t : MT) : MT := fun μ => match m μ with
  | some (true, μ') => s μ'
  | some (false, μ') => t μ'
  | none => .bad
def sRet (m : M D) : MT := fun μ => match m μ with
  | some (d, μ') => .rt d μ'.dr
  | none => .bad
def sRetN : MT := fun μ => .rt .none μ.dr
def sDrop (m : M D) : MT := fun μ => match m μ with
  | some (_, μ') => .nx μ'
  | none => .bad
def sSet (i : Nat) (m : M D) : MT := fun μ => match m μ with
  | some (d, μ') => .nx (setS μ' i (.val d))
  | none => .bad
def sNew (i : Nat) (m : M (List D)) : MT := fun μ => match m μ with
  | some (ds, μ') => .nx (setS μ' i (.own ds))
  | none => .bad
def sAug (g : D → D → Option D) (i : Nat) (m : M D) : MT := fun μ => match μ.sl[i]? with
  | some (.val x) => (match m μ with
    | some (y, μ') => (match g x y with
      | some z => .nx (setS μ' i (.val z))
      | none => .bad)
    | none => .bad)
  | _ => .bad
def sBreak : MT := fun μ => .bk μ
def sCont : MT := fun μ => .ct μ
section
variable {X : Cx} {st : Stmt} {rest : List Stmt} {s t : MT} {e : Expr} {m : M D} {pos : Pos}
theorem ss_nil : DSs X [] sNil := ⟨_, pss_nil, fun c B σ H μ E r a => a B σ H (Ext.refl _) r⟩
theorem ok_seq {t1 t2 : TS} (h1 : OkS X.K t1 s) (h2 : OkS X.K t2 t) : OkS X.K (tSeq t1 t2) (sSeq s t) := by
  intro c B σ H μ E r a
  refine h1 c B σ H μ _ r ?_
  unfold sSeq at a
  cases q : s μ with
  | nx μ' =>
    rw [q] at a
    exact fun B' σ' H' e r' => h2 c B' σ' H' μ' E r' (a.ext e)
  | rt d dr => rw [q] at a; exact a
  | bk μ' => rw [q] at a; exact a
  | ct μ' => rw [q] at a; exact a
  | bad => rw [q] at a; exact a
theorem ss_cons (h1 : DS X st s) (h2 : DSs X rest t) : DSs X (st :: rest) (sSeq s t) := by
  obtain ⟨t1, p1, o1⟩ := h1.ex
  obtain ⟨t2, p2, o2⟩ := h2.ex
  exact ⟨_, pss_cons p1 p2, ok_seq o1 o2⟩
theorem ss_one (h : DS X st s) : DSs X [st] s := by
  obtain ⟨t, p, o⟩ := h.ex
  exact ⟨_, pss_one p, o⟩
theorem s_pass : DS X (.Pass pos) sNil := ⟨_, ps_pass, fun c B σ H μ E r a => a B σ H (Ext.refl _) r⟩
theorem s_break : DS X (.Break pos) sBreak := ⟨_, ps_break, fun c B σ H μ E r a => a B σ H (Ext.refl _) r⟩
theorem s_cont : DS X (.Continue pos) sCont := ⟨_, ps_continue, fun c B σ H μ E r a => a B σ H (Ext.refl _) r⟩
theorem s_doc {x j pos'} : DS X (.Expr (.Constant (.str x) j pos) pos') sNil := ⟨_, ps_doc, fun c B σ H μ E r a => a B σ H (Ext.refl _) r⟩
theorem s_expr (he : DE X e m) (hs : swapsWith e none pos.line X.env = pure false := by rfl) : DS X (.Expr e pos) (sDrop m) := by
  obtain ⟨t, p, o⟩ := he.ex
  refine ⟨_, ps_expr p hs, fun c B σ H μ E r a => ?_⟩
  unfold sDrop at a
  split at a
  · rename_i d μ' hm
    exact o c B σ H μ d μ' _ r hm fun B' H' v e' r' _ => a B' σ H' e' r'
  · exact a.elim
theorem s_ret (he : DE X e m) : DS X (.Return (some e) pos) (sRet m) := by
  obtain ⟨t, p, o⟩ := he.ex
  refine ⟨_, ps_ret p, fun c B σ H μ E r a => ?_⟩
  unfold sRet at a
  split at a
  · rename_i d μ' hm
    exact o c B σ H μ d μ' _ r hm fun B' H' v e' r' hv => a B' H' v e' r'.r0 hv
  · exact a.elim
theorem s_retN : DS X (.Return none pos) sRetN := ⟨_, ps_retN, fun c B σ H μ E r a => a B H _ (Ext.refl _) r.r0 .non⟩
theorem s_if {cnd : Expr} {a b : List Stmt} {mc : M Bool} (hc : DT X cnd mc) (ha : DSs X a s) (hb : DSs X b t) : DS X (.If cnd a b pos) (sIf mc s t) := by
  obtain ⟨tc, pc, oc⟩ := hc.ex
  obtain ⟨ta, pa, oa⟩ := ha.ex
  obtain ⟨tb, pb, ob⟩ := hb.ex
  refine ⟨_, ps_if pc pa pb, fun c B σ H μ E r h => ?_⟩
  unfold sIf at h
  split at h
  · rename_i μ' hm
    refine oc c B σ H μ _ μ' _ r hm fun B' H' e' r' => ?_
    rw [if_pos rfl]
    exact oa c B' σ H' μ' E r' (h.ext e')
  · rename_i μ' hm
    refine oc c B σ H μ _ μ' _ r hm fun B' H' e' r' => ?_
    rw [if_neg Bool.false_ne_true]
    exact ob c B' σ H' μ' E r' (h.ext e')
  · exact h.elim
theorem s_set {i : Nat} {x : Str} {pos' : Pos} (hN : X.N.Nodup) (he : DE X e m) (hi : X.N[i]? = some x := by rfl) (hx : Loc X.env.scope x := by first | exact Or.inl rfl | exact Or.inr rfl) (hs : swapsWith e (some (.Name x pos')) pos.line X.env = pure false := by rfl) (hf : X.fn x = true ∨ X.env.scope.names.lookup x = some .local := by first | exact .inl rfl | exact .inr rfl | assumption) :
    DS X (.Assign [.Name x pos'] e pos) (sSet i m) := by
  obtain ⟨t, p, o⟩ := he.ex
  refine ⟨_, ps_set (i := i) hN hi hx p hs hf, fun c B σ H μ E r a => ?_⟩
  unfold sSet at a
  split at a
  · rename_i d μ' hm
    exact o c B σ H μ d μ' _ r hm fun B' H' v e' r' hv => a B' _ H' e' (r'.putV hv)
  · exact a.elim
theorem s_new {i : Nat} {x : Str} {pos' : Pos} {mf : M (List D)} (hN : X.N.Nodup) (he : DF X e mf) (hi : X.N[i]? = some x := by rfl) (hx : Loc X.env.scope x := by first | exact Or.inl rfl | exact Or.inr rfl) (hs : swapsWith e (some (.Name x pos')) pos.line X.env = pure false := by rfl) (hf : X.fn x = true ∨ X.env.scope.names.lookup x = some .local := by first | exact .inl rfl | exact .inr rfl | assumption) :
    DS X (.Assign [.Name x pos'] e pos) (sNew i mf) := by
  obtain ⟨t, p, o⟩ := he.ex
  refine ⟨_, ps_set (i := i) hN hi hx p hs hf, fun c B σ H μ E r a => ?_⟩
  unfold sNew at a
  split at a
  · rename_i ds μ' hm
    exact o c B σ H μ ds μ' _ r hm fun B' H' q vs e' r' h2 h3 h4 h5 h6 => a B' _ H' e' (r'.putO h2 h3 h4 h6 h5)
  · exact a.elim
theorem s_aug {i : Nat} {x : Str} {op : Operator} {g : D → D → Option D} {f : Int → Int → Int} {pos' : Pos} (hN : X.N.Nodup) (he : DE X e m) (ho : PIp X op (ipI f)) (hg : ∀ a b z, g a b = some z → ∃ i j, a = .int i ∧ b = .int j ∧ z = .int (f i j)) (hi : X.N[i]? = some x := by rfl) (hx : Loc X.env.scope x := by first | exact Or.inl rfl | exact Or.inr rfl) (hf : X.fn x = true ∨ X.env.scope.names.lookup x = some .local := by first | exact .inl rfl | exact .inr rfl | assumption) :
    DS X (.AugAssign (.Name x pos') op e pos) (sAug g i m) := by
  obtain ⟨t, p, o⟩ := he.ex
  refine ⟨_, ps_aug (i := i) hN hi hx p ho hf, fun c B σ H μ E r a => ?_⟩
  unfold sAug at a
  split at a
  · rename_i d hd
    split at a
    · rename_i y μ' hm
      split at a
      · rename_i z hz
        obtain ⟨v, e1, e2⟩ := r.valAt hd
        obtain ⟨i1, j1, rfl, rfl, rfl⟩ := hg _ _ _ hz
        cases e2
        refine ⟨_, e1, o c B σ H μ _ μ' _ r hm fun B' H' w e' r' hw => ?_⟩
        cases hw
        exact ⟨_, _, rfl, rfl, a B' _ H' e' (r'.putV (.int _))⟩
      · exact a.elim
    · exact a.elim
  · exact a.elim
def addI : D → D → Option D
  | .int a, .int b => some (.int (a + b))
  | _, _ => none
theorem s_augAdd {i : Nat} {x : Str} {pos' : Pos} (hN : X.N.Nodup) (he : DE X e m) (hi : X.N[i]? = some x := by rfl) (hx : Loc X.env.scope x := by first | exact Or.inl rfl | exact Or.inr rfl) (hf : X.fn x = true ∨ X.env.scope.names.lookup x = some .local := by first | exact .inl rfl | exact .inr rfl | assumption) :
    DS X (.AugAssign (.Name x pos') .Add e pos) (sAug addI i m) := s_aug hN he ip_add (fun a b z h => by
      unfold addI at h
      split at h
      · cases h; exact ⟨_, _, rfl, rfl, rfl⟩
      · cases h) hi hx hf
theorem s_augSub {i : Nat} {x : Str} {pos' : Pos} (hN : X.N.Nodup) (he : DE X e m) (hi : X.N[i]? = some x := by rfl) (hx : Loc X.env.scope x := by first | exact Or.inl rfl | exact Or.inr rfl) (hf : X.fn x = true ∨ X.env.scope.names.lookup x = some .local := by first | exact .inl rfl | exact .inr rfl | assumption) :
    DS X (.AugAssign (.Name x pos') .Sub e pos) (sAug subD i m) := s_aug hN he ip_sub (fun a b z h => by
      unfold subD at h
      split at h
      · cases h; exact ⟨_, _, rfl, rfl, rfl⟩
      · cases h) hi hx hf
end

/-! ### while -/
def whileF (m : M Bool) (s : MT) : Nat → MT
  | 0 => fun _ => .bad
  | n + 1 => fun μ => match m μ with
    | some (true, μ1) => (match s μ1 with
      | .nx μ2 => whileF m s n μ2
      | .ct μ2 => whileF m s n μ2
      | .bk μ2 => .nx μ2
      | .rt d dr => .rt d dr
      | .bad => .bad)
    | some (false, μ1) => .nx μ1
    | none => .bad
def fuel : Nat := 1099511627776
def sWhile (m : M Bool) (s : MT) : MT := whileF m s fuel
section
variable {X : Cx} {pos : Pos}
theorem s_while {cnd : Expr} {body : List Stmt} {m : M Bool} {s : MT} (hp : PassesOwn (model X.prog X.w) X.A X.env X.xe) (hc : DT X cnd m) (hb : DSs X body s) : DS X (.While cnd body [] pos) (sWhile m s) := by
  obtain ⟨tc, pc, oc⟩ := hc.ex
  obtain ⟨tb, pb, ob⟩ := hb.ex
  refine ⟨_, ps_while hp pc pb, fun c B σ H μ E r a => ?_⟩
  refine ⟨fun n σ' H' => ∃ B' μ', Ext B B' ∧ Rel X.K c B' σ' H' μ' ∧ After X.K c B' (whileF m s n μ') E, ⟨fuel, B, μ, Ext.refl _, r, a⟩, ?_⟩
  rintro n σ1 H1 ⟨B1, μ1, e1, r1, a1⟩
  cases n with
  | zero => exact a1.elim
  | succ n =>
    unfold whileF at a1
    split at a1
    · rename_i μ2 hm
      refine oc c B1 σ1 H1 μ1 _ μ2 _ r1 hm fun B2 H2 e2 r2 => ?_
      rw [if_pos rfl]
      refine ⟨fun σ' H' => ∃ B' μ', Ext B B' ∧ Rel X.K c B' σ' H' μ' ∧ After X.K c B' (whileF m s n μ') E, fun σ' H' h => ⟨n, Nat.lt_succ_self n, h⟩, ?_⟩
      refine ob c B2 σ1 H2 μ2 _ r2 ?_
      cases q : s μ2 with
      | nx μ3 => rw [q] at a1; exact fun B3 σ3 H3 e3 r3 => ⟨B3, μ3, (e1.trans e2).trans e3, r3, a1.ext (e2.trans e3)⟩
      | ct μ3 => rw [q] at a1; exact fun B3 σ3 H3 e3 r3 => ⟨B3, μ3, (e1.trans e2).trans e3, r3, a1.ext (e2.trans e3)⟩
      | bk μ3 => rw [q] at a1; exact fun B3 σ3 H3 e3 r3 => a1 B3 σ3 H3 (e2.trans e3) r3
      | rt d dr => rw [q] at a1; exact fun B3 H3 v e3 r3 hv => a1 B3 H3 v (e2.trans e3) r3 hv
      | bad => rw [q] at a1; exact a1
    · rename_i μ2 hm
      refine oc c B1 σ1 H1 μ1 _ μ2 _ r1 hm fun B2 H2 e2 r2 => ?_
      rw [if_neg Bool.false_ne_true]
      exact a1 B2 σ1 H2 e2 r2
    · exact a1.elim
end

/-! ### what is walked -/
def Walk (K : PySem.W.Frag) (st : Option (Addr × Addr)) (ds : List D) (J : It) (B0 : Hp) : Prop := ∀ (c : C) (B : Hp) (σ : St) (H : Hp) (μ : MS), c.st = st → Ext B0 B → Rel K c B σ H μ →
  (∀ (i : Nat) (d : D), ds[i]? = some d → J.go i H ∧ ∀ x H', J.yld i H x H' → ∃ B', Ext B B' ∧ Rel K c B' σ H' μ ∧ Rp K st B' x d) ∧ J.stop ds.length H
def OkI (K : PySem.W.Frag) (w : TI) (m : M (List D)) : Prop := ∀ (c : C) (B : Hp) (σ : St) (H : Hp) (μ : MS) (ds : List D) (μ' : MS) (R : It → Hp → Prop), Rel K c B σ H μ → m μ = some (ds, μ') →
  (∀ B' H' J, Ext B B' → Rel K c B' σ H' μ' → Walk K c.st ds J B' → R J H') → w σ H R
structure DI (X : Cx) (tg e : Expr) (m : M (List D)) : Prop where
  ex : ∃ w, PI X tg e w ∧ OkI X.K w m
def chars (x : Str) : List D := x.cps.toList.map fun c => .str ⟨#[c]⟩
/-- a list's, a tuple's items, a text's signs -/
def items : D → Option (List D)
  | .list ds => some ds
  | .tuple ds => some ds
  | .str x => some (chars x)
  | _ => none
def mSeq (m : M D) : M (List D) := fun μ => (m μ).bind fun p => (items p.1).bind fun ds => some (ds, p.2)
section
variable {K : PySem.W.Frag} {st : Option (Addr × Addr)} {B0 : Hp}
theorem walk_list {a : Addr} {vs : List V} {ds : List D} (h : B0 a = some (.lst vs)) (r : RpA K st B0 vs ds) : Walk K st ds (Itl K a) B0 := by
  intro c B σ H μ hs e rel
  have hH : SqL K H a vs := SqL.of (rel.r0.ext _ _ (e _ _ h))
  refine ⟨fun i d hi => ?_, ⟨vs, hH, by rw [r.length]; exact Nat.le_refl _⟩⟩
  obtain ⟨v, h1, h2⟩ := r.get hi
  refine ⟨⟨vs, v, hH, h1⟩, fun x H' y => ?_⟩
  obtain ⟨rfl, y⟩ := y
  have := y vs hH
  rw [h1] at this; cases this
  exact ⟨B, Ext.refl _, rel, h2.mono e⟩
theorem walk_tup {a : Addr} {vs : List V} {ds : List D} (h : SqT K B0 a vs) (r : RpA K st B0 vs ds) : Walk K st ds (Itt K a) B0 := by
  intro c B σ H μ hs e rel
  have hH : SqT K H a vs := (e.trans rel.r0.ext).sqt h
  refine ⟨fun i d hi => ?_, ⟨vs, hH, by rw [r.length]; exact Nat.le_refl _⟩⟩
  obtain ⟨v, h1, h2⟩ := r.get hi
  refine ⟨⟨vs, v, hH, h1⟩, fun x H' y => ?_⟩
  obtain ⟨rfl, y⟩ := y
  have := y vs hH
  rw [h1] at this; cases this
  exact ⟨B, Ext.refl _, rel, h2.mono e⟩
theorem walk_str (x : Str) : Walk K st (chars x) (Its x) B0 := by
  intro c B σ H μ hs e rel
  refine ⟨fun i d hi => ?_, by show x.cps.size ≤ (chars x).length; simp [chars]⟩
  unfold chars at hi
  rw [List.getElem?_map] at hi
  cases q : x.cps.toList[i]? with
  | none => rw [q] at hi; cases hi
  | some c' =>
    rw [q] at hi; cases hi
    have hlt : i < x.cps.size := by
      have := (List.getElem?_eq_some_iff.mp q).1
      simpa using this
    refine ⟨hlt, fun v H' y => ?_⟩
    obtain ⟨rfl, c2, h1, rfl⟩ := y
    have : x.cps.toList[i]? = x.cps[i]? := by simp
    rw [this, h1] at q; cases q
    exact ⟨B, Ext.refl _, rel, .str _⟩
def intsR (lo : Int) (n : Nat) : List D := (List.range n).map fun i => .int (lo + (i : Nat))
theorem walk_range (lo : Int) (n : Nat) : Walk K st (intsR lo n) (Itr lo n) B0 := by
  intro c B σ H μ hs e rel
  refine ⟨fun i d hi => ?_, by show n ≤ (intsR lo n).length; simp [intsR]⟩
  unfold intsR at hi
  rw [List.getElem?_map] at hi
  have hlt : i < n := by
    by_cases h : i < n
    · exact h
    · rw [List.getElem?_eq_none (by simp; omega)] at hi; cases hi
  rw [List.getElem?_range hlt] at hi
  cases hi
  refine ⟨hlt, fun v H' y => ?_⟩
  obtain ⟨rfl, rfl⟩ := y
  exact ⟨B, Ext.refl _, rel, .int _⟩
def intsC (lo st : Int) (n : Nat) : List D := (List.range n).map fun i => .int (lo + (i : Nat) * st)
theorem walk_rangeC (lo s : Int) (n : Nat) : Walk K st (intsC lo s n) (Itc lo s n) B0 := by
  intro c B σ H μ hs e rel
  refine ⟨fun i d hi => ?_, by show n ≤ (intsC lo s n).length; simp [intsC]⟩
  unfold intsC at hi
  rw [List.getElem?_map] at hi
  have hlt : i < n := by
    by_cases h : i < n
    · exact h
    · rw [List.getElem?_eq_none (by simp; omega)] at hi; cases hi
  rw [List.getElem?_range hlt] at hi
  cases hi
  refine ⟨hlt, fun v H' y => ?_⟩
  obtain ⟨rfl, rfl⟩ := y
  exact ⟨B, Ext.refl _, rel, .int _⟩
end
section
variable {X : Cx} {tg e : Expr} {m : M D}
theorem PI.or {w w' : TI} (h : PI X tg e w) (h' : PI X tg e w') : PI X tg e (fun σ H R => w σ H R ∨ w' σ H R) :=
  ⟨fun pins s σ H R I hw => hw.elim (h.run pins s σ H R I) (h'.run pins s σ H R I)⟩
theorem i_seq (he : DE X e m) : DI X tg e (mSeq m) := by
  obtain ⟨t, p, o⟩ := he.ex
  refine ⟨_, PI.or (pi_list p) (PI.or (pi_tup p) (pi_str p)), fun c B σ H μ ds μ' R r hm k => ?_⟩
  unfold mSeq at hm
  simp only [Option.bind_eq_some_iff] at hm
  obtain ⟨⟨d, μ1⟩, h1, ds', h2, h3⟩ := hm
  cases h3
  unfold items at h2
  split at h2
  · rename_i xs hd
    cases h2
    have hd' : d = .list _ := hd
    subst hd'
    refine .inl (o c B σ H μ _ _ _ r h1 fun B' H' v e' r' hv => ?_)
    cases hv with
    | lst h3 h4 => exact ⟨_, rfl, ⟨_, SqL.of (r'.r0.ext _ _ h3)⟩, k B' H' _ e' r' (walk_list h3 h4)⟩
  · rename_i xs hd
    cases h2
    have hd' : d = .tuple _ := hd
    subst hd'
    refine .inr (.inl (o c B σ H μ _ _ _ r h1 fun B' H' v e' r' hv => ?_))
    cases hv with
    | tup h3 h4 => exact ⟨_, rfl, ⟨_, r'.r0.ext.sqt h3.sqt⟩, k B' H' _ e' r' (walk_tup h3.sqt h4)⟩
  · rename_i xs hd
    cases h2
    have hd' : d = .str _ := hd
    subst hd'
    refine .inr (.inr (o c B σ H μ _ _ _ r h1 fun B' H' v e' r' hv => ?_))
    cases hv
    exact ⟨_, rfl, k B' H' _ e' r' (walk_str _)⟩
  · cases h2
def rng1 : List D → Option (List D)
  | [.int j] => if -(2 ^ 62) ≤ j ∧ j < 2 ^ 62 then some (intsR 0 j.toNat) else none
  | _ => none
def rng2 : List D → Option (List D)
  | [.int i, .int j] => if -(2 ^ 62) ≤ i ∧ i < 2 ^ 62 ∧ -(2 ^ 62) ≤ j ∧ j < 2 ^ 62 then some (intsR i (j - i).toNat) else none
  | _ => none
theorem lka1 {K : PySem.W.Frag} {st : Option (Addr × Addr)} {B H : Hp} {vs : List V} {d : D} (h : LkA K st B H vs [d]) : ∃ x, vs = [x] ∧ Lk K st B H x d := by
  cases h with
  | cons h t => cases t; exact ⟨_, rfl, h⟩
theorem lka2 {K : PySem.W.Frag} {st : Option (Addr × Addr)} {B H : Hp} {vs : List V} {d e : D} (h : LkA K st B H vs [d, e]) : ∃ x y, vs = [x, y] ∧ Lk K st B H x d ∧ Lk K st B H y e := by
  cases h with
  | cons h t =>
    obtain ⟨y, rfl, h2⟩ := lka1 t
    exact ⟨_, y, rfl, h, h2⟩
theorem lka3 {K : PySem.W.Frag} {st : Option (Addr × Addr)} {B H : Hp} {vs : List V} {d e f : D} (h : LkA K st B H vs [d, e, f]) : ∃ x y z, vs = [x, y, z] ∧ Lk K st B H x d ∧ Lk K st B H y e ∧ Lk K st B H z f := by
  cases h with
  | cons h t =>
    obtain ⟨y, z, rfl, h2, h3⟩ := lka2 t
    exact ⟨_, y, z, rfl, h, h2, h3⟩
theorem i_range1 {a : Expr} {ma : M (List O)} {p pos : Pos} (hm : X.mg "range" = none) (ha : DA X [a] ma) (hg : Gl X "range" := by rfl) (hs : starEach [a] X.env = [(false, eval a X.env)] := by rfl) : DI X tg (.Call (.Name "range" p) [a] [] pos) (mCall rng1 ma) := by
  obtain ⟨t, pt, o⟩ := ha.ex
  refine ⟨_, pi_range1 hg hm pt hs, fun c B σ H μ ds μ' R r hmm k => ?_⟩
  obtain ⟨os, xs, h1, h2, h3⟩ := mCall_some hmm
  refine o c B σ H μ os μ' _ r h1 fun B' H' vs e' r' hv => ?_
  have hl := looks_ok r' hv h2
  unfold rng1 at h3
  split at h3
  · split at h3
    · rename_i hc
      cases h3
      obtain ⟨x, rfl, hx⟩ := lka1 hl
      exact ⟨_, by rw [hx.int], hc.1, hc.2, k B' H' _ e' r' (walk_range _ _)⟩
    · cases h3
  · cases h3
theorem i_range2 {a b : Expr} {ma : M (List O)} {p pos : Pos} (hm : X.mg "range" = none) (ha : DA X [a, b] ma) (hg : Gl X "range" := by rfl) (hs : starEach [a, b] X.env = [(false, eval a X.env), (false, eval b X.env)] := by rfl) (hs2 : starEach [b] X.env = [(false, eval b X.env)] := by rfl) : DI X tg (.Call (.Name "range" p) [a, b] [] pos) (mCall rng2 ma) := by
  obtain ⟨t, pt, o⟩ := ha.ex
  refine ⟨_, pi_range2 hg hm pt hs hs2, fun c B σ H μ ds μ' R r hmm k => ?_⟩
  obtain ⟨os, xs, h1, h2, h3⟩ := mCall_some hmm
  refine o c B σ H μ os μ' _ r h1 fun B' H' vs e' r' hv => ?_
  have hl := looks_ok r' hv h2
  unfold rng2 at h3
  split at h3
  · split at h3
    · rename_i hc
      cases h3
      obtain ⟨x, y, rfl, hx, hy⟩ := lka2 hl
      exact ⟨_, _, by rw [hx.int, hy.int], hc, k B' H' _ e' r' (walk_range _ _)⟩
    · cases h3
  · cases h3
end

/-! ### targets -/
def OkG (K : PySem.W.Frag) (g : TG) (m : D → MS → Option MS) (is : List Nat) : Prop := ∀ (c : C) (B : Hp) (σ : St) (H : Hp) (μ : MS) (v : V) (d : D) (μ' : MS) (Q : St → Hp → Prop), Rel K c B σ H μ → Rp K c.st B v d → m d μ = some μ' →
  (∀ σ', Rel K c B σ' H μ' → (∀ vs : List Nat, (∀ i ∈ is, i ∈ vs) → wipe σ' vs = wipe σ vs) → Q σ' H) → g v σ H Q
structure DG (X : Cx) (tg : Expr) (m : D → MS → Option MS) (is : List Nat) : Prop where
  ex : ∃ g, PG X tg g ∧ OkG X.K g m is
def OkGs (K : PySem.W.Frag) (g : TGs) (m : List D → MS → Option MS) (is : List Nat) : Prop := ∀ (c : C) (B : Hp) (σ : St) (H : Hp) (μ : MS) (vs : List V) (ds : List D) (μ' : MS) (Q : St → Hp → Prop), Rel K c B σ H μ → RpA K c.st B vs ds → m ds μ = some μ' →
  (∀ σ', Rel K c B σ' H μ' → (∀ vs : List Nat, (∀ i ∈ is, i ∈ vs) → wipe σ' vs = wipe σ vs) → Q σ' H) → g vs σ H Q
structure DGs (X : Cx) (tgs : List Expr) (m : List D → MS → Option MS) (is : List Nat) : Prop where
  ex : ∃ g, PGs X tgs g ∧ OkGs X.K g m is
def gN (i : Nat) : D → MS → Option MS := fun d μ => some (setS μ i (.val d))
def gsNil : List D → MS → Option MS
  | [], μ => some μ
  | _ :: _, _ => none
def gsCons (m : D → MS → Option MS) (n : List D → MS → Option MS) : List D → MS → Option MS
  | [], _ => none
  | d :: ds, μ => (m d μ).bind fun μ' => n ds μ'
def gT (n : Nat) (m : List D → MS → Option MS) : D → MS → Option MS
  | .tuple ds, μ => if ds.length = n then m ds μ else none
  | _, _ => none
theorem wipe_set {i : Nat} {x : Option V} {σ : St} : ∀ {vs : List Nat}, i ∈ vs → wipe (σ.set i x) vs = wipe σ vs
  | [], h => by cases h
  | v :: vs, h => by
    unfold wipe
    by_cases hv : i ∈ vs
    · rw [wipe_set hv]
    · have : v = i := by
        rcases List.mem_cons.mp h with e | e
        · exact e.symm
        · exact absurd e hv
      subst this
      have aux : ∀ {us : List Nat}, v ∉ us → wipe (σ.set v x) us = (wipe σ us).set v x := by
        intro us
        induction us with
        | nil => intro _; rfl
        | cons u us ih =>
          intro hu
          unfold wipe
          rw [ih (fun q => hu (List.mem_cons_of_mem _ q)), List.set_comm]
          exact fun q => hu (by rw [q]; exact List.mem_cons_self)
      rw [aux hv, List.set_set]
section
variable {X : Cx} {pos : Pos}
theorem g_name (i : Nat) {x : Str} (hN : X.N.Nodup) (hi : X.N[i]? = some x := by rfl) (hx : Loc X.env.scope x := by first | exact Or.inl rfl | exact Or.inr rfl) (hf : X.fn x = true ∨ X.env.scope.names.lookup x = some .local := by first | exact .inl rfl | exact .inr rfl | assumption) : DG X (.Name x pos) (gN i) [i] :=
  ⟨_, pg_name hN hi hx hf, fun c B σ H μ v d μ' Q r hv hm k => by
    cases hm
    exact k _ (r.putV hv) fun vs hs => wipe_set (hs i (by simp))⟩
theorem gs_nil : DGs X [] gsNil [] := ⟨_, pgs_nil, fun c B σ H μ vs ds μ' Q r hv hm k => by
  cases hv with
  | nil => cases hm; exact ⟨rfl, k σ r fun _ _ => rfl⟩
  | cons _ _ => cases hm⟩
theorem gs_cons {e : Expr} {es : List Expr} {m : D → MS → Option MS} {n : List D → MS → Option MS} {is js : List Nat} (h1 : DG X e m is) (h2 : DGs X es n js)
    (hs : (assignEach (e :: es) X.env).map (·.2) = assign e X.env :: (assignEach es X.env).map (·.2) := by rfl) : DGs X (e :: es) (gsCons m n) (is ++ js) := by
  obtain ⟨g1, p1, o1⟩ := h1.ex
  obtain ⟨g2, p2, o2⟩ := h2.ex
  refine ⟨_, pgs_cons p1 p2 hs, fun c B σ H μ vs ds μ' Q r hv hm k => ?_⟩
  cases hv with
  | nil => cases hm
  | cons hv1 hv2 =>
    simp only [gsCons, Option.bind_eq_some_iff] at hm
    obtain ⟨μ1, h3, h4⟩ := hm
    refine ⟨_, _, rfl, o1 c B σ H μ _ _ μ1 _ r hv1 h3 fun σ' r' w' => ?_⟩
    refine o2 c B σ' H μ1 _ _ μ' _ r' hv2 h4 fun σ'' r'' w'' => ?_
    exact k σ'' r'' fun vs hs' => (w'' vs fun i hi => hs' i (List.mem_append_right _ hi)).trans (w' vs fun i hi => hs' i (List.mem_append_left _ hi))
theorem g_tup {es : List Expr} {k : Nat} {m : List D → MS → Option MS} {n : Nat} {is : List Nat} (hc : X.calm = true) (h : DGs X es m is)
    (hn : (assignEach es X.env).length = n := by rfl) (hst : (assignEach es X.env).findIdx? (·.1) = none := by rfl) : DG X (.Tuple es k pos) (gT n m) is := by
  obtain ⟨g, p, o⟩ := h.ex
  refine ⟨_, pg_tup hc p hn hst, fun c B σ H μ v d μ' Q r hv hm kk => ?_⟩
  unfold gT at hm
  split at hm
  · split at hm
    · rename_i hl
      cases hv with
      | tup h3 h4 => exact ⟨_, _, rfl, r.r0.ext.sqt h3.sqt, by rw [h4.length]; exact hl, o c B σ H μ _ _ μ' Q r h4 hm kk⟩
    · cases hm
  · cases hm
/-- a, b = a value that is unpacked -/
def sUnp (g : D → MS → Option MS) (m : M D) : MT := fun μ => match m μ with
  | some (d, μ') => (match g d μ' with
    | some μ2 => .nx μ2
    | none => .bad)
  | none => .bad
theorem s_asg {tg e : Expr} {m : M D} {g : D → MS → Option MS} {is : List Nat} (he : DE X e m) (hg : DG X tg g is) (hs : swapsWithSole [tg] e pos.line X.env = pure false := by rfl) (hw : swappedStores [tg] e X.env = pure none := by rfl)
    (h1 : (assignEach [tg] X.env).map (·.2) = [assign tg X.env] := by rfl) : DS X (.Assign [tg] e pos) (sUnp g m) := by
  obtain ⟨t, p, o⟩ := he.ex
  obtain ⟨g', p', o'⟩ := hg.ex
  refine ⟨_, ps_asg p p' hs hw h1, fun c B σ H μ E r a => ?_⟩
  unfold sUnp at a
  split at a
  · rename_i d μ' hm
    split at a
    · rename_i μ2 hg'
      exact o c B σ H μ d μ' _ r hm fun B' H' v e' r' hv => o' c B' σ H' μ' v d μ2 _ r' hv hg' fun σ' r'' _ => a B' σ' H' e' r''
    · exact a.elim
  · exact a.elim
end

/-! ### for -/
def loopF (g : D → MS → Option MS) (s : MT) : List D → MT
  | [] => fun μ => .nx μ
  | d :: ds => fun μ => match g d μ with
    | some μ1 => (match s μ1 with
      | .nx μ2 => loopF g s ds μ2
      | .ct μ2 => loopF g s ds μ2
      | .bk μ2 => .nx μ2
      | .rt d dr => .rt d dr
      | .bad => .bad)
    | none => .bad
def sFor (m : M (List D)) (g : D → MS → Option MS) (s : MT) : MT := fun μ => match m μ with
  | some (ds, μ') => loopF g s ds μ'
  | none => .bad
section
variable {X : Cx} {pos : Pos}
theorem s_for {tg iter : Expr} {body : List Stmt} {m : M (List D)} {g : D → MS → Option MS} {is : List Nat} {s : MT} (hp : PassesOwn (model X.prog X.w) X.A X.env X.xe) (hc : X.calm = true) (hi : DI X tg iter m) (hg : DG X tg g is) (hb : DSs X body s)
    (hs : ∀ x, foldedSetIterable iter X.env x = pure x := by intro _; rfl) : DS X (.For tg iter body [] pos) (sFor m g s) := by
  obtain ⟨w, pw, ow⟩ := hi.ex
  obtain ⟨g', pg, og⟩ := hg.ex
  obtain ⟨tb, pb, ob⟩ := hb.ex
  refine ⟨_, ps_for hp hc pw pg pb hs, fun c B σ H μ E r a => ?_⟩
  unfold sFor at a
  split at a
  · rename_i ds μ' hm
    refine ow c B σ H μ ds μ' _ r hm fun B1 H1 J e1 r1 wk => ?_
    refine ⟨fun i n σ' H' => n = ds.length - i ∧ i ≤ ds.length ∧ ∃ B' μ2, Ext B1 B' ∧ Rel X.K c B' σ' H' μ2 ∧ After X.K c B' (loopF g s (ds.drop i) μ2) E, ⟨ds.length, by simp, Nat.zero_le _, B1, μ', Ext.refl _, r1, by rw [List.drop_zero]; exact a.ext e1⟩, ?_⟩
    rintro i n σ2 H2 ⟨rfl, hi2, B2, μ2, e2, r2, a2⟩
    obtain ⟨w1, w2⟩ := wk c B2 σ2 H2 μ2 rfl e2 r2
    by_cases hlt : i < ds.length
    · obtain ⟨d, hd⟩ : ∃ d, ds[i]? = some d := ⟨ds[i], by simp [hlt]⟩
      have hdr : ds.drop i = d :: ds.drop (i + 1) := by
        rw [List.drop_eq_getElem_cons hlt]
        congr 1
        simpa [hlt] using hd
      rw [hdr] at a2
      simp only [loopF] at a2
      obtain ⟨go, yl⟩ := w1 i d hd
      refine .inr ⟨go, fun σ' H' => i + 1 ≤ ds.length ∧ ∃ B' μ2, Ext B1 B' ∧ Rel X.K c B' σ' H' μ2 ∧ After X.K c B' (loopF g s (ds.drop (i + 1)) μ2) E, fun σ' H' h => ⟨ds.length - (i + 1), by omega, rfl, h.1, h.2⟩, fun x H' hy => ?_⟩
      obtain ⟨B3, e3, r3, hx⟩ := yl x H' hy
      split at a2
      · rename_i μ3 hg3
        refine og c B3 σ2 H' μ2 x d μ3 _ r3 hx hg3 fun σ4 r4 _ => ?_
        refine ob c B3 σ4 H' μ3 _ r4 ?_
        cases q : s μ3 with
        | nx μ5 => rw [q] at a2; exact fun B5 σ5 H5 e5 r5 => ⟨hlt, B5, μ5, (e2.trans e3).trans e5, r5, a2.ext (e3.trans e5)⟩
        | ct μ5 => rw [q] at a2; exact fun B5 σ5 H5 e5 r5 => ⟨hlt, B5, μ5, (e2.trans e3).trans e5, r5, a2.ext (e3.trans e5)⟩
        | bk μ5 => rw [q] at a2; exact fun B5 σ5 H5 e5 r5 => a2 B5 σ5 H5 (e3.trans e5) r5
        | rt d dr => rw [q] at a2; exact fun B5 H5 v e5 r5 hv => a2 B5 H5 v (e3.trans e5) r5 hv
        | bad => rw [q] at a2; exact a2
      · exact a2.elim
    · have hi3 : i = ds.length := by omega
      subst hi3
      rw [List.drop_length] at a2
      exact .inl ⟨w2, a2 B2 σ2 H2 (Ext.refl _) r2⟩
  · exact a.elim
end
end Mi
/-! Mi, fifth part: comprehensions, lists of our own, calls of defs. -/
namespace Mi
open PySem PySem.Spec PyProof.Rows L2

/-! ### an object that is ours and must stay -/
def C.pin (c : C) (p : Addr) (o : HO) : C := { c with H0 := upd c.H0 p o }
section
variable {K : PySem.W.Frag} {c : C} {B H : Hp} {σ : St} {μ : MS} {p : Addr} {o : HO}
theorem Rel0.noSt {dr : Dr} (r : Rel0 c B H dr) (h0 : c.H0 p = none) : ¬ IsSt c p := fun s => (s.some r.dr).2.2 h0
theorem Rel.pin (r : Rel K c B σ H μ) (h : H p = some o) (hb : B p = none) (h0 : c.H0 p = none) (n : NoOwn σ μ p) : Rel K (c.pin p o) B σ H μ := by
  refine ⟨⟨r.r0.ext, fun x y e => ?_, fun a u e s => ?_, fun a u e => ?_, r.r0.b0⟩, r.len, fun i s hs => ?_, r.sep⟩
  · obtain ⟨h1, h2, h3, h4, h5, h6, h7⟩ := r.r0.dr x y e
    refine ⟨h1, h2, h3, h4, h5, ?_, ?_⟩
    · show upd c.H0 p o x ≠ none
      have : x ≠ p := fun z => by subst z; exact h6 h0
      rw [upd_ne this]; exact h6
    · show upd c.H0 p o y ≠ none
      have : y ≠ p := fun z => by subst z; exact h7 h0
      rw [upd_ne this]; exact h7
  · have e' : upd c.H0 p o a = some u := e
    by_cases ha : a = p
    · subst ha; rw [upd_same] at e'; cases e'; exact h
    · rw [upd_ne ha] at e'; exact r.r0.fr a u e' s
  · rcases r.r0.nw a u e with q | q
    · exact .inl q
    · refine .inr ?_
      show upd c.H0 p o a = none
      have : a ≠ p := fun z => by subst z; rw [hb] at e; cases e
      rw [upd_ne this]; exact q
  · have q := r.sl i s hs
    cases s with
    | un => trivial
    | val d => exact q
    | ow ds =>
      obtain ⟨a, vs, h1, h2, h3, h4, h5⟩ := q
      refine ⟨a, vs, h1, h2, h3, ?_, h5⟩
      show upd c.H0 p o a = none
      have : a ≠ p := fun z => by subst z; exact n i ds hs h1
      rw [upd_ne this]; exact h4
theorem Rel.unpin (r : Rel K (c.pin p o) B σ H μ) (h0 : c.H0 p = none) (hb0 : c.B0 p = none) (ns : ¬ IsSt c p) : Rel K c B σ H μ ∧ H p = some o ∧ B p = none ∧ NoOwn σ μ p := by
  have e0 : (c.pin p o).H0 p = some o := by show upd c.H0 p o p = some o; rw [upd_same]
  have hp : H p = some o := r.r0.fr p o e0 ns
  have back : ∀ a, (c.pin p o).H0 a = none → c.H0 a = none ∧ a ≠ p := fun a e => by
    have e' : upd c.H0 p o a = none := e
    have na : a ≠ p := fun z => by subst z; rw [upd_same] at e'; cases e'
    rw [upd_ne na] at e'
    exact ⟨e', na⟩
  refine ⟨⟨⟨r.r0.ext, fun x y e => ?_, fun a u e s => ?_, fun a u e => ?_, r.r0.b0⟩, r.len, fun i s hs => ?_, r.sep⟩, hp, ?_, fun i ds hi hs => ?_⟩
  · obtain ⟨h1, h2, h3, h4, h5, h6, h7⟩ := r.r0.dr x y e
    have nx : x ≠ p := fun z => by subst z; exact ns ⟨_, _, e, .inl rfl⟩
    have ny : y ≠ p := fun z => by subst z; exact ns ⟨_, _, e, .inr rfl⟩
    have h6' : upd c.H0 p o x ≠ none := h6
    have h7' : upd c.H0 p o y ≠ none := h7
    rw [upd_ne nx] at h6'
    rw [upd_ne ny] at h7'
    exact ⟨h1, h2, h3, h4, h5, h6', h7'⟩
  · refine r.r0.fr a u ?_ s
    show upd c.H0 p o a = some u
    rw [upd_ne (ne_of_none e h0)]; exact e
  · rcases r.r0.nw a u e with q | q
    · exact .inl q
    · exact .inr (back a q).1
  · have q := r.sl i s hs
    cases s with
    | un => trivial
    | val d => exact q
    | ow ds =>
      obtain ⟨a, vs, h1, h2, h3, h4, h5⟩ := q
      exact ⟨a, vs, h1, h2, h3, (back a h4).1, h5⟩
  · cases q : B p with
    | none => rfl
    | some u =>
      rcases r.r0.nw p u q with z | z
      · have z' : c.B0 p = some u := z
        rw [hb0] at z'; cases z'
      · exact absurd rfl (back p z).2
  · obtain ⟨a, vs, h1, h2, h3, h4, h5⟩ := r.owAt hi
    rw [hs] at h1; cases h1
    exact (back _ h4).2 rfl
end

/-! ### a comprehension's own slots -/
def wipeS (μ : MS) (vs : List Nat) : MS := { μ with sl := vs.foldr (fun v l => l.set v .un) μ.sl }
theorem wipeS_cons (μ : MS) (v : Nat) (vs : List Nat) : wipeS μ (v :: vs) = setS (wipeS μ vs) v .un := rfl
section
variable {K : PySem.W.Frag} {c : C} {B H : Hp} {σ : St} {μ : MS}
theorem Rel.wipe (r : Rel K c B σ H μ) : ∀ vs : List Nat, Rel K c B (wipe σ vs) H (wipeS μ vs)
  | [] => r
  | v :: vs => by
    rw [wipeS_cons]
    exact (Rel.wipe r vs).put (fun _ => trivial) fun _ _ _ e => by cases e
theorem wipe_idem (σ : St) : ∀ vs : List Nat, wipe (wipe σ vs) vs = wipe σ vs := fun vs => by
  have aux : ∀ us : List Nat, (∀ u ∈ us, u ∈ vs) → wipe (wipe σ us) vs = wipe σ vs := by
    intro us
    induction us with
    | nil => intro _; rfl
    | cons u us ih =>
      intro h
      show wipe ((wipe σ us).set u none) vs = _
      rw [wipe_set (h u List.mem_cons_self)]
      exact ih fun x hx => h x (List.mem_cons_of_mem _ hx)
  exact aux vs fun _ h => h
theorem wipe_get {i : Nat} : ∀ {vs : List Nat}, i ∉ vs → (L2.wipe σ vs)[i]? = σ[i]?
  | [], _ => rfl
  | v :: vs, h => by
    show ((L2.wipe σ vs).set v none)[i]? = _
    rw [List.getElem?_set_ne (fun e => h (by rw [e]; exact List.mem_cons_self))]
    exact wipe_get fun q => h (List.mem_cons_of_mem _ q)
theorem wipeS_get {i : Nat} {s : Sl} : ∀ {vs : List Nat}, i ∈ vs → (wipeS μ vs).sl[i]? = some s → s = .un
  | [], h, _ => by cases h
  | v :: vs, h, e => by
    rw [wipeS_cons] at e
    have e' : ((wipeS μ vs).sl.set v .un)[i]? = some s := e
    by_cases hv : v = i
    · subst hv
      have hl : v < (wipeS μ vs).sl.length := by
        have := (List.getElem?_eq_some_iff.mp e').1
        simpa using this
      rw [List.getElem?_set_self hl] at e'
      exact (Option.some.inj e').symm
    · rw [List.getElem?_set_ne hv] at e'
      rcases List.mem_cons.mp h with q | q
      · exact absurd q.symm hv
      · exact wipeS_get q e'
/-- the slots' values behind a comprehension are those ahead of it -/
theorem Rel.unwipe {vs : List Nat} (r : Rel K c B (L2.wipe σ vs) H (wipeS μ vs)) : Rel K c B σ H (wipeS μ vs) := by
  refine ⟨r.r0, by rw [← r.len, wipe_length], fun i s hs => ?_, fun i j di dj nij hi hj => ?_⟩
  · by_cases hi : i ∈ vs
    · rw [wipeS_get hi hs]; trivial
    · have q := r.sl i s hs
      cases s with
      | un => trivial
      | val d =>
        obtain ⟨v, h1, h2⟩ := q
        exact ⟨v, by rw [← wipe_get hi]; exact h1, h2⟩
      | ow ds =>
        obtain ⟨p, vs', h1, h2⟩ := q
        exact ⟨p, vs', by rw [← wipe_get hi]; exact h1, h2⟩
  · have ni : i ∉ vs := fun h => by have := wipeS_get h hi; cases this
    have nj : j ∉ vs := fun h => by have := wipeS_get h hj; cases this
    have := r.sep i j di dj nij hi hj
    rw [wipe_get ni, wipe_get nj] at this
    exact this
end

/-- the values that the comprehension's names had ahead of it (lists of ours are forgotten) -/
def restS (μ0 : MS) : List Nat → MS → MS
  | [], μ => μ
  | v :: vs, μ => match μ0.sl[v]? with
    | some (.val d) => restS μ0 vs (setS μ v (.val d))
    | _ => restS μ0 vs μ
theorem Rel.rest {K : PySem.W.Frag} {c : C} {B0 B H0 H : Hp} {σ : St} {μ0 : MS} (r0 : Rel K c B0 σ H0 μ0) (e : Ext B0 B) : ∀ {vs : List Nat} {μ : MS}, Rel K c B σ H μ → Rel K c B σ H (restS μ0 vs μ)
  | [], μ, r => r
  | v :: vs, μ, r => by
    unfold restS
    split
    · rename_i d hd
      obtain ⟨x, h1, h2⟩ := r0.valAt hd
      exact Rel.rest r0 e (r.same (fun _ => ⟨x, h1, h2.mono e⟩) fun _ z => by cases z)
    · exact Rel.rest r0 e r
theorem NoOwn.rest {σ : St} {p : Addr} {μ0 : MS} : ∀ {vs : List Nat} {μ : MS}, NoOwn σ μ p → NoOwn σ (restS μ0 vs μ) p
  | [], μ, r => r
  | v :: vs, μ, r => by
    unfold restS
    split
    · rename_i d hd
      refine NoOwn.rest fun i di hi => ?_
      by_cases hv : v = i
      · subst hv
        have hl : v < μ.sl.length := by
          have := (List.getElem?_eq_some_iff.mp hi).1
          simpa [setS] using this
        rw [show (setS μ v (.val d)).sl = μ.sl.set v (.val d) from rfl, List.getElem?_set_self hl] at hi
        cases hi
      · rw [show (setS μ v (.val d)).sl = μ.sl.set v (.val d) from rfl, List.getElem?_set_ne hv] at hi
        exact r i di hi
    · exact NoOwn.rest r
/-! ### [e for x in xs if t] -/
def tYesM : M Bool := fun μ => some (true, μ)
def loopC (g : D → MS → Option MS) (t : M Bool) (m : M D) (vs : List Nat) : List D → List D → MS → Option (List D × MS)
  | [], acc, μ => some (acc, μ)
  | d :: ds, acc, μ => (g d μ).bind fun μ1 => (t μ1).bind fun p => if p.1 = true then (m p.2).bind fun q => if acc.length < lineN then loopC g t m vs ds (acc ++ [q.1]) (wipeS q.2 vs) else none else loopC g t m vs ds acc (wipeS p.2 vs)
def mLc (mi : M (List D)) (g : D → MS → Option MS) (t : M Bool) (m : M D) (vs : List Nat) : M (List D) := fun μ => (mi μ).bind fun p => (loopC g t m vs p.1 [] (wipeS p.2 vs)).bind fun q => some (q.1, restS p.2 vs q.2)
/-- readings made of mirrors -/
def tE (K : PySem.W.Frag) (m : M D) : TE := fun σ H Q => ∃ c B μ d μ', Rel K c B σ H μ ∧ m μ = some (d, μ') ∧ Post K c B σ μ' d Q
def tT (K : PySem.W.Frag) (m : M Bool) : TT := fun σ H Q => ∃ c B μ b μ', Rel K c B σ H μ ∧ m μ = some (b, μ') ∧ ∀ B' H', Ext B B' → Rel K c B' σ H' μ' → Q b H'
def tG (K : PySem.W.Frag) (m : D → MS → Option MS) (is : List Nat) : TG := fun v σ H Q => ∃ c B μ d μ', Rel K c B σ H μ ∧ Rp K c.st B v d ∧ m d μ = some μ' ∧ ∀ σ', Rel K c B σ' H μ' → (∀ vs : List Nat, (∀ i ∈ is, i ∈ vs) → L2.wipe σ' vs = L2.wipe σ vs) → Q σ' H
def tI (K : PySem.W.Frag) (m : M (List D)) : TI := fun σ H R => ∃ c B μ ds μ', Rel K c B σ H μ ∧ m μ = some (ds, μ') ∧ ∀ B' H' J, Ext B B' → Rel K c B' σ H' μ' → Walk K c.st ds J B' → R J H'
section
variable {X : Cx} {e tg : Expr}
theorem DE.pe {m : M D} (h : DE X e m) : PE X e (tE X.K m) := by
  obtain ⟨t, p, o⟩ := h.ex
  exact ⟨fun pins s σ H Q I ⟨c, B, μ, d, μ', r, hm, k⟩ => p.run pins s σ H Q I (o c B σ H μ d μ' Q r hm k)⟩
theorem DT.pt {m : M Bool} (h : DT X e m) : PT X e (tT X.K m) := by
  obtain ⟨t, p, o⟩ := h.ex
  exact ⟨fun pins s σ H Q I ⟨c, B, μ, d, μ', r, hm, k⟩ => p.run pins s σ H Q I (o c B σ H μ d μ' Q r hm k)⟩
theorem DG.pg {m : D → MS → Option MS} {is : List Nat} (h : DG X tg m is) : PG X tg (tG X.K m is) := by
  obtain ⟨g, p, o⟩ := h.ex
  exact ⟨fun pins s σ H v u Q I rv ⟨c, B, μ, d, μ', r, hv, hm, k⟩ => p.run pins s σ H v u Q I rv (o c B σ H μ v d μ' Q r hv hm k)⟩
theorem DI.pi {m : M (List D)} (h : DI X tg e m) : PI X tg e (tI X.K m) := by
  obtain ⟨w, p, o⟩ := h.ex
  exact ⟨fun pins s σ H R I ⟨c, B, μ, d, μ', r, hm, k⟩ => p.run pins s σ H R I (o c B σ H μ d μ' R r hm k)⟩
/-- tests of a clause -/
structure DTs (X : Cx) (ifs : List Expr) (m : M Bool) : Prop where
  ex : ∃ t, PTs X ifs t ∧ OkT X.K t m
theorem ts_nil : DTs X [] tYesM := ⟨_, pts_nil, fun c B σ H μ b μ' Q r hm k => by cases hm; exact k B H (Ext.refl _) r⟩
theorem ts_one {m : M Bool} (h : DT X e m) : DTs X [e] m := by
  obtain ⟨t, p, o⟩ := h.ex
  exact ⟨t, pts_one p, o⟩
theorem DTs.pts {ifs : List Expr} {m : M Bool} (h : DTs X ifs m) : PTs X ifs (tT X.K m) := by
  obtain ⟨t, p, o⟩ := h.ex
  exact ⟨fun pins s σ H Q I ⟨c, B, μ, d, μ', r, hm, k⟩ => p.run pins s σ H Q I (o c B σ H μ d μ' Q r hm k)⟩
end
theorem ok_lc {K : PySem.W.Frag} {mi : M (List D)} {g : D → MS → Option MS} {t : M Bool} {m : M D} {vs is : List Nat} (hs : ∀ i ∈ is, i ∈ vs) :
    OkF K (tLc (tI K mi) (tG K g is) (tT K t) (tE K m) vs) (mLc mi g t m vs) := by
  intro c B σ H μ out μ' Q r hm k
  unfold mLc at hm
  simp only [Option.bind_eq_some_iff] at hm
  obtain ⟨⟨ds, μ1⟩, h1, ⟨out', μ9⟩, h2, h9⟩ := hm
  have h9' : out' = out ∧ restS μ1 vs μ9 = μ' := by
    have := Option.some.inj h9
    exact ⟨congrArg Prod.fst this, congrArg Prod.snd this⟩
  obtain ⟨e9, e9'⟩ := h9'
  subst e9
  refine ⟨c, B, μ, ds, μ1, r, h1, fun B1 H1 J e1 r1 wk Dl hD => ?_⟩
  obtain ⟨f0, fb⟩ := r1.r0.fresh hD
  have fb0 : c.B0 Dl = none := r1.r0.b0.none fb
  have ns : ¬ IsSt c Dl := r1.r0.noSt f0
  have start : Rel K (c.pin Dl (.lst [])) B1 (L2.wipe σ vs) (upd H1 Dl (.lst [])) (wipeS μ1 vs) := by
    have q := (r1.hide (o := .lst []) hD)
    exact (q.pin upd_same fb f0 (r1.noOwn hD)).wipe vs
  refine ⟨fun i n H' => n = ds.length - i ∧ i ≤ ds.length ∧ ∃ B2 μ2 acc vacc, Ext B1 B2 ∧ Rel K (c.pin Dl (.lst vacc)) B2 (L2.wipe σ vs) H' (wipeS μ2 vs) ∧ RpA K c.st B2 vacc acc ∧ loopC g t m vs (ds.drop i) acc (wipeS μ2 vs) = some (out', μ9),
    ⟨ds.length, by simp, Nat.zero_le _, B1, μ1, [], [], Ext.refl _, start, .nil, by rw [List.drop_zero]; exact h2⟩, ?_⟩
  rintro i n H2 ⟨rfl, hi2, B2, μ2, acc, vacc, e2, r2, ra, a2⟩
  obtain ⟨w1, w2⟩ := wk (c.pin Dl (.lst vacc)) B2 _ H2 (wipeS μ2 vs) rfl e2 r2
  by_cases hlt : i < ds.length
  · obtain ⟨d, hd⟩ : ∃ d, ds[i]? = some d := ⟨ds[i], by simp [hlt]⟩
    have hdr : ds.drop i = d :: ds.drop (i + 1) := by
      rw [List.drop_eq_getElem_cons hlt]
      congr 1
      simpa [hlt] using hd
    rw [hdr] at a2
    simp only [loopC, Option.bind_eq_some_iff] at a2
    obtain ⟨μ3, g3, ⟨b, μ4⟩, t4, a4⟩ := a2
    obtain ⟨go, yl⟩ := w1 i d hd
    refine .inr ⟨go, fun H' => i + 1 ≤ ds.length ∧ ∃ B2 μ2 acc vacc, Ext B1 B2 ∧ Rel K (c.pin Dl (.lst vacc)) B2 (L2.wipe σ vs) H' (wipeS μ2 vs) ∧ RpA K c.st B2 vacc acc ∧ loopC g t m vs (ds.drop (i + 1)) acc (wipeS μ2 vs) = some (out', μ9),
      fun H' h => ⟨ds.length - (i + 1), by omega, rfl, h.1, h.2⟩, fun x H' hy => ?_⟩
    obtain ⟨B3, e3, r3, hx⟩ := yl x H' hy
    refine ⟨c.pin Dl (.lst vacc), B3, wipeS μ2 vs, d, μ3, r3, hx, g3, fun σ4 r4 w4 => ⟨?_, ?_⟩⟩
    · rw [w4 vs hs, wipe_idem]
    refine ⟨c.pin Dl (.lst vacc), B3, μ3, b, μ4, r4, t4, fun B5 H5 e5 r5 => ?_⟩
    have wσ : L2.wipe σ4 vs = L2.wipe σ vs := by rw [w4 vs hs, wipe_idem]
    cases b with
    | false =>
      rw [if_neg Bool.false_ne_true] at a4
      refine iteF ?_
      refine ⟨hlt, B5, μ4, acc, vacc, (e2.trans e3).trans e5, ?_, ra.mono (e3.trans e5) acc vacc, a4⟩
      rw [← wσ]
      exact r5.wipe vs
    | true =>
      rw [if_pos rfl] at a4
      refine iteT ?_
      simp only [Option.bind_eq_some_iff] at a4
      obtain ⟨⟨z, μ6⟩, m6, a6⟩ := a4
      split at a6
      · rename_i hl
        refine ⟨c.pin Dl (.lst vacc), B5, μ4, z, μ6, r5, m6, fun B7 H7 v e7 r7 hv => ?_⟩
        obtain ⟨u1, u2, u3, u4⟩ := r7.unpin f0 fb0 ns
        have ra' := ra.mono ((e3.trans e5).trans e7) acc vacc
        refine ⟨vacc, u2, by rw [ra'.length, sizeLine_eq]; exact hl, hlt, B7, μ6, acc ++ [z], vacc ++ [v], ((e2.trans e3).trans e5).trans e7, ?_, ra'.append (.cons hv .nil), a6⟩
        rw [← wσ]
        exact ((u1.chg f0 u3 u4).pin upd_same u3 f0 u4).wipe vs
      · cases a6
  · have hi3 : i = ds.length := by omega
    subst hi3
    rw [List.drop_length] at a2
    simp only [loopC] at a2
    cases a2
    obtain ⟨u1, u2, u3, u4⟩ := r2.unpin f0 fb0 ns
    rw [← e9'] at k
    refine .inl ⟨w2, k B2 H2 Dl vacc (e1.trans e2) (Rel.rest r1 e2 u1.unwipe) u2 u3 f0 (NoOwn.rest fun i di hi hs' => ?_) ra⟩
    have ni : i ∉ vs := fun h => by have := wipeS_get h hi; cases this
    refine u4 i di hi ?_
    rw [wipe_get ni]; exact hs'
section
variable {X : Cx}
theorem f_lc {elt tg iter : Expr} {ifs : List Expr} {scope : Scope} {own : List (Str × Nat)} {pos : Pos} {mi : M (List D)} {g : D → MS → Option MS} {is : List Nat} {t : M Bool} {m : M D} (hc : X.calm = true) (hN : X.N.Nodup) (hi : DI X tg iter mi) (ok : BlkOk X.N X.env.scope scope own) (his : ∀ i ∈ is, i ∈ own.map (·.2))
    (hg : ∀ (s : Shared) (H : Hp) (C : Addr) (cl : List (Str × Addr)) (fp : List Addr), DG (X.blk s H scope (compEnvC scope cl C X.env) fp) tg g is) (ht : ∀ (s : Shared) (H : Hp) (C : Addr) (cl : List (Str × Addr)) (fp : List Addr), DTs (X.blk s H scope (compEnvC scope cl C X.env) fp) ifs t)
    (he : ∀ (s : Shared) (H : Hp) (C : Addr) (cl : List (Str × Addr)) (fp : List Addr), DE (X.blk s H scope (compEnvC scope cl C X.env) fp) elt m) (hs : ∀ x, foldedSetIterable iter X.env x = pure x := by intro _; rfl) :
    DF X (.ListComp elt [⟨tg, iter, ifs, 0⟩] scope pos) (mLc mi g t m (own.map (·.2))) :=
  ⟨_, pe_lc (g := tG X.K g is) (tt := tT X.K t) (te := tE X.K m) hc hN hi.pi ok (fun s H C cl fp => (hg s H C cl fp).pg) (fun s H C cl fp => (ht s H C cl fp).pts) (fun s H C cl fp => (he s H C cl fp).pe) hs, ok_lc his⟩
theorem s_lc {i : Nat} {y : Str} {py : Pos} {elt tg iter : Expr} {ifs : List Expr} {scope : Scope} {own : List (Str × Nat)} {pos spos : Pos} {mi : M (List D)} {g : D → MS → Option MS} {is : List Nat} {t : M Bool} {m : M D} (hc : X.calm = true) (hN : X.N.Nodup)
    (hi : DI X tg iter mi) (ok : BlkOk X.N X.env.scope scope own) (his : ∀ i ∈ is, i ∈ own.map (·.2))
    (hg : ∀ (s : Shared) (H : Hp) (C : Addr) (cl : List (Str × Addr)) (fp : List Addr), DG (X.blk s H scope (compEnvC scope cl C X.env) fp) tg g is) (ht : ∀ (s : Shared) (H : Hp) (C : Addr) (cl : List (Str × Addr)) (fp : List Addr), DTs (X.blk s H scope (compEnvC scope cl C X.env) fp) ifs t)
    (he : ∀ (s : Shared) (H : Hp) (C : Addr) (cl : List (Str × Addr)) (fp : List Addr), DE (X.blk s H scope (compEnvC scope cl C X.env) fp) elt m) (hy : X.N[i]? = some y := by rfl) (hyl : X.env.scope.names.lookup y = some .local := by rfl)
    (hsw : swapsWith (.ListComp elt [⟨tg, iter, ifs, 0⟩] scope pos) (some (.Name y py)) spos.line X.env = pure true := by exact sw_true rfl rfl rfl (by decide +kernel)) (hs : ∀ x, foldedSetIterable iter X.env x = pure x := by intro _; rfl) :
    DS X (.Assign [.Name y py] (.ListComp elt [⟨tg, iter, ifs, 0⟩] scope pos) spos) (sNew i (mLc mi g t m (own.map (·.2)))) := by
  refine ⟨_, ps_setLc (g := tG X.K g is) (tt := tT X.K t) (te := tE X.K m) hc hN hy hyl hsw hi.pi ok (fun s H C cl fp => (hg s H C cl fp).pg) (fun s H C cl fp => (ht s H C cl fp).pts) (fun s H C cl fp => (he s H C cl fp).pe) hs, fun c B σ H μ E r a => ?_⟩
  unfold sNew at a
  split at a
  · rename_i ds μ' hm
    exact ok_lc his c B σ H μ ds μ' _ r hm fun B' H' q vs e' r' h2 h3 h4 h5 h6 => a B' _ H' e' (r'.putO h2 h3 h4 h6 h5)
  · exact a.elim
end

/-! ### lists of our own, changed -/
/-- the slot i must hold a list of ours -/
def owned (μ : MS) (i : Nat) : Option (List D) := match μ.sl[i]? with
  | some (.ow (.l ds)) => some ds
  | _ => none
theorem owned_some {μ : MS} {i : Nat} {ds : List D} (h : owned μ i = some ds) : μ.sl[i]? = some (.own ds) := by
  unfold owned at h
  split at h
  · rename_i q; cases h; exact q
  · cases h
def mApp (i : Nat) (m : M D) : M D := fun μ => (owned μ i).bind fun _ => (m μ).bind fun p => (owned p.2 i).bind fun ds => if ds.length < lineN then some (.none, setS p.2 i (.own (ds ++ [p.1]))) else none
def mExt (i : Nat) (m : M O) : M D := fun μ => (owned μ i).bind fun _ => (m μ).bind fun p => (owned p.2 i).bind fun ds => (look p.1 p.2).bind fun e => match e with
  | .list es => if ds.length + es.length ≤ lineN then some (.none, setS p.2 i (.own (ds ++ es))) else none
  | _ => none
def mPop (i : Nat) : M D := fun μ => (owned μ i).bind fun ds => (ds[ds.length - 1]?).bind fun d => some (d, setS μ i (.own ds.dropLast))
def mPopAt (i : Nat) (m : M D) : M D := fun μ => (owned μ i).bind fun _ => (m μ).bind fun p => (owned p.2 i).bind fun ds => match p.1 with
  | .int j => if -(2 ^ 63) ≤ j ∧ j < 2 ^ 63 then (seqIndex? j ds.length).bind fun k => (ds[k]?).bind fun d => some (d, setS p.2 i (.own (ds.eraseIdx k))) else none
  | _ => none
section
variable {X : Cx} {x : Str} {px apos cpos : Pos} {e : Expr}
theorem Rel.tyL {K : PySem.W.Frag} {c : C} {B H : Hp} {σ : St} {μ : MS} {i : Nat} {ds : List D} (r : Rel K c B σ H μ) (h : owned μ i = some ds) : ∃ p vs, σ[i]? = some (some (.ref p)) ∧ H p = some (.lst vs) ∧ RpA K c.st B vs ds ∧ tyV K "list" (.ref p) H := by
  obtain ⟨p, vs, h1, h2, h3, h4, h5⟩ := r.ownAt (owned_some h)
  exact ⟨p, vs, h1, h2, h5, .inl ⟨rfl, vs, SqL.of h2⟩⟩
theorem e_append {m : M D} (i : Nat) (he : DE X e m) (hN : X.N[i]? = some x := by rfl) (hv : Vis X.env.scope x := by first | exact Or.inl rfl | exact Or.inr (Or.inl rfl) | exact Or.inr (Or.inr rfl)) (hd : (x == ("__debug__" : Str)) = false := by decide)
    (hcd : (x == ("__classdict__" : Str)) = false := by decide) (hbase : attributeBase (.Name x px) "append" X.env (eval (.Name x px) X.env) = eval (.Name x px) X.env := by rfl)
    (hfew : ((backTo cpos (starEach [e] X.env)).all (fun x => !x.1) && (backToKw cpos (keywordEach [] X.env)).all (fun x => x.1.isSome) && decide ([e].length + ([] : List Keyword).length + (if ([] : List Keyword).isEmpty then 0 else 1) < 30)) = true := by rfl)
    (hline : (apos.endLine == cpos.line) = true := by rfl) (hs : starEach [e] X.env = (false, eval e X.env) :: starEach [] X.env := by rfl) (hplain : (backTo cpos (starEach [] X.env)).any (·.1) = false := by rfl) :
    DE X (.Call (.Attribute (.Name x px) "append" apos) [e] [] cpos) (mApp i m) := by
  obtain ⟨t, p, o⟩ := he.ex
  refine ⟨_, pe_bm PySem.F.plainAttrs_list PySem.F.slot_list_append PySem.F.type_list_append mt_append (pv i hN hv hd hcd) (pa_cons p pa_nil hs) hbase hfew hline hs hplain, fun c B σ H μ d μ' Q r hm k => ?_⟩
  unfold mApp at hm
  simp only [Option.bind_eq_some_iff] at hm
  obtain ⟨ds0, h0, ⟨d1, μ1⟩, h1, ds, h2, h3⟩ := hm
  split at h3
  · rename_i hl
    cases h3
    obtain ⟨q, vs, s1, s2, s3, s4⟩ := r.tyL h0
    refine ⟨_, s1, s4, o c B σ H μ d1 μ1 _ r h1 fun B' H' v e' r' hv => ?_⟩
    obtain ⟨q', vs', t1, t2, t3, t4⟩ := r'.tyL h2
    rw [s1] at t1; cases t1
    refine ⟨_, vs', v, rfl, rfl, t2, by rw [t3.length, sizeLine_eq]; exact hl, ?_⟩
    exact (k.ext e').go (r'.ownSet (owned_some h2) s1 (t3.append (.cons hv .nil))) .non
  · cases h3
theorem e_extend {m : M O} (i : Nat) (he : DO X e m) (hN : X.N[i]? = some x := by rfl) (hv : Vis X.env.scope x := by first | exact Or.inl rfl | exact Or.inr (Or.inl rfl) | exact Or.inr (Or.inr rfl)) (hd : (x == ("__debug__" : Str)) = false := by decide)
    (hcd : (x == ("__classdict__" : Str)) = false := by decide) (hbase : attributeBase (.Name x px) "extend" X.env (eval (.Name x px) X.env) = eval (.Name x px) X.env := by rfl)
    (hfew : ((backTo cpos (starEach [e] X.env)).all (fun x => !x.1) && (backToKw cpos (keywordEach [] X.env)).all (fun x => x.1.isSome) && decide ([e].length + ([] : List Keyword).length + (if ([] : List Keyword).isEmpty then 0 else 1) < 30)) = true := by rfl)
    (hline : (apos.endLine == cpos.line) = true := by rfl) (hs : starEach [e] X.env = (false, eval e X.env) :: starEach [] X.env := by rfl) (hplain : (backTo cpos (starEach [] X.env)).any (·.1) = false := by rfl) :
    DE X (.Call (.Attribute (.Name x px) "extend" apos) [e] [] cpos) (mExt i m) := by
  obtain ⟨t, p, o⟩ := he.ex
  refine ⟨_, pe_bm PySem.F.plainAttrs_list PySem.F.slot_list_extend PySem.F.type_list_extend mt_extend (pv i hN hv hd hcd) (pa_cons p pa_nil hs) hbase hfew hline hs hplain, fun c B σ H μ d μ' Q r hm k => ?_⟩
  unfold mExt at hm
  simp only [Option.bind_eq_some_iff] at hm
  obtain ⟨ds0, h0, ⟨d1, μ1⟩, h1, ds, h2, e1, h3, h4⟩ := hm
  split at h4
  · split at h4
    · rename_i es hl
      cases h4
      obtain ⟨q, vs, s1, s2, s3, s4⟩ := r.tyL h0
      refine ⟨_, s1, s4, o c B σ H μ d1 μ1 _ r h1 fun B' H' v e' r' hv => ?_⟩
      obtain ⟨q', vs', t1, t2, t3, t4⟩ := r'.tyL h2
      rw [s1] at t1; cases t1
      obtain ⟨b, us, rfl, u1, u2⟩ := (look_ok r' hv h3).list r'.r0.ext
      refine ⟨_, b, vs', us, rfl, rfl, t2, u1, by rw [t3.length, u2.length, sizeLine_eq]; exact hl, ?_⟩
      exact (k.ext e').go (r'.ownSet (owned_some h2) s1 (t3.append u2)) .non
    · cases h4
  · cases h4
theorem e_pop (i : Nat) (hN : X.N[i]? = some x := by rfl) (hv : Vis X.env.scope x := by first | exact Or.inl rfl | exact Or.inr (Or.inl rfl) | exact Or.inr (Or.inr rfl)) (hd : (x == ("__debug__" : Str)) = false := by decide)
    (hcd : (x == ("__classdict__" : Str)) = false := by decide) (hbase : attributeBase (.Name x px) "pop" X.env (eval (.Name x px) X.env) = eval (.Name x px) X.env := by rfl) (hline : (apos.endLine == cpos.line) = true := by rfl) :
    DE X (.Call (.Attribute (.Name x px) "pop" apos) [] [] cpos) (mPop i) := by
  refine ⟨_, pe_bm0 PySem.F.plainAttrs_list PySem.F.slot_list_pop PySem.F.type_list_pop mt_pop (pv i hN hv hd hcd) hbase hline, fun c B σ H μ d μ' Q r hm k => ?_⟩
  unfold mPop at hm
  simp only [Option.bind_eq_some_iff] at hm
  obtain ⟨ds, h0, d1, h1, h3⟩ := hm
  cases h3
  obtain ⟨q, vs, s1, s2, s3, s4⟩ := r.tyL h0
  obtain ⟨v, g1, g2⟩ := s3.get h1
  refine ⟨_, s1, s4, q, vs, v, rfl, rfl, s2, by rw [s3.length]; exact g1, ?_⟩
  exact k.go (r.ownSet (owned_some h0) s1 s3.dropLast) g2
theorem e_popAt {m : M D} (i : Nat) (he : DE X e m) (hN : X.N[i]? = some x := by rfl) (hv : Vis X.env.scope x := by first | exact Or.inl rfl | exact Or.inr (Or.inl rfl) | exact Or.inr (Or.inr rfl)) (hd : (x == ("__debug__" : Str)) = false := by decide)
    (hcd : (x == ("__classdict__" : Str)) = false := by decide) (hbase : attributeBase (.Name x px) "pop" X.env (eval (.Name x px) X.env) = eval (.Name x px) X.env := by rfl)
    (hfew : ((backTo cpos (starEach [e] X.env)).all (fun x => !x.1) && (backToKw cpos (keywordEach [] X.env)).all (fun x => x.1.isSome) && decide ([e].length + ([] : List Keyword).length + (if ([] : List Keyword).isEmpty then 0 else 1) < 30)) = true := by rfl)
    (hline : (apos.endLine == cpos.line) = true := by rfl) (hs : starEach [e] X.env = (false, eval e X.env) :: starEach [] X.env := by rfl) (hplain : (backTo cpos (starEach [] X.env)).any (·.1) = false := by rfl) :
    DE X (.Call (.Attribute (.Name x px) "pop" apos) [e] [] cpos) (mPopAt i m) := by
  obtain ⟨t, p, o⟩ := he.ex
  refine ⟨_, pe_bm PySem.F.plainAttrs_list PySem.F.slot_list_pop PySem.F.type_list_pop mt_popAt (pv i hN hv hd hcd) (pa_cons p pa_nil hs) hbase hfew hline hs hplain, fun c B σ H μ d μ' Q r hm k => ?_⟩
  unfold mPopAt at hm
  simp only [Option.bind_eq_some_iff] at hm
  obtain ⟨ds0, h0, ⟨d1, μ1⟩, h1, ds, h2, h3⟩ := hm
  split at h3
  · split at h3
    · rename_i j hd1 hj
      simp only [Option.bind_eq_some_iff] at h3
      obtain ⟨n, h4, z, h5, h6⟩ := h3
      cases h6
      have hd1' : d1 = .int j := hd1
      subst hd1'
      obtain ⟨q, vs, s1, s2, s3, s4⟩ := r.tyL h0
      refine ⟨_, s1, s4, o c B σ H μ _ μ1 _ r h1 fun B' H' v e' r' hv => ?_⟩
      cases hv
      obtain ⟨q', vs', t1, t2, t3, t4⟩ := r'.tyL h2
      rw [s1] at t1; cases t1
      obtain ⟨v, g1, g2⟩ := t3.get h5
      refine ⟨_, vs', j, n, v, rfl, rfl, t2, hj.1, hj.2, by rw [t3.length]; exact h4, g1, ?_⟩
      exact (k.ext e').go (r'.ownSet (owned_some h2) s1 (t3.erase n)) g2
    · cases h3
  · cases h3
end

/-! ### calls of defs -/
abbrev FM := List D → Dr → Option (D × Dr)
/-- what a def promises: it tells its mirror's value -/
def spM (K : PySem.W.Frag) (n : Nat) (f : FM) : Sp := fun vs H Q _ => vs.length = n ∧ ∃ (st : Option (Addr × Addr)) (B : Hp) (ds : List D) (dr : Dr) (d : D) (dr' : Dr), Rel0 ⟨st, H, B⟩ B H dr ∧ RpA K st B vs ds ∧ f ds dr = some (d, dr') ∧
  ∀ B' H' v, Ext B B' → Rel0 ⟨st, H, B⟩ B' H' dr' → Rp K st B' v d → Q v H'
def frz1 (μ : MS) : O → MS
  | .v _ => μ
  | .s i => match μ.sl[i]? with
    | some (.ow o) => setS μ i (.val o.dat)
    | _ => μ
def frzA : List O → MS → MS
  | [], μ => μ
  | o :: os, μ => frzA os (frz1 μ o)
def mCallU (f : FM) (ma : M (List O)) : M D := fun μ => (ma μ).bind fun p => (looks p.1 p.2).bind fun ds => (f ds p.2.dr).bind fun z => some (z.1, if flat z.1 = true then { p.2 with dr := z.2 } else { frzA p.1 p.2 with dr := z.2 })
section
variable {K : PySem.W.Frag} {c : C} {B H : Hp} {σ : St}
theorem frz1_look {μ : MS} {o o' : O} : look o' (frz1 μ o) = look o' μ := by
  cases o with
  | v d => rfl
  | s i =>
    unfold frz1
    simp only
    split
    · rename_i ds hs
      cases o' with
      | v d => rfl
      | s j =>
        unfold look setS
        by_cases hij : i = j
        · subst hij
          have hl : i < μ.sl.length := (List.getElem?_eq_some_iff.mp hs).1
          simp only [List.getElem?_set_self hl, hs]
        · simp only [List.getElem?_set_ne hij]
    · rfl
theorem frz1_looks {μ : MS} {o : O} : ∀ os : List O, looks os (frz1 μ o) = looks os μ
  | [] => rfl
  | o' :: os => by simp only [looks, frz1_look, frz1_looks os]
theorem frz1_dr {μ : MS} {o : O} : (frz1 μ o).dr = μ.dr := by
  cases o with
  | v d => rfl
  | s i =>
    unfold frz1
    simp only
    split <;> rfl
theorem frzA_dr : ∀ (os : List O) (μ : MS), (frzA os μ).dr = μ.dr
  | [], μ => rfl
  | o :: os, μ => by rw [frzA, frzA_dr os, frz1_dr]
/-- the lists of ours among the operands are known from now on -/
theorem frz1_ok {μ : MS} (r : Rel K c B σ H μ) {v : V} {o : O} {d : D} (h : OR K c.st B σ v o) (hl : look o μ = some d) :
    ∃ B', Ext B B' ∧ Rel K c B' σ H (frz1 μ o) ∧ Rp K c.st B' v d := by
  cases o with
  | v d' => cases hl; exact ⟨B, Ext.refl _, r, h⟩
  | s i =>
    have h' : σ[i]? = some (some v) := h
    simp only [look] at hl
    unfold frz1
    simp only
    split at hl
    · rename_i d' hs
      cases hl
      obtain ⟨v', e1, e2⟩ := r.valAt hs
      rw [h'] at e1; cases e1
      simp only [hs]
      exact ⟨B, Ext.refl _, r, e2⟩
    · rename_i ds hs
      cases hl
      obtain ⟨p, vs, e1, e2, e3, e4, e5, e6⟩ := r.owVal hs
      rw [h'] at e1; cases e1
      simp only [hs]
      exact ⟨_, e4, e6, e5⟩
    · cases hl
theorem frzA_ok : ∀ {os : List O} {vs : List V} {ds : List D} {B : Hp} {μ : MS}, Rel K c B σ H μ → ORA K c.st B σ vs os → looks os μ = some ds → ∃ B', Ext B B' ∧ Rel K c B' σ H (frzA os μ) ∧ RpA K c.st B' vs ds
  | _, _, _, B, μ, r, .nil, e => by cases e; exact ⟨B, Ext.refl _, r, .nil⟩
  | _, _, _, B, μ, r, .cons (o := o) (os := os) h t, e => by
    simp only [looks, Option.bind_eq_some_iff] at e
    obtain ⟨d, h1, ds, h2, h3⟩ := e
    cases h3
    obtain ⟨B1, e1, r1, p1⟩ := frz1_ok r h h1
    obtain ⟨B2, e2, r2, p2⟩ := frzA_ok r1 (t.mono e1) ((frz1_looks os).trans h2)
    exact ⟨B2, e1.trans e2, r2, .cons (p1.mono e2) p2⟩
end
section
variable {X : Cx} {CX : CXT} {k : Nat} {f : Addr} {fd : FuncData} {ps : List Str} {x : Str} {p pos : Pos} {e : Expr} {es : List Expr} {m : M (List O)} {fm : FM} {E : XK}
theorem ok_callU {n : Nat} {t : TA} (h : OkA X.K t m) (hl : ∀ μ os μ', m μ = some (os, μ') → os.length = n) : OkE X.K (tCall (spM X.K n fm) [] E t) (mCallU fm m) := by
  intro c B σ H μ d μ' Q r hm kk
  unfold mCallU at hm
  simp only [Option.bind_eq_some_iff] at hm
  obtain ⟨⟨os, μ1⟩, h1, ds, h2, ⟨d1, dr1⟩, h3, h4⟩ := hm
  cases h4
  refine h c B σ H μ os μ1 _ r h1 fun B1 H1 vs e1 r1 hv => ?_
  obtain ⟨B2, e2, r2, hvs⟩ := frzA_ok r1 hv h2
  have lenV : vs.length = n := by
    have a1 : ∀ {vs : List V} {os : List O}, ORA X.K c.st B1 σ vs os → vs.length = os.length := by
      intro vs os h
      induction h with
      | nil => rfl
      | cons _ _ ih => simp [ih]
    rw [a1 hv]; exact hl _ _ _ h1
  rw [show vs ++ ([] : List V) = vs from List.append_nil vs]
  have dr2 : Rel0 ⟨c.st, H1, B2⟩ B2 H1 μ1.dr := by
    have q := r2.r0
    rw [frzA_dr] at q
    refine ⟨q.ext, fun a b e => ?_, fun a o e _ => e, fun a o e => .inl e, Ext.refl _⟩
    obtain ⟨z1, z2, z3, z4, z5, z6, z7⟩ := q.dr a b e
    exact ⟨z1, z2, z3, z4, z5, (fun z => by rw [show H1 a = none from z] at z2; cases z2), (fun z => by rw [show H1 b = none from z] at z3; cases z3)⟩
  refine ⟨lenV, c.st, B2, ds, μ1.dr, d1, dr1, dr2, hvs, h3, fun B3 H3 v e3 r3 hv3 => ?_⟩
  -- back to the caller
  have noSt : ∀ a, (∃ o, H1 a = some o) → B2 a = none → B3 a = none := fun a ⟨o, ho⟩ hb => by
    cases q : B3 a with
    | none => rfl
    | some u =>
      rcases r3.nw a u q with z | z
      · have z' : B2 a = some u := z
        rw [hb] at z'; cases z'
      · have z' : H1 a = none := z
        rw [ho] at z'; cases z'
  have isSt : ∀ a, IsSt ⟨c.st, H1, B2⟩ a → IsSt c a := fun a s => s
  have r0' : Rel0 c B3 H3 dr1 := by
    refine ⟨r3.ext, fun a b e => ?_, fun a o e s => ?_, fun a o e => ?_, (r2.r0.b0).trans e3⟩
    · obtain ⟨z1, z2, z3, z4, z5, z6, z7⟩ := r3.dr a b e
      obtain ⟨y1, y2, y3, y4, y5, y6, y7⟩ := r1.r0.dr a b e
      exact ⟨z1, z2, z3, z4, z5, y6, y7⟩
    · exact r3.fr a o (r1.r0.fr a o e s) fun z => s (isSt a z)
    · rcases r3.nw a o e with z | z
      · exact r2.r0.nw a o z
      · exact .inr (r1.r0.fresh z).1
  have own1 : ∀ {μ2 : MS} {B' : Hp}, Rel X.K c B' σ H1 μ2 → (Ext B' B2) → ∀ (i : Nat) (ds : Ob) (q : Addr), μ2.sl[i]? = some (.ow ds) → σ[i]? = some (some (.ref q)) → H3 q = H1 q := fun {μ2 B'} rr _ i ds q hi hs => by
    obtain ⟨q', ws, f1, f2, f3, f4, f5⟩ := rr.owAt hi
    rw [hs] at f1; cases f1
    rw [f2]
    exact r3.fr q _ f2 fun z => by
      obtain ⟨_, _, zz⟩ := (isSt q z).some rr.r0.dr
      exact zz f4
  by_cases hf : flat d1 = true
  · rw [if_pos hf] at kk
    refine kk B1 H3 v e1 ?_ (hv3.flat_any hf)
    refine r1.move ⟨(e2.trans e3).trans r3.ext, fun a b e => ?_, r0'.fr, r1.r0.nw, r1.r0.b0⟩ (Ext.refl _) fun i ds q hi hs => ⟨own1 r1 e2 i ds q hi hs, ?_⟩
    · obtain ⟨z1, z2, z3, z4, z5, z6, z7⟩ := r0'.dr a b e
      exact ⟨z1, z2, z3, (e2.trans e3).none z4, (e2.trans e3).none z5, z6, z7⟩
    · obtain ⟨q', ws, f1, f2, f3, f4, f5⟩ := r1.owAt hi
      rw [hs] at f1; cases f1
      exact f3
  · rw [if_neg hf] at kk
    refine kk B3 H3 v ((e1.trans e2).trans e3) ?_ hv3
    refine r2.move r0' e3 fun i ds q hi hs => ⟨own1 r2 (Ext.refl _) i ds q hi hs, ?_⟩
    obtain ⟨q', ws, f1, f2, f3, f4, f5⟩ := r2.owAt hi
    rw [hs] at f1; cases f1
    exact noSt q ⟨_, f2⟩ f3
def lenOf (es : List Expr) : Nat := es.length
theorem aNil_len : ∀ (μ : MS) (os : List O) (μ' : MS), aNil μ = some (os, μ') → os.length = 0 := fun μ os μ' h => by cases h; rfl
theorem aCons_len {a : M O} {n : M (List O)} {k : Nat} (h : ∀ (μ : MS) (os : List O) (μ' : MS), n μ = some (os, μ') → os.length = k) : ∀ (μ : MS) (os : List O) (μ' : MS), aCons a n μ = some (os, μ') → os.length = k + 1 := fun μ os μ' hm => by
  unfold aCons at hm
  simp only [Option.bind_eq_some_iff] at hm
  obtain ⟨⟨o, μ1⟩, h1, ⟨os2, μ2⟩, h2, h3⟩ := hm
  cases h3
  simp [h _ _ _ h2]
/-- f(e, ..) -/
theorem e_callU {n : Nat} (F : FnOk X.prog X.w X.K X.mg X.base CX k f fd ps (spM X.K n fm)) (hr : Room k X.A) (hm : X.mg x = some (.ref f)) (hk : PySem.W.keepIn X.K (.ref f) = true) (hb : Binds X.K fd ps []) (hx : Passes CX X E)
    (ha : DA X (e :: es) m) (hl : ∀ (μ : MS) (os : List O) (μ' : MS), m μ = some (os, μ') → os.length = n) (hg : Gl X x := by rfl) (hdb : (x == ("__debug__" : Str)) = false := by decide) (he : starEach (e :: es) X.env = (false, eval e X.env) :: starEach es X.env := by rfl) (hpl : (backTo pos (starEach es X.env)).any (·.1) = false := by rfl) :
    DE X (.Call (.Name x p) (e :: es) [] pos) (mCallU fm m) := by
  obtain ⟨t, pt, o⟩ := ha.ex
  exact ⟨_, pe_call F hr hg hm hk hb .nil hx pt hdb he hpl, ok_callU o hl⟩
/-- a def, from its body -/
def fnM (n : Nat) (body : MT) : FM := fun ds dr => match body ⟨ds.map Sl.val ++ List.replicate (n - ds.length) Sl.un, dr⟩ with
  | .nx μ => some (.none, μ.dr)
  | .rt d dr' => some (d, dr')
  | _ => none
theorem start_rel {K : PySem.W.Frag} {c : C} {B H : Hp} {dr : Dr} {N : List Str} {vs : List V} {ds : List D} (r : Rel0 c B H dr) (h : RpA K c.st B vs ds) (hl : vs.length ≤ N.length) :
    Rel K c B (L2.start N vs) H ⟨ds.map Sl.val ++ List.replicate (N.length - ds.length) Sl.un, dr⟩ := by
  have hlen := h.length
  have key : ∀ (i : Nat) (s : Sl), (ds.map Sl.val ++ List.replicate (N.length - ds.length) Sl.un)[i]? = some s → s = .un ∨ ∃ d, s = .val d ∧ ds[i]? = some d := fun i s hs => by
    by_cases hi : i < ds.length
    · rw [List.getElem?_append_left (by simpa using hi), List.getElem?_map] at hs
      obtain ⟨d, hd⟩ : ∃ d, ds[i]? = some d := ⟨ds[i], by simp [hi]⟩
      rw [hd] at hs; cases hs
      exact .inr ⟨d, rfl, hd⟩
    · rw [List.getElem?_append_right (by simpa using hi), List.getElem?_replicate] at hs
      split at hs
      · cases hs; exact .inl rfl
      · cases hs
  refine ⟨r, ?_, fun i s hs => ?_, fun i j di dj _ hi _ => ?_⟩
  · unfold L2.start
    simp
    omega
  · rcases key i s hs with rfl | ⟨d, rfl, hd⟩
    · trivial
    · obtain ⟨v, h1, h2⟩ := h.get hd
      refine ⟨v, ?_, h2⟩
      unfold L2.start
      have hi : i < vs.length := (List.getElem?_eq_some_iff.mp h1).1
      rw [List.getElem?_append_left (by simpa using hi), List.getElem?_map, h1]
      rfl
  · rcases key i _ hi with e | ⟨d, e, _⟩
    · cases e
    · cases e
theorem fn_ok {P : Program} {w : World} {K : PySem.W.Frag} {mg : Str → Option Value} {base : Heap} {qual : Str} {st : Stmt} {N : List Str} {body : MT} (F : Fun K x qual st f fd) (S : FnScope N ps (defScope st)) (hN : ps.length ≤ N.length)
    (h : ∀ (cdv : Value) (A : Around) (outer : List Env) (s : Shared) (H : Hp) (E : XK), Room k (A.deeper (envOfC qual (defScope st) s.heap.objs.size f cdv)) → DSs (cxOf CX0 P w K mg base N qual (defScope st) f cdv A outer s H E).nox (defBody st) body) :
    FnOk P w K mg base CX0 (k + 1) f fd ps (spM K ps.length (fnM N.length body)) := by
  refine F.ok S (fun vs H Q E h => h.1) fun cdv A outer s H vs Q E hr hsp => ?_
  obtain ⟨t, pt, o⟩ := (h cdv A outer s H E hr).ex
  refine ⟨t, pt, ?_⟩
  obtain ⟨hlen, sst, B, ds, dr, d, dr', r0, hv, hm, k⟩ := hsp
  refine o ⟨sst, H, B⟩ B _ H _ _ (start_rel r0 hv (by omega)) ?_
  unfold fnM at hm
  split at hm
  · rename_i μ hb
    cases hm
    rw [hb]
    exact fun B' σ' H' e' r' => k B' H' _ e' r'.r0 .non
  · rename_i d2 dr2 hb
    cases hm
    rw [hb]
    exact fun B' H' v e' r' hv' => k B' H' v e' r' hv'
  · cases hm
end
end Mi
/-! Mi, sixth part: built-ins, stores into lists of our own. -/
namespace Mi
open PySem PySem.Spec PyProof.Rows L2

def lenD : List D → Option D
  | [.list ds] => some (.int ds.length)
  | [.tuple ds] => some (.int ds.length)
  | [.str x] => if x.length ≤ lineN then some (.int x.length) else none
  | _ => none
def listF : List D → Option (List D)
  | [.list ds] => some ds
  | [.tuple ds] => some ds
  | _ => none
def tupD : List D → Option D
  | [.list ds] => some (.tuple ds)
  | [.tuple ds] => some (.tuple ds)
  | _ => none
def absD : List D → Option D
  | [.int i] => some (.int (if i < 0 then -i else i))
  | _ => none
def intD : List D → Option D
  | [.int i] => some (.int i)
  | [.bool k] => some (.int (if k then 1 else 0))
  | _ => none
def ints? : List D → Option (List Int)
  | [] => some []
  | .int i :: ds => (ints? ds).bind fun ns => some (i :: ns)
  | _ :: _ => none
theorem ints?_some : ∀ {ds : List D} {ns : List Int}, ints? ds = some ns → ds = ns.map PyData.int
  | [], _, h => by cases h; rfl
  | d :: ds, ns, h => by
    cases d <;> simp only [ints?] at h <;> try cases h
    simp only [Option.bind_eq_some_iff] at h
    obtain ⟨ms, h1, h2⟩ := h
    cases h2
    rw [ints?_some h1]
    rfl
@[simp] theorem ints?_map : ∀ ns : List Int, ints? (ns.map PyData.int) = some ns
  | [] => rfl
  | n :: ns => by simp only [List.map_cons, ints?, ints?_map ns, Option.bind_some]
def bools? : List D → Option (List Bool)
  | [] => some []
  | .bool i :: ds => (bools? ds).bind fun ns => some (i :: ns)
  | _ :: _ => none
theorem bools?_some : ∀ {ds : List D} {ns : List Bool}, bools? ds = some ns → ds = ns.map PyData.bool
  | [], _, h => by cases h; rfl
  | d :: ds, ns, h => by
    cases d <;> simp only [bools?] at h <;> try cases h
    simp only [Option.bind_eq_some_iff] at h
    obtain ⟨ms, h1, h2⟩ := h
    cases h2
    rw [bools?_some h1]
    rfl
@[simp] theorem bools?_map : ∀ ns : List Bool, bools? (ns.map PyData.bool) = some ns
  | [] => rfl
  | n :: ns => by simp only [List.map_cons, bools?, bools?_map ns, Option.bind_some]
def strs? : List D → Option (List Str)
  | [] => some []
  | .str i :: ds => (strs? ds).bind fun ns => some (i :: ns)
  | _ :: _ => none
theorem strs?_some : ∀ {ds : List D} {ns : List Str}, strs? ds = some ns → ds = ns.map PyData.str
  | [], _, h => by cases h; rfl
  | d :: ds, ns, h => by
    cases d <;> simp only [strs?] at h <;> try cases h
    simp only [Option.bind_eq_some_iff] at h
    obtain ⟨ms, h1, h2⟩ := h
    cases h2
    rw [strs?_some h1]
    rfl
@[simp] theorem strs?_map : ∀ ns : List Str, strs? (ns.map PyData.str) = some ns
  | [] => rfl
  | n :: ns => by simp only [List.map_cons, strs?, strs?_map ns, Option.bind_some]
/-- the greatest, the least of a row that is not empty -/
def maxL : List Int → Int
  | [] => 0
  | a :: r => r.foldl (fun m b => if b > m then b else m) a
def minL : List Int → Int
  | [] => 0
  | a :: r => r.foldl (fun m b => if b < m then b else m) a
theorem maxF_spec : ∀ (r : List Int) (a : Int), (r.foldl (fun m b => if b > m then b else m) a = a ∨ r.foldl (fun m b => if b > m then b else m) a ∈ r) ∧ a ≤ r.foldl (fun m b => if b > m then b else m) a ∧ ∀ y ∈ r, y ≤ r.foldl (fun m b => if b > m then b else m) a
  | [], a => ⟨.inl rfl, Int.le_refl _, fun _ h => by cases h⟩
  | b :: r, a => by
    obtain ⟨h1, h2, h3⟩ := maxF_spec r (if b > a then b else a)
    refine ⟨?_, ?_, ?_⟩
    · rcases h1 with h1 | h1
      · by_cases hb : b > a
        · rw [if_pos hb] at h1
          exact .inr (by rw [List.foldl_cons, if_pos hb, h1]; exact List.mem_cons_self)
        · rw [if_neg hb] at h1
          exact .inl (by rw [List.foldl_cons, if_neg hb, h1])
      · exact .inr (by rw [List.foldl_cons]; exact List.mem_cons_of_mem _ h1)
    · rw [List.foldl_cons]
      refine Int.le_trans ?_ h2
      split <;> omega
    · intro y hy
      rw [List.foldl_cons]
      rcases List.mem_cons.mp hy with rfl | hy
      · refine Int.le_trans ?_ h2
        split <;> omega
      · exact h3 y hy
theorem minF_spec : ∀ (r : List Int) (a : Int), (r.foldl (fun m b => if b < m then b else m) a = a ∨ r.foldl (fun m b => if b < m then b else m) a ∈ r) ∧ r.foldl (fun m b => if b < m then b else m) a ≤ a ∧ ∀ y ∈ r, r.foldl (fun m b => if b < m then b else m) a ≤ y
  | [], a => ⟨.inl rfl, Int.le_refl _, fun _ h => by cases h⟩
  | b :: r, a => by
    obtain ⟨h1, h2, h3⟩ := minF_spec r (if b < a then b else a)
    refine ⟨?_, ?_, ?_⟩
    · rcases h1 with h1 | h1
      · by_cases hb : b < a
        · rw [if_pos hb] at h1
          exact .inr (by rw [List.foldl_cons, if_pos hb, h1]; exact List.mem_cons_self)
        · rw [if_neg hb] at h1
          exact .inl (by rw [List.foldl_cons, if_neg hb, h1])
      · exact .inr (by rw [List.foldl_cons]; exact List.mem_cons_of_mem _ h1)
    · rw [List.foldl_cons]
      refine Int.le_trans h2 ?_
      split <;> omega
    · intro y hy
      rw [List.foldl_cons]
      rcases List.mem_cons.mp hy with rfl | hy
      · refine Int.le_trans h2 ?_
        split <;> omega
      · exact h3 y hy
theorem maxL_mem {ns : List Int} (h : 0 < ns.length) : maxL ns ∈ ns := by
  cases ns with
  | nil => cases h
  | cons a r =>
    rcases (maxF_spec r a).1 with e | e
    · show r.foldl _ a ∈ _; rw [e]; exact List.mem_cons_self
    · exact List.mem_cons_of_mem _ e
theorem maxL_ge {ns : List Int} {y : Int} (h : y ∈ ns) : y ≤ maxL ns := by
  cases ns with
  | nil => cases h
  | cons a r =>
    rcases List.mem_cons.mp h with rfl | h
    · exact (maxF_spec r y).2.1
    · exact (maxF_spec r a).2.2 y h
theorem minL_mem {ns : List Int} (h : 0 < ns.length) : minL ns ∈ ns := by
  cases ns with
  | nil => cases h
  | cons a r =>
    rcases (minF_spec r a).1 with e | e
    · show r.foldl _ a ∈ _; rw [e]; exact List.mem_cons_self
    · exact List.mem_cons_of_mem _ e
theorem minL_le {ns : List Int} {y : Int} (h : y ∈ ns) : minL ns ≤ y := by
  cases ns with
  | nil => cases h
  | cons a r =>
    rcases List.mem_cons.mp h with rfl | h
    · exact (minF_spec r y).2.1
    · exact (minF_spec r a).2.2 y h
theorem maxL_eq {ns : List Int} {m : Int} (h1 : m ∈ ns) (h2 : ∀ y ∈ ns, y ≤ m) : m = maxL ns :=
  Int.le_antisymm (maxL_ge h1) (h2 _ (maxL_mem (List.length_pos_of_mem h1)))
theorem minL_eq {ns : List Int} {m : Int} (h1 : m ∈ ns) (h2 : ∀ y ∈ ns, m ≤ y) : m = minL ns :=
  Int.le_antisymm (h2 _ (minL_mem (List.length_pos_of_mem h1))) (minL_le h1)
def maxD : List D → Option D
  | [.int i, .int j] => some (.int (if j > i then j else i))
  | [.list ds] => (ints? ds).bind fun ns => if 0 < ns.length then some (.int (maxL ns)) else none
  | [.tuple ds] => (ints? ds).bind fun ns => if 0 < ns.length then some (.int (maxL ns)) else none
  | _ => none
def minD : List D → Option D
  | [.int i, .int j] => some (.int (if j < i then j else i))
  | [.list ds] => (ints? ds).bind fun ns => if 0 < ns.length then some (.int (minL ns)) else none
  | [.tuple ds] => (ints? ds).bind fun ns => if 0 < ns.length then some (.int (minL ns)) else none
  | _ => none
def sumD : List D → Option D
  | [.list ds] => (ints? ds).bind fun ns => some (.int ns.sum)
  | [.tuple ds] => (ints? ds).bind fun ns => some (.int ns.sum)
  | _ => none
def anyD : List D → Option D
  | [.list ds] => (bools? ds).bind fun bs => some (.bool (bs.any id))
  | _ => none
def allD : List D → Option D
  | [.list ds] => (bools? ds).bind fun bs => some (.bool (bs.all id))
  | _ => none
section
variable {X : Cx}
theorem k_len : CallG X.K (fun xs H Q => ∃ x n, xs = [x] ∧ LenV X.K x H n ∧ Q (.int n) H) lenD := by
  intro c B σ H μ xs ds z Q r h hz k
  unfold lenD at hz
  split at hz
  · cases hz
    obtain ⟨x, rfl, hx⟩ := lka1 h
    obtain ⟨p, vs, rfl, h1, h2⟩ := hx.list r.r0.ext
    exact ⟨_, _, rfl, .inl ⟨vs, SqL.of h1, h2.length.symm⟩, k.go r (.int _)⟩
  · cases hz
    obtain ⟨x, rfl, hx⟩ := lka1 h
    obtain ⟨p, vs, rfl, h1, h1', h2⟩ := hx.tuple r.r0.ext
    exact ⟨_, _, rfl, .inr ⟨vs, h1, h2.length.symm⟩, k.go r (.int _)⟩
  · split at hz
    · rename_i hl
      cases hz
      obtain ⟨x, rfl, hx⟩ := lka1 h
      rw [hx.str]
      exact ⟨_, _, rfl, ⟨by rw [sizeLine_eq]; exact hl, rfl⟩, k.go r (.int _)⟩
    · cases hz
  · cases hz
theorem k_list : CallF X.K (fun xs H Q => ∃ p ys, xs = [.ref p] ∧ (SqL X.K H p ys ∨ SqT X.K H p ys) ∧ ∀ l, H l = none → Q (.ref l) (upd H l (.lst ys))) listF := by
  intro c B σ H μ xs ds z Q r h hz k
  unfold listF at hz
  split at hz
  · cases hz
    obtain ⟨x, rfl, hx⟩ := lka1 h
    obtain ⟨p, vs, rfl, h1, h2⟩ := hx.list r.r0.ext
    exact ⟨p, vs, rfl, .inl (SqL.of h1), fun l hl => k l vs hl h2⟩
  · cases hz
    obtain ⟨x, rfl, hx⟩ := lka1 h
    obtain ⟨p, vs, rfl, h1, h1', h2⟩ := hx.tuple r.r0.ext
    exact ⟨p, vs, rfl, .inr h1, fun l hl => k l vs hl h2⟩
  · cases hz
theorem k_tup : CallG X.K (fun xs H Q => ∃ p ys, xs = [.ref p] ∧ ((SqL X.K H p ys ∧ ∀ l, H l = none → Q (.ref l) (upd H l (.tup ys))) ∨ (SqT X.K H p ys ∧ Q (.ref p) H))) tupD := by
  intro c B σ H μ xs ds z Q r h hz k
  unfold tupD at hz
  split at hz
  · cases hz
    obtain ⟨x, rfl, hx⟩ := lka1 h
    obtain ⟨p, vs, rfl, h1, h2⟩ := hx.list r.r0.ext
    exact ⟨p, vs, rfl, .inl ⟨SqL.of h1, fun l hl => k.tup r h2 hl⟩⟩
  · cases hz
    obtain ⟨x, rfl, hx⟩ := lka1 h
    obtain ⟨p, vs, rfl, h1, h1', h2⟩ := hx.tuple r.r0.ext
    exact ⟨p, vs, rfl, .inr ⟨h1, k.go r (.tup h1' h2)⟩⟩
  · cases hz
theorem k_abs : CallG X.K (fun xs H Q => ∃ i, xs = [.int i] ∧ Q (.int (if i < 0 then -i else i)) H) absD := by
  intro c B σ H μ xs ds z Q r h hz k
  unfold absD at hz
  split at hz
  · cases hz
    obtain ⟨x, rfl, hx⟩ := lka1 h
    rw [hx.int]
    exact ⟨_, rfl, k.go r (.int _)⟩
  · cases hz
theorem k_int : CallG X.K (fun xs H Q => (∃ i, xs = [.int i] ∧ Q (.int i) H) ∨ ∃ k, xs = [.bl k] ∧ Q (.int (if k then 1 else 0)) H) intD := by
  intro c B σ H μ xs ds z Q r h hz k
  unfold intD at hz
  split at hz
  · cases hz
    obtain ⟨x, rfl, hx⟩ := lka1 h
    rw [hx.int]
    exact .inl ⟨_, rfl, k.go r (.int _)⟩
  · cases hz
    obtain ⟨x, rfl, hx⟩ := lka1 h
    rw [hx.bool]
    exact .inr ⟨_, rfl, k.go r (.int _)⟩
  · cases hz
end
theorem CallR.or {X : Cx} {f : Value} {r r' : List V → Hp → VK → Prop} (h : CallR X f r) (h' : CallR X f r') : CallR X f (fun xs H Q => r xs H Q ∨ r' xs H Q) := by
  intro pins s σ H xs us Q I rx q
  rcases q with q | q
  · exact h pins s σ H xs us Q I rx q
  · exact h' pins s σ H xs us Q I rx q
/-! ### sums, greatest, least ones of tuples -/
def rSumT (K : PySem.W.Frag) : List V → Hp → VK → Prop := fun vs H Q => ∃ (a : Addr) (ns : List Int), vs = [V.ref a] ∧ SqT K H a (ns.map V.int) ∧ Q (.int ns.sum) H
def rMaxT (K : PySem.W.Frag) : List V → Hp → VK → Prop := fun vs H Q => ∃ (a : Addr) (ns : List Int), vs = [V.ref a] ∧ SqT K H a (ns.map V.int) ∧ 0 < ns.length ∧ ∀ m, m ∈ ns → (∀ y, y ∈ ns → y ≤ m) → Q (.int m) H
section
variable {prog : Program} {w : World} {A : Around} {E : Value → Shared → Prop} {s : Shared} {t : Addr} {its : List Value} {ns : List Int} {Q : Value → Shared → Prop}
theorem sumT_raw (hh : A.handled = none) (ht : IsTup s.heap t its.toArray) (hi : IntsAre its ns)
    (h : ∀ h' tk t', (∀ b o, s.heap.get? b = some o → h'.get? b = some o) → Q (.int ns.sum t') { s with heap := h', toks := tk }) : wpAny (model prog w) A (call (.builtin "sum") [.ref t]) Q E s := by
  obtain ⟨xs, e⟩ := hi.allInts.items
  have hn : numsOf (intItems xs).toList = ns := by rw [← e]; exact hi.numsOf
  rw [nums_intItems] at hn
  have hl : s.heap.IsTuple t its.toArray := ht
  rw [e] at hl
  refine PySem.W.ktm_sumG hh hl fun h' tk t' hk => ?_
  have := h h' tk t' hk
  rw [preSum_eq, List.take_of_length_le (by simp), hn]; exact this
theorem maxT_raw (hh : A.handled = none) (ht : IsTup s.heap t its.toArray) (hi : IntsAre its ns) (hne : 0 < ns.length)
    (h : ∀ h' tk M t', (∀ b o, s.heap.get? b = some o → h'.get? b = some o) → M ∈ ns → (∀ a, a ∈ ns → a ≤ M) → Q (.int M t') { s with heap := h', toks := tk }) : wpAny (model prog w) A (call (.builtin "max") [.ref t]) Q E s := by
  obtain ⟨xs, e⟩ := hi.allInts.items
  have hn : numsOf (intItems xs).toList = ns := by rw [← e]; exact hi.numsOf
  rw [nums_intItems] at hn
  subst hn
  have hl : s.heap.IsTuple t its.toArray := ht
  rw [e] at hl
  have hsz : 0 < xs.size := by simpa using hne
  obtain ⟨o, ho, hc, n, hd⟩ := id hl
  have hne' : t ≠ s.heap.objs.size := Nat.ne_of_lt (Heap.lt_size ho)
  have hsz2 : (intItems xs).size = xs.size := by simp [intItems]
  refine call_max_walk (wpAny_pyIter_tuple hl ?_)
  refine ⟨_, _, _, _, _, _, _, rfl, Walks.tuple (A := A.in1) hh s.heap.objs.size t hne' (intItems xs), ⟨⟨_, Heap.get?_push_size _ rfl, rfl, rfl⟩, hl.at fun o e => Heap.get?_push_of_some _ e⟩, fun b hb => ?_, by rw [hsz2]; exact hsz, CmpOf.ints_gt (numAt xs) (fun _ _ => intItems_at), fun v h' tk hP hk => ?_⟩
  · rcases List.mem_cons.mp hb with rfl | hb
    · exact Heap.lt_size (Heap.get?_push_size _ rfl)
    · obtain rfl := List.mem_singleton.mp hb
      exact Heap.lt_size (Heap.get?_push_of_some _ ho)
  · obtain ⟨t', rfl⟩ := intItems_at hP
    rw [hsz2]
    obtain ⟨h1, h2⟩ := argBest_gt (numAt xs) (xs.size - 1)
    refine h h' tk _ t' (fun b o e => hk b o (fun hb => absurd (Heap.lt_size e) ((List.mem_singleton.mp hb) ▸ Nat.lt_irrefl _)) (Heap.get?_push_of_some _ e)) ?_ fun a ha => ?_
    · rw [numAt_eq]; exact PySem.getD_mem (by rw [List.length_map, Array.length_toList]; omega)
    · obtain ⟨j, hj, rfl⟩ := mem_getD ha
      rw [List.length_map, Array.length_toList] at hj
      rw [← numAt_eq]; exact h2 j (by omega)
end
section
variable {X : Cx}
theorem cr_sumT (hc : X.calm = true) : CallR X (.builtin "sum") (rSumT X.K) := by
  intro pins s σ H vs us Q I r h
  obtain ⟨a, ns, rfl, hs, q⟩ := h
  obtain ⟨its, rv, hl, _⟩ := I.tuple hs
  rw [Vals.ref1 r]
  exact sumT_raw (I.ok.hd hc) hl rv.ints fun h' tk t' hk => ⟨.int _, H, I.kept hk, ⟨_, rfl⟩, q⟩
theorem cr_maxT (hc : X.calm = true) : CallR X (.builtin "max") (rMaxT X.K) := by
  intro pins s σ H vs us Q I r h
  obtain ⟨a, ns, rfl, hs, hne, q⟩ := h
  obtain ⟨its, rv, hl, _⟩ := I.tuple hs
  rw [Vals.ref1 r]
  exact maxT_raw (I.ok.hd hc) hl rv.ints hne fun h' tk m t' hk h1 h2 => ⟨.int _, H, I.kept hk, ⟨_, rfl⟩, q m h1 h2⟩
theorem k_max : CallG X.K (fun xs H Q => (∃ i j, xs = [.int i, .int j] ∧ Q (.int (if j > i then j else i)) H) ∨ rMax X.K xs H Q ∨ rMaxT X.K xs H Q) maxD := by
  intro c B σ H μ xs ds z Q r h hz k
  unfold maxD at hz
  split at hz
  · cases hz
    obtain ⟨x, y, rfl, hx, hy⟩ := lka2 h
    rw [hx.int, hy.int]
    exact .inl ⟨_, _, rfl, k.go r (.int _)⟩
  · simp only [Option.bind_eq_some_iff] at hz
    obtain ⟨ns, h1, h2⟩ := hz
    split at h2
    · rename_i hn
      cases h2
      obtain ⟨x, rfl, hx⟩ := lka1 h
      obtain ⟨p, vs, rfl, h3, h4⟩ := hx.list r.r0.ext
      rw [ints?_some h1] at h4
      refine .inr (.inl ⟨p, ns, rfl, ?_, hn, fun m hm hall => ?_⟩)
      · rw [← h4.ints]; exact SqL.of h3
      · rw [maxL_eq hm hall]; exact k.go r (.int _)
    · cases h2
  · simp only [Option.bind_eq_some_iff] at hz
    obtain ⟨ns, h1, h2⟩ := hz
    split at h2
    · rename_i hn
      cases h2
      obtain ⟨x, rfl, hx⟩ := lka1 h
      obtain ⟨p, vs, rfl, h3, h3', h4⟩ := hx.tuple r.r0.ext
      rw [ints?_some h1] at h4
      refine .inr (.inr ⟨p, ns, rfl, ?_, hn, fun m hm hall => ?_⟩)
      · rw [← h4.ints]; exact h3
      · rw [maxL_eq hm hall]; exact k.go r (.int _)
    · cases h2
  · cases hz
def minDL : List D → Option D
  | [.int i, .int j] => some (.int (if j < i then j else i))
  | [.list ds] => (ints? ds).bind fun ns => if 0 < ns.length then some (.int (minL ns)) else none
  | _ => none
theorem k_min : CallG X.K (fun xs H Q => (∃ i j, xs = [.int i, .int j] ∧ Q (.int (if j < i then j else i)) H) ∨ rMin X.K xs H Q) minDL := by
  intro c B σ H μ xs ds z Q r h hz k
  unfold minDL at hz
  split at hz
  · cases hz
    obtain ⟨x, y, rfl, hx, hy⟩ := lka2 h
    rw [hx.int, hy.int]
    exact .inl ⟨_, _, rfl, k.go r (.int _)⟩
  · simp only [Option.bind_eq_some_iff] at hz
    obtain ⟨ns, h1, h2⟩ := hz
    split at h2
    · rename_i hn
      cases h2
      obtain ⟨x, rfl, hx⟩ := lka1 h
      obtain ⟨p, vs, rfl, h3, h4⟩ := hx.list r.r0.ext
      rw [ints?_some h1] at h4
      refine .inr ⟨p, ns, rfl, ?_, hn, fun m hm hall => ?_⟩
      · rw [← h4.ints]; exact SqL.of h3
      · rw [minL_eq hm hall]; exact k.go r (.int _)
    · cases h2
  · cases hz
theorem k_sum : CallG X.K (fun xs H Q => rSum X.K xs H Q ∨ rSumT X.K xs H Q) sumD := by
  intro c B σ H μ xs ds z Q r h hz k
  unfold sumD at hz
  split at hz
  · simp only [Option.bind_eq_some_iff] at hz
    obtain ⟨ns, h1, h2⟩ := hz
    cases h2
    obtain ⟨x, rfl, hx⟩ := lka1 h
    obtain ⟨p, vs, rfl, h3, h4⟩ := hx.list r.r0.ext
    rw [ints?_some h1] at h4
    exact .inl ⟨p, ns, rfl, by rw [← h4.ints]; exact SqL.of h3, k.go r (.int _)⟩
  · simp only [Option.bind_eq_some_iff] at hz
    obtain ⟨ns, h1, h2⟩ := hz
    cases h2
    obtain ⟨x, rfl, hx⟩ := lka1 h
    obtain ⟨p, vs, rfl, h3, h3', h4⟩ := hx.tuple r.r0.ext
    rw [ints?_some h1] at h4
    exact .inr ⟨p, ns, rfl, by rw [← h4.ints]; exact h3, k.go r (.int _)⟩
  · cases hz
theorem k_any : CallG X.K (rAny X.K) anyD := by
  intro c B σ H μ xs ds z Q r h hz k
  unfold anyD at hz
  split at hz
  · simp only [Option.bind_eq_some_iff] at hz
    obtain ⟨ns, h1, h2⟩ := hz
    cases h2
    obtain ⟨x, rfl, hx⟩ := lka1 h
    obtain ⟨p, vs, rfl, h3, h4⟩ := hx.list r.r0.ext
    rw [bools?_some h1] at h4
    exact ⟨p, ns, rfl, by rw [← h4.bools]; exact SqL.of h3, k.go r (.bl _)⟩
  · cases hz
theorem k_all : CallG X.K (rAll X.K) allD := by
  intro c B σ H μ xs ds z Q r h hz k
  unfold allD at hz
  split at hz
  · simp only [Option.bind_eq_some_iff] at hz
    obtain ⟨ns, h1, h2⟩ := hz
    cases h2
    obtain ⟨x, rfl, hx⟩ := lka1 h
    obtain ⟨p, vs, rfl, h3, h4⟩ := hx.list r.r0.ext
    rw [bools?_some h1] at h4
    exact ⟨p, ns, rfl, by rw [← h4.bools]; exact SqL.of h3, k.go r (.bl _)⟩
  · cases hz
/-! ### as rules -/
variable {p pos : Pos} {e : Expr} {es : List Expr} {m : M (List O)}
theorem e_len (hm : X.mg "len" = none) (ha : DA X (e :: es) m) (hg : Gl X "len" := by rfl) (he : starEach (e :: es) X.env = (false, eval e X.env) :: starEach es X.env := by rfl) (hpl : (backTo pos (starEach es X.env)).any (·.1) = false := by rfl) : DE X (.Call (.Name "len" p) (e :: es) [] pos) (mCall lenD m) :=
  e_callB call_len k_len hg hm PySem.boot_len ha (by decide) (by decide) he hpl
theorem e_tuple (hm : X.mg "tuple" = none) (ha : DA X (e :: es) m) (hg : Gl X "tuple" := by rfl) (he : starEach (e :: es) X.env = (false, eval e X.env) :: starEach es X.env := by rfl) (hpl : (backTo pos (starEach es X.env)).any (·.1) = false := by rfl) : DE X (.Call (.Name "tuple" p) (e :: es) [] pos) (mCall tupD m) :=
  e_callTy call_tuple_of k_tup hg hm (by decide +kernel) ha (by decide) (by decide) he hpl
theorem f_list (hm : X.mg "list" = none) (ha : DA X (e :: es) m) (hg : Gl X "list" := by rfl) (he : starEach (e :: es) X.env = (false, eval e X.env) :: starEach es X.env := by rfl) (hpl : (backTo pos (starEach es X.env)).any (·.1) = false := by rfl) : DF X (.Call (.Name "list" p) (e :: es) [] pos) (mCall listF m) :=
  f_callTy call_list_of k_list hg hm (by decide +kernel) ha (by decide) (by decide) he hpl
theorem e_abs (hm : X.mg "abs" = none) (ha : DA X (e :: es) m) (hg : Gl X "abs" := by rfl) (he : starEach (e :: es) X.env = (false, eval e X.env) :: starEach es X.env := by rfl) (hpl : (backTo pos (starEach es X.env)).any (·.1) = false := by rfl) : DE X (.Call (.Name "abs" p) (e :: es) [] pos) (mCall absD m) :=
  e_callB call_abs k_abs hg hm (by decide +kernel) ha (by decide) (by decide) he hpl
theorem e_intc (hm : X.mg "int" = none) (ha : DA X (e :: es) m) (hg : Gl X "int" := by rfl) (he : starEach (e :: es) X.env = (false, eval e X.env) :: starEach es X.env := by rfl) (hpl : (backTo pos (starEach es X.env)).any (·.1) = false := by rfl) : DE X (.Call (.Name "int" p) (e :: es) [] pos) (mCall intD m) :=
  e_callTy call_int1 k_int hg hm (by decide +kernel) ha (by decide) (by decide) he hpl
theorem e_max (hc : X.calm = true) (hm : X.mg "max" = none) (ha : DA X (e :: es) m) (hg : Gl X "max" := by rfl) (he : starEach (e :: es) X.env = (false, eval e X.env) :: starEach es X.env := by rfl) (hpl : (backTo pos (starEach es X.env)).any (·.1) = false := by rfl) : DE X (.Call (.Name "max" p) (e :: es) [] pos) (mCall maxD m) :=
  e_callB (CallR.or (call_max2 hc) (CallR.or (cr_max hc) (cr_maxT hc))) k_max hg hm (by decide +kernel) ha (by decide) (by decide) he hpl
theorem e_min (hc : X.calm = true) (hm : X.mg "min" = none) (ha : DA X (e :: es) m) (hg : Gl X "min" := by rfl) (he : starEach (e :: es) X.env = (false, eval e X.env) :: starEach es X.env := by rfl) (hpl : (backTo pos (starEach es X.env)).any (·.1) = false := by rfl) : DE X (.Call (.Name "min" p) (e :: es) [] pos) (mCall minDL m) :=
  e_callB (CallR.or (call_min2 hc) (cr_min hc)) k_min hg hm (by decide +kernel) ha (by decide) (by decide) he hpl
theorem e_sum (hc : X.calm = true) (hm : X.mg "sum" = none) (ha : DA X (e :: es) m) (hg : Gl X "sum" := by rfl) (he : starEach (e :: es) X.env = (false, eval e X.env) :: starEach es X.env := by rfl) (hpl : (backTo pos (starEach es X.env)).any (·.1) = false := by rfl) : DE X (.Call (.Name "sum" p) (e :: es) [] pos) (mCall sumD m) :=
  e_callB (CallR.or (cr_sum hc) (cr_sumT hc)) k_sum hg hm (by decide +kernel) ha (by decide) (by decide) he hpl
theorem e_any (hc : X.calm = true) (hm : X.mg "any" = none) (ha : DA X (e :: es) m) (hg : Gl X "any" := by rfl) (he : starEach (e :: es) X.env = (false, eval e X.env) :: starEach es X.env := by rfl) (hpl : (backTo pos (starEach es X.env)).any (·.1) = false := by rfl) : DE X (.Call (.Name "any" p) (e :: es) [] pos) (mCall anyD m) :=
  e_callB (cr_any hc) k_any hg hm (by decide +kernel) ha (by decide) (by decide) he hpl
theorem e_all (hc : X.calm = true) (hm : X.mg "all" = none) (ha : DA X (e :: es) m) (hg : Gl X "all" := by rfl) (he : starEach (e :: es) X.env = (false, eval e X.env) :: starEach es X.env := by rfl) (hpl : (backTo pos (starEach es X.env)).any (·.1) = false := by rfl) : DE X (.Call (.Name "all" p) (e :: es) [] pos) (mCall allD m) :=
  e_callB (cr_all hc) k_all hg hm (by decide +kernel) ha (by decide) (by decide) he hpl
end

/-! ### isinstance(x, T) -/
def tyName : D → String
  | .none => "NoneType"
  | .bool _ => "bool"
  | .int _ => "int"
  | .str _ => "str"
  | .list _ => "list"
  | .tuple _ => "tuple"
  | .dict _ => "list"
def isiD (T : String) (d : D) : Option D := (kitB (tyName d) T).bind fun b => some (.bool b)
def mIsi (T : String) (ma : M O) : M D := m1 (isiD T) ma
section
variable {X : Cx} {a : Expr} {ma : M O} {p q pos : Pos} {T : String} {y : Str}
theorem lk_ty {K : PySem.W.Frag} {st : Option (Addr × Addr)} {B H : Hp} {x : V} {d : D} (h : Lk K st B H x d) (e : Ext B H) (nd : ∀ ks, d ≠ .dict ks) : TyX K H x (.type (tyName d)) := by
  cases d with
  | none => rw [h.none]; exact .base .non
  | bool b => rw [h.bool]; exact .base (.bl b)
  | int i => rw [h.int]; exact .base (.int i)
  | str s => rw [h.str]; exact .base (.str s)
  | list ds =>
    obtain ⟨p, vs, rfl, h1, h2⟩ := h.list e
    exact .base (.lst h1)
  | tuple ds =>
    obtain ⟨p, vs, rfl, h1, _, h2⟩ := h.tuple e
    rcases h1 with (h1 | ⟨o, h1⟩) | ⟨o, its, n, k1, k2, _⟩
    · exact .base (.tup h1)
    · exact .fTuple h1
    · exact .kTuple k1 k2
  | dict ks => exact absurd rfl (nd ks)
/-- isinstance(x, T), T the name of a built-in type -/
theorem e_isi (T : String) (hm : X.mg "isinstance" = none) (hmT : X.mg y = none) (ha : DO X a ma) (hvT : bootBuiltins y = some (.type T)) (hgT : Gl X y := by rfl) (hg : Gl X "isinstance" := by rfl) (hnT : y ≠ "__name__" := by decide) (hdT : (y == ("__debug__" : Str)) = false := by decide)
    (h1 : starEach [a, .Name y q] X.env = (false, eval a X.env) :: starEach [.Name y q] X.env := by rfl) (h2 : starEach [.Name y q] X.env = (false, eval (.Name y q) X.env) :: starEach [] X.env := by rfl) (hpl : (backTo pos (starEach [.Name y q] X.env)).any (·.1) = false := by rfl) :
    DE X (.Call (.Name "isinstance" p) [a, .Name y q] [] pos) (m1 (fun d => match d with | .dict _ => none | d => isiD T d) ma) := by
  obtain ⟨t, pt, o⟩ := ha.ex
  refine ⟨_, pe_callB call_isi hg hm (by decide +kernel) (pa_cons pt (pa_cons (pe_bltn (v := .ty T) hgT hmT hvT rfl hnT hdT) pa_nil h2) h1) (by decide) (by decide) h1 hpl, fun c B σ H μ z μ' Q rel hmm k => ?_⟩
  unfold m1 at hmm
  simp only [Option.bind_eq_some_iff] at hmm
  obtain ⟨⟨o1, μ1⟩, g1, d, g2, z', g3, g4⟩ := hmm
  cases g4
  refine o c B σ H μ o1 _ _ rel g1 fun B1 H1 x e1 r1 x1 => ?_
  have hx := look_ok r1 x1 g2
  have nd : ∀ ks, d ≠ .dict ks := fun ks e => by subst e; cases g3
  have g3' : isiD T d = some z := by
    cases d <;> first | exact g3 | cases g3
  unfold isiD at g3'
  simp only [Option.bind_eq_some_iff] at g3'
  obtain ⟨b, g5, g6⟩ := g3'
  cases g6
  exact ⟨x, .ty T, _, _, b, rfl, .ty T, lk_ty hx r1.r0.ext nd, kit_ty g5, (k.ext e1).go r1 (.bl b)⟩
end

/-! ### x.bit_length(), sep.join(..) -/
def bitsD : D → Option D
  | .int i => some (.int (Builtin.Int.intBits i : Nat))
  | _ => none
def joinD (a : Str) : D → Option D
  | .list ds => (strs? ds).bind fun ys => if (ys.map (·.length)).sum + ys.length * a.length ≤ 16777216 then some (.str (Txt.join a ys)) else none
  | .tuple ds => (strs? ds).bind fun ys => if (ys.map (·.length)).sum + ys.length * a.length ≤ 16777216 then some (.str (Txt.join a ys)) else none
  | _ => none
section
variable {X : Cx} {a b : Expr} {ma mb : M O} {apos pos : Pos}
theorem e_bits (ha : DO X a ma) (hbase : attributeBase a "bit_length" X.env (eval a X.env) = eval a X.env := by rfl) (hline : (apos.endLine == pos.line) = true := by rfl) : DE X (.Call (.Attribute a "bit_length" apos) [] [] pos) (m1 bitsD ma) := by
  obtain ⟨t, pt, o⟩ := ha.ex
  refine ⟨_, pe_bits pt hbase hline, fun c B σ H μ z μ' Q rel hmm k => ?_⟩
  unfold m1 at hmm
  simp only [Option.bind_eq_some_iff] at hmm
  obtain ⟨⟨o1, μ1⟩, g1, d, g2, z', g3, g4⟩ := hmm
  cases g4
  refine o c B σ H μ o1 _ _ rel g1 fun B1 H1 x e1 r1 x1 => ?_
  have hx := look_ok r1 x1 g2
  unfold bitsD at g3
  split at g3
  · cases g3
    exact ⟨_, hx.int, (k.ext e1).go r1 (.int _)⟩
  · cases g3
theorem e_join {s : Str} (ha : DE X a (mC (.str s))) (hb : DO X b mb) (hs : starEach [b] X.env = [(false, eval b X.env)] := by rfl) (hbase : attributeBase a "join" X.env (eval a X.env) = eval a X.env := by rfl) (hline : (apos.endLine == pos.line) = true := by rfl) :
    DE X (.Call (.Attribute a "join" apos) [b] [] pos) (m1 (joinD s) mb) := by
  obtain ⟨t, pt, o⟩ := ha.ex
  obtain ⟨t2, pt2, o2⟩ := hb.ex
  refine ⟨_, pe_join pt pt2 hs hbase hline, fun c B σ H μ z μ' Q rel hmm k => ?_⟩
  unfold m1 at hmm
  simp only [Option.bind_eq_some_iff] at hmm
  obtain ⟨⟨o1, μ1⟩, g1, d, g2, z', g3, g4⟩ := hmm
  cases g4
  refine o c B σ H μ _ μ _ rel rfl fun B1 H1 x e1 r1 x1 => ⟨⟨s, by cases x1; rfl⟩, ?_⟩
  cases x1
  refine o2 c B1 σ H1 μ o1 _ _ r1 g1 fun B2 H2 y e2 r2 y2 => ?_
  have hy := look_ok r2 y2 g2
  unfold joinD at g3
  split at g3
  · simp only [Option.bind_eq_some_iff] at g3
    obtain ⟨ys, g5, g6⟩ := g3
    split at g6
    · rename_i hl
      cases g6
      obtain ⟨p, vs, rfl, h1, h2⟩ := hy.list r2.r0.ext
      rw [strs?_some g5] at h2
      exact ⟨_, p, ys, rfl, rfl, .inl (by rw [← h2.strs]; exact SqL.of h1), hl, (k.ext (e1.trans e2)).go r2 (.str _)⟩
    · cases g6
  · simp only [Option.bind_eq_some_iff] at g3
    obtain ⟨ys, g5, g6⟩ := g3
    split at g6
    · rename_i hl
      cases g6
      obtain ⟨p, vs, rfl, h1, h1', h2⟩ := hy.tuple r2.r0.ext
      rw [strs?_some g5] at h2
      exact ⟨_, p, ys, rfl, rfl, .inr (by rw [← h2.strs]; exact h1), hl, (k.ext (e1.trans e2)).go r2 (.str _)⟩
    · cases g6
  · cases g3
end

/-! ### list(range(..)), tuple(range(..)) -/
section
variable {X : Cx} {a : Expr} {ma : M O} {p q pos pos2 : Pos}
def rgD : D → Option (List D)
  | .int n => if 0 ≤ n ∧ n ≤ 16777216 then some (intsR 0 n.toNat) else none
  | _ => none
theorem rgV_rp {K : PySem.W.Frag} {st : Option (Addr × Addr)} {B : Hp} (n : Int) (h : 0 ≤ n) : RpA K st B (rgV 0 n) (intsR 0 n.toNat) := by
  have e1 : rgV 0 n = ((List.range n.toNat).map fun i => (0 + ((i : Nat) : Int))).map V.int := by
    unfold rgV
    rw [List.map_map]
    have : (n - 0).toNat = n.toNat := by omega
    rw [this]
    rfl
  have e2 : intsR 0 n.toNat = ((List.range n.toNat).map fun i => (0 + ((i : Nat) : Int))).map PyData.int := by
    unfold intsR
    rw [List.map_map]
    rfl
  rw [e1, e2]
  exact RpA.ofInts _
def mRg (ma : M O) : M (List D) := fun μ => (ma μ).bind fun p => (look p.1 p.2).bind fun d => (rgD d).bind fun z => some (z, p.2)
theorem f_listRg (hc : X.calm = true) (hm : X.mg "list" = none) (hm2 : X.mg "range" = none) (ha : DO X a ma) (hg : Gl X "list" := by rfl) (hg2 : Gl X "range" := by rfl) (na : starEach [a] X.env = (false, eval a X.env) :: starEach [] X.env := by rfl)
    (nb : starEach [.Call (.Name "range" q) [a] [] pos2] X.env = (false, eval (.Call (.Name "range" q) [a] [] pos2) X.env) :: starEach [] X.env := by rfl) :
    DF X (.Call (.Name "list" p) [.Call (.Name "range" q) [a] [] pos2] [] pos) (mRg ma) := by
  obtain ⟨t, pt, o⟩ := ha.ex
  refine ⟨_, pe_listRg hc hg hm (prg_1 hg2 hm2 pt na) nb, fun c B σ H μ z μ' Q rel hmm k => ?_⟩
  unfold mRg at hmm
  simp only [Option.bind_eq_some_iff] at hmm
  obtain ⟨⟨o1, μ1⟩, g1, d, g2, z', g3, g4⟩ := hmm
  cases g4
  refine o c B σ H μ o1 _ _ rel g1 fun B1 H1 x e1 r1 x1 => ?_
  have hx := look_ok r1 x1 g2
  unfold rgD at g3
  split at g3
  · split at g3
    · rename_i n hn
      cases g3
      refine ⟨n, hx.int, RgOk.of_le (by omega) (by omega) (by omega) hn.1, fun a ha => ?_⟩
      obtain ⟨f0, fb⟩ := r1.r0.fresh ha
      exact k B1 _ a _ e1 (r1.hide ha) upd_same fb f0 (r1.noOwn ha) (rgV_rp n hn.1)
    · cases g3
  · cases g3
end

/-! ### stores into lists of ours -/
def sIx (i : Nat) (mi me : M D) : MT := fun μ => match me μ with
  | some (d, μ1) => (match owned μ1 i with
    | some _ => (match mi μ1 with
      | some (.int k, μ2) => (match owned μ2 i with
        | some ds => (match ixN ds.length k with
          | some j => .nx (setS μ2 i (.own (ds.set j d)))
          | none => .bad)
        | none => .bad)
      | _ => .bad)
    | none => .bad)
  | none => .bad
section
variable {X : Cx} {x : Str} {px pos tpos : Pos} {ie e : Expr} {mi me : M D}
theorem s_ix (i : Nat) (he : DE X e me) (hi : DE X ie mi) (hN : X.N[i]? = some x := by rfl) (hv : Vis X.env.scope x := by first | exact Or.inl rfl | exact Or.inr (Or.inl rfl) | exact Or.inr (Or.inr rfl)) (hd : (x == ("__debug__" : Str)) = false := by decide)
    (hcd : (x == ("__classdict__" : Str)) = false := by decide) (ha : ∀ v, assign (.Subscript (.Name x px) ie tpos) X.env v = (do
      let ov ← holding [v] (eval (.Name x px) X.env)
      let iv ← holding [v, ov] (eval ie X.env)
      standAt tpos
      holding [v, ov, iv] (setItem ov iv v)
      release [v, ov, iv] []) := by intro _; rfl) (hs : swapsWithSole [.Subscript (.Name x px) ie tpos] e pos.line X.env = pure false := by rfl) (hw : swappedStores [.Subscript (.Name x px) ie tpos] e X.env = pure none := by rfl)
    (h1 : (assignEach [.Subscript (.Name x px) ie tpos] X.env).map (·.2) = [assign (.Subscript (.Name x px) ie tpos) X.env] := by rfl) : DS X (.Assign [.Subscript (.Name x px) ie tpos] e pos) (sIx i mi me) := by
  obtain ⟨t, pt, o⟩ := he.ex
  obtain ⟨t2, pt2, o2⟩ := hi.ex
  refine ⟨_, ps_asg pt (pg_sub (pv i hN hv hd hcd) pt2 set_list ha) hs hw h1, fun c B σ H μ E r a => ?_⟩
  unfold sIx at a
  split at a
  · rename_i d μ1 hm1
    split at a
    · rename_i ds0 ho1
      split at a
      · rename_i k μ2 hm2
        split at a
        · rename_i ds ho2
          split at a
          · rename_i j hj
            refine o c B σ H μ d μ1 _ r hm1 fun B1 H1 v e1 r1 hv1 => ?_
            obtain ⟨q, vs, s1, s2, s3, s4⟩ := r1.tyL ho1
            refine ⟨_, s1, o2 c B1 σ H1 μ1 _ μ2 _ r1 hm2 fun B2 H2 w e2 r2 hw2 => ?_⟩
            cases hw2
            obtain ⟨q', vs', t1, t2', t3, t4⟩ := r2.tyL ho2
            rw [s1] at t1; cases t1
            refine ⟨q, vs', k, j, rfl, rfl, t2', by rw [t3.length]; exact hj, ?_⟩
            exact a B2 σ _ (e1.trans e2) (r2.ownSet (owned_some ho2) s1 (RpA.set (hv1.mono e2) j t3))
          · exact a.elim
        · exact a.elim
      · exact a.elim
    · exact a.elim
  · exact a.elim
end
/-- x[i] op= e -/
def getL (K : PySem.W.Frag) : V → V → Hp → VK → Prop := fun o i H Q => ∃ p xs k v, o = .ref p ∧ i = .int k ∧ SqL K H p xs ∧ 0 ≤ k ∧ k < 2 ^ 63 ∧ xs[k.toNat]? = some v ∧ Q v H
theorem get_list {X : Cx} : PGet X (getL X.K) := by
  intro pins s σ H o i ov iv Q I ro ri h
  obtain ⟨p, xs, k, v, rfl, rfl, hq, h0, h1, hv, q⟩ := h
  cases ro
  obtain ⟨t, rfl⟩ := ri
  obtain ⟨its, r, pl, hz⟩ := I.list hq
  obtain ⟨u, hu, ru⟩ := r.get hv
  exact wpAny_getItem_list pl.isList h0 h1 (by simpa using hu) ⟨v, H, I, ru, q⟩
def sAugIx (g : D → D → Option D) (i : Nat) (mi me : M D) : MT := fun μ => match owned μ i with
  | some _ => (match mi μ with
    | some (.int k, μ1) => (match owned μ1 i with
      | some ds => if 0 ≤ k ∧ k < 2 ^ 63 then (match ds[k.toNat]? with
        | some old => (match me μ1 with
          | some (y, μ2) => (match g old y with
            | some z => (match owned μ2 i with
              | some ds' => (match ixN ds'.length k with
                | some j => .nx (setS μ2 i (.own (ds'.set j z)))
                | none => .bad)
              | none => .bad)
            | none => .bad)
          | none => .bad)
        | none => .bad) else .bad
      | none => .bad)
    | _ => .bad)
  | none => .bad
section
variable {X : Cx} {x : Str} {px pos tpos : Pos} {ie e : Expr} {mi me : M D}
theorem s_augIx (i : Nat) {op : Operator} {g : D → D → Option D} {f : Int → Int → Int} (ho : PIp X op (ipI f)) (hg : ∀ a b z, g a b = some z → ∃ i j, a = .int i ∧ b = .int j ∧ z = .int (f i j)) (hi : DE X ie mi) (he : DE X e me) (hN : X.N[i]? = some x := by rfl) (hv : Vis X.env.scope x := by first | exact Or.inl rfl | exact Or.inr (Or.inl rfl) | exact Or.inr (Or.inr rfl)) (hd : (x == ("__debug__" : Str)) = false := by decide)
    (hcd : (x == ("__classdict__" : Str)) = false := by decide) (ha : ∀ ov iv new, augStore ie ov iv new = (do holding [new, ov, iv] (setItem ov iv new); release [new, ov, iv] []; pure .next) := by intros; rfl) :
    DS X (.AugAssign (.Subscript (.Name x px) ie tpos) op e pos) (sAugIx g i mi me) := by
  obtain ⟨t, pt, o⟩ := he.ex
  obtain ⟨t2, pt2, o2⟩ := hi.ex
  refine ⟨_, ps_augS (pv i hN hv hd hcd) pt2 get_list pt ho set_list ha, fun c B σ H μ E r a => ?_⟩
  unfold sAugIx at a
  split at a
  · rename_i ds0 ho0
    split at a
    · rename_i k μ1 hm1
      split at a
      · rename_i ds ho1
        split at a
        · rename_i hk
          split at a
          · rename_i old hold
            split at a
            · rename_i y μ2 hm2
              split at a
              · rename_i z hz
                split at a
                · rename_i ds' ho2
                  split at a
                  · rename_i j hj
                    obtain ⟨i1, j1, rfl, rfl, rfl⟩ := hg _ _ _ hz
                    obtain ⟨q, vs, s1, s2, s3, s4⟩ := r.tyL ho0
                    refine ⟨_, s1, o2 c B σ H μ _ μ1 _ r hm1 fun B1 H1 v e1 r1 hv1 => ?_⟩
                    cases hv1
                    obtain ⟨q', vs', t1, t2', t3, t4⟩ := r1.tyL ho1
                    rw [s1] at t1; cases t1
                    obtain ⟨v, g1, g2⟩ := t3.get hold
                    cases g2
                    refine ⟨q, vs', k, _, rfl, rfl, SqL.of t2', hk.1, hk.2, g1, ?_⟩
                    refine o c B1 σ H1 μ1 _ μ2 _ r1 hm2 fun B2 H2 w e2 r2 hw2 => ?_
                    cases hw2
                    refine ⟨_, _, rfl, rfl, ?_⟩
                    obtain ⟨q'', vs'', u1, u2, u3, u4⟩ := r2.tyL ho2
                    rw [s1] at u1; cases u1
                    refine ⟨q, vs'', k, j, rfl, rfl, u2, by rw [u3.length]; exact hj, ?_⟩
                    exact a B2 σ _ (e1.trans e2) (r2.ownSet (owned_some ho2) s1 (RpA.set (.int _) j u3))
                  · exact a.elim
                · exact a.elim
              · exact a.elim
            · exact a.elim
          · exact a.elim
        · exact a.elim
      · exact a.elim
    · exact a.elim
  · exact a.elim
theorem addI_spec (a b z : D) (h : addI a b = some z) : ∃ i j, a = .int i ∧ b = .int j ∧ z = .int (i + j) := by
  unfold addI at h
  split at h
  · cases h; exact ⟨_, _, rfl, rfl, rfl⟩
  · cases h
end
end Mi
/-! Mi, seventh part: several names at once, the draws, a law's end. -/
namespace Mi
open PySem PySem.Spec PyProof.Rows L2

/-! ### a, b = e, f -/
inductive Sv where
  | val (d : D)
  | own (ds : List D)
def Sv.sl : Sv → Sl
  | .val d => .val d
  | .own ds => .own ds
def SvOk (K : PySem.W.Frag) (c : C) (B : Hp) (σ : St) (H : Hp) (μ : MS) (v : V) : Sv → Prop
  | .val d => Rp K c.st B v d
  | .own ds => ∃ p vs, v = .ref p ∧ H p = some (.lst vs) ∧ B p = none ∧ c.H0 p = none ∧ NoOwn σ μ p ∧ RpA K c.st B vs ds

/-- p is one of the new lists among these -/
def OwnsIn (p : Addr) : List V → List Sv → Prop
  | v :: vs, .own _ :: ss => v = .ref p ∨ OwnsIn p vs ss
  | _ :: vs, .val _ :: ss => OwnsIn p vs ss
  | _, _ => False
inductive SvA (K : PySem.W.Frag) (c : C) (B : Hp) (σ : St) (H : Hp) (μ : MS) : List V → List Sv → Prop
  | nil : SvA K c B σ H μ [] []
  | val {v : V} {vs : List V} {d : D} {ss : List Sv} : Rp K c.st B v d → SvA K c B σ H μ vs ss → SvA K c B σ H μ (v :: vs) (.val d :: ss)
  | own {p : Addr} {us : List V} {ds : List D} {vs : List V} {ss : List Sv} : H p = some (.lst us) → B p = none → c.H0 p = none → NoOwn σ μ p → RpA K c.st B us ds → ¬ OwnsIn p vs ss → SvA K c B σ H μ vs ss → SvA K c B σ H μ (.ref p :: vs) (.own ds :: ss)
section
variable {K : PySem.W.Frag} {c : C} {B B' H H' : Hp} {σ : St} {μ : MS} {vs : List V} {ss : List Sv}
theorem SvA.length (h : SvA K c B σ H μ vs ss) : vs.length = ss.length := by
  induction h with
  | nil => rfl
  | val _ _ ih => simp [ih]
  | own _ _ _ _ _ _ _ ih => simp [ih]
theorem SvA.unpin {p : Addr} {o : HO} (h : SvA K (c.pin p o) B σ H μ vs ss) : SvA K c B σ H μ vs ss ∧ ¬ OwnsIn p vs ss := by
  induction h with
  | nil => exact ⟨.nil, fun z => z⟩
  | val a _ ih => exact ⟨.val a ih.1, ih.2⟩
  | @own q us ds vs ss a1 a2 a3 a4 a5 a6 _ ih =>
    have a3' : upd c.H0 p o q = none := a3
    have nq : q ≠ p := fun z => by subst z; rw [upd_same] at a3'; cases a3'
    rw [upd_ne nq] at a3'
    refine ⟨.own a1 a2 a3' a4 a5 a6 ih.1, fun z => ?_⟩
    rcases z with z | z
    · cases z; exact nq rfl
    · exact ih.2 z
/-- a fresh object hides nothing of it -/
theorem SvA.hide {p : Addr} {o : HO} (h : SvA K c B σ H μ vs ss) (hp : H p = none) : SvA K c B σ (upd H p o) μ vs ss := by
  induction h with
  | nil => exact .nil
  | val a _ ih => exact .val a ih
  | own a1 a2 a3 a4 a5 a6 _ ih => exact .own (by rw [upd_ne (ne_of_none a1 hp)]; exact a1) a2 a3 a4 a5 a6 ih
end
def OkX (K : PySem.W.Frag) (t : TA) (m : M (List Sv)) : Prop := ∀ (c : C) (B : Hp) (σ : St) (H : Hp) (μ : MS) (ss : List Sv) (μ' : MS) (Q : List V → Hp → Prop), Rel K c B σ H μ → m μ = some (ss, μ') →
  (∀ B' H' vs, Ext B B' → Rel K c B' σ H' μ' → SvA K c B' σ H' μ' vs ss → Q vs H') → t σ H Q
structure DX (X : Cx) (es : List Expr) (m : M (List Sv)) : Prop where
  ex : ∃ t, PA X es t ∧ OkX X.K t m
def xNil : M (List Sv) := fun μ => some ([], μ)
def xVal (m : M D) (n : M (List Sv)) : M (List Sv) := fun μ => (m μ).bind fun p => (n p.2).bind fun q => some (.val p.1 :: q.1, q.2)
def xNew (m : M (List D)) (n : M (List Sv)) : M (List Sv) := fun μ => (m μ).bind fun p => (n p.2).bind fun q => some (.own p.1 :: q.1, q.2)
section
variable {X : Cx} {e : Expr} {es : List Expr}
theorem x_nil : DX X [] xNil := ⟨_, pa_nil, fun c B σ H μ os μ' Q r hm k => by cases hm; exact k B H [] (Ext.refl _) r .nil⟩
theorem x_val {m : M D} {n : M (List Sv)} (h : DE X e m) (hr : DX X es n) (hs : starEach (e :: es) X.env = (false, eval e X.env) :: starEach es X.env := by rfl) : DX X (e :: es) (xVal m n) := by
  obtain ⟨t, ht, ok⟩ := h.ex
  obtain ⟨t2, ht2, ok2⟩ := hr.ex
  refine ⟨_, pa_cons ht ht2 hs, fun c B σ H μ os μ' Q r hm k => ?_⟩
  unfold xVal at hm
  simp only [Option.bind_eq_some_iff] at hm
  obtain ⟨⟨d, μ1⟩, h1, ⟨ds, μ2⟩, h2, h3⟩ := hm
  cases h3
  refine ok c B σ H μ d μ1 _ r h1 fun B' H' v e r' hr => ?_
  refine ok2 c B' σ H' μ1 ds _ _ r' h2 fun B'' H'' vs e' r'' hrs => ?_
  exact k B'' H'' (v :: vs) (e.trans e') r'' (.val (hr.mono e') hrs)
theorem x_new {m : M (List D)} {n : M (List Sv)} (h : DF X e m) (hr : DX X es n) (hs : starEach (e :: es) X.env = (false, eval e X.env) :: starEach es X.env := by rfl) : DX X (e :: es) (xNew m n) := by
  obtain ⟨t, ht, ok⟩ := h.ex
  obtain ⟨t2, ht2, ok2⟩ := hr.ex
  refine ⟨_, pa_cons ht ht2 hs, fun c B σ H μ os μ' Q r hm k => ?_⟩
  unfold xNew at hm
  simp only [Option.bind_eq_some_iff] at hm
  obtain ⟨⟨d, μ1⟩, h1, ⟨ds, μ2⟩, h2, h3⟩ := hm
  cases h3
  refine ok c B σ H μ d μ1 _ r h1 fun B' H' p us e r' g1 g2 g3 g4 g5 => ?_
  refine ok2 (c.pin p (.lst us)) B' σ H' μ1 ds _ _ (r'.pin g1 g2 g3 g4) h2 fun B'' H'' vs e' r'' hrs => ?_
  obtain ⟨u1, u2, u3, u4⟩ := r''.unpin g3 (r'.r0.b0.none g2) (r'.r0.noSt g3)
  obtain ⟨w1, w2⟩ := hrs.unpin
  exact k B'' H'' (.ref p :: vs) (e.trans e') u1 (.own u2 u3 g3 u4 (g5.mono e') w2 w1)
end
def putA : List Nat → List Sv → MS → Option MS
  | [], [], μ => some μ
  | i :: is, s :: ss, μ => putA is ss (setS μ i s.sl)
  | _, _, _ => none
def setA : List Nat → List V → St → St
  | i :: is, v :: vs, σ => setA is vs (σ.set i (some v))
  | _, _, σ => σ
theorem putA_ok {K : PySem.W.Frag} {c : C} {B H : Hp} : ∀ {is : List Nat} {vs : List V} {ss : List Sv} {σ : St} {μ μ' : MS}, Rel K c B σ H μ → SvA K c B σ H μ vs ss → putA is ss μ = some μ' → Rel K c B (setA is vs σ) H μ'
  | [], _, _, σ, μ, μ', r, .nil, e => by cases e; exact r
  | [], _, _, σ, μ, μ', r, .val _ _, e => by cases e
  | [], _, _, σ, μ, μ', r, .own _ _ _ _ _ _ _, e => by cases e
  | i :: is, _, _, σ, μ, μ', r, .nil, e => by cases e
  | i :: is, _, _, σ, μ, μ', r, .val (v := v) (d := d) h t, e => by
    have r1 := r.putV (i := i) h
    refine putA_ok (is := is) r1 ?_ e
    have aux : ∀ {vs : List V} {ss : List Sv}, SvA K c B σ H μ vs ss → SvA K c B (σ.set i (some v)) H (setS μ i (.val d)) vs ss := by
      intro vs ss h
      induction h with
      | nil => exact .nil
      | val a _ ih => exact .val a ih
      | own a1 a2 a3 a4 a5 a6 _ ih =>
        refine .own a1 a2 a3 (fun j dj hj hs => ?_) a5 a6 ih
        by_cases hji : i = j
        · subst hji
          have hl : i < μ.sl.length := by
            have := (List.getElem?_eq_some_iff.mp hj).1
            simpa [setS] using this
          rw [show (setS μ i (.val d)).sl = μ.sl.set i (.val d) from rfl, List.getElem?_set_self hl] at hj
          cases hj
        · rw [show (setS μ i (.val d)).sl = μ.sl.set i (.val d) from rfl, List.getElem?_set_ne hji] at hj
          rw [List.getElem?_set_ne hji] at hs
          exact a4 j dj hj hs
    exact aux t
  | i :: is, _, _, σ, μ, μ', r, .own (p := p) (us := us) (ds := ds) g1 g2 g3 g4 g5 g6 t, e => by
    have r1 := r.putO (i := i) g1 g2 g3 g5 g4
    refine putA_ok (is := is) r1 ?_ e
    have aux : ∀ {vs : List V} {ss : List Sv}, SvA K c B σ H μ vs ss → ¬ OwnsIn p vs ss → SvA K c B (σ.set i (some (.ref p))) H (setS μ i (.own ds)) vs ss := by
      intro vs ss h
      induction h with
      | nil => exact fun _ => .nil
      | val a _ ih => exact fun n => .val a (ih n)
      | @own q us2 ds2 vs2 ss2 a1 a2 a3 a4 a5 a6 _ ih =>
        intro n
        have nqp : q ≠ p := fun z => n (.inl (by rw [z]))
        refine .own a1 a2 a3 (fun j dj hj hs => ?_) a5 a6 (ih fun z => n (.inr z))
        by_cases hji : i = j
        · subst hji
          have hl : i < μ.sl.length := by
            have := (List.getElem?_eq_some_iff.mp hj).1
            simpa [setS] using this
          rw [List.getElem?_set_self (by rw [r.len]; exact hl)] at hs
          cases hs
          exact nqp rfl
        · rw [show (setS μ i (.own ds)).sl = μ.sl.set i (.own ds) from rfl, List.getElem?_set_ne hji] at hj
          rw [List.getElem?_set_ne hji] at hs
          exact a4 j dj hj hs
    exact aux t g6
def sPar (is : List Nat) (m : M (List Sv)) : MT := fun μ => match m μ with
  | some (ss, μ') => (match putA is ss μ' with
    | some μ2 => .nx μ2
    | none => .bad)
  | none => .bad
/-- names alone as targets -/
def gNs : List Nat → TGs
  | [] => gNil
  | i :: is => gCons (gName i) (gNs is)
structure DN (X : Cx) (es : List Expr) (is : List Nat) : Prop where
  ex : PGs X es (gNs is)
theorem gNs_ok : ∀ {is : List Nat} {vs : List V} {σ : St} {H : Hp} {Q : St → Hp → Prop}, vs.length = is.length → Q (setA is vs σ) H → gNs is vs σ H Q
  | [], [], σ, H, Q, _, q => ⟨rfl, q⟩
  | i :: is, v :: vs, σ, H, Q, e, q => ⟨v, vs, rfl, gNs_ok (is := is) (by simpa using e) q⟩
section
variable {X : Cx} {pos : Pos}
theorem n_nil : DN X [] [] := ⟨pgs_nil⟩
theorem n_cons {x : Str} {p : Pos} {es : List Expr} {is : List Nat} (i : Nat) (hN : X.N.Nodup) (h : DN X es is) (hi : X.N[i]? = some x := by rfl) (hx : Loc X.env.scope x := by first | exact Or.inl rfl | exact Or.inr rfl) (hf : X.fn x = true ∨ X.env.scope.names.lookup x = some .local := by first | exact .inl rfl | exact .inr rfl | assumption)
    (hs : (assignEach (.Name x p :: es) X.env).map (·.2) = assign (.Name x p) X.env :: (assignEach es X.env).map (·.2) := by rfl) : DN X (.Name x p :: es) (i :: is) := ⟨pgs_cons (pg_name hN hi hx hf) h.ex hs⟩
theorem putA_len : ∀ {is : List Nat} {ss : List Sv} {μ μ' : MS}, putA is ss μ = some μ' → ss.length = is.length
  | [], [], _, _, _ => rfl
  | i :: is, s :: ss, μ, μ', e => by
    have := putA_len (is := is) (ss := ss) e
    simp [this]
  | [], _ :: _, _, _, e => by cases e
  | _ :: _, [], _, _, e => by cases e
/-- a, b = e, f through a tuple -/
theorem s_parT {tgs es : List Expr} {k k2 : Nat} {pt pt2 : Pos} {is : List Nat} {m : M (List Sv)} (hc : X.calm = true) (ha : DX X es m) (hg : DN X tgs is) (hsm : is.length ≤ 1000 := by decide)
    (hn : (assignEach tgs X.env).length = is.length := by rfl) (hst : (assignEach tgs X.env).findIdx? (·.1) = none := by rfl) (hs : swapsWithSole [.Tuple tgs k pt] (.Tuple es k2 pt2) pos.line X.env = pure false := by rfl) (hw : swappedStores [.Tuple tgs k pt] (.Tuple es k2 pt2) X.env = pure none := by rfl)
    (h1 : (assignEach [.Tuple tgs k pt] X.env).map (·.2) = [assign (.Tuple tgs k pt) X.env] := by rfl) : DS X (.Assign [.Tuple tgs k pt] (.Tuple es k2 pt2) pos) (sPar is m) := by
  obtain ⟨t, p, o⟩ := ha.ex
  refine ⟨_, ps_asg (pe_tup p) (pg_tup hc hg.ex hn hst) hs hw h1, fun c B σ H μ E r a => ?_⟩
  unfold sPar at a
  split at a
  · rename_i ss μ' hm
    split at a
    · rename_i μ2 hp
      have hl := putA_len hp
      refine o c B σ H μ ss μ' _ r hm fun B1 H1 vs e1 r1 sv => ⟨?_, fun q hq => ?_⟩
      · rw [sv.length, hl]; exact Nat.le_trans hsm (by decide)
      · refine ⟨q, vs, rfl, SqT.of upd_same, by rw [sv.length, hl], gNs_ok (by rw [sv.length, hl]) ?_⟩
        exact a B1 _ _ e1 (putA_ok (r1.hide hq) (sv.hide hq) hp)
    · exact a.elim
  · exact a.elim
/-- a, b = e, f of plain local names: no tuple -/
theorem s_par2 {i j : Nat} {x y : Str} {a b : Expr} {px py pt : Pos} {kt k2 pt2} {m : M (List Sv)} (hc : X.calm = true) (hN : X.N.Nodup) (hij : i ≠ j) (ha : DX X [a, b] m) (hi : X.N[i]? = some x := by rfl) (hj : X.N[j]? = some y := by rfl)
    (hx : X.env.scope.names.lookup x = some .local := by rfl) (hy : X.env.scope.names.lookup y = some .local := by rfl)
    (hw : swappedStores [.Tuple [.Name x px, .Name y py] kt pt] (.Tuple [a, b] k2 pt2) X.env = pure (some [x, y]) := by rfl)
    (hs : swapsWithSole [.Tuple [.Name x px, .Name y py] kt pt] (.Tuple [a, b] k2 pt2) pos.line X.env = pure false := by rfl) :
    DS X (.Assign [.Tuple [.Name x px, .Name y py] kt pt] (.Tuple [a, b] k2 pt2) pos) (sPar [i, j] m) := by
  obtain ⟨t, p, o⟩ := ha.ex
  refine ⟨_, ps_par hc hN hi hj hij hx hy p hw hs, fun c B σ H μ E r h => ?_⟩
  unfold sPar at h
  split at h
  · rename_i ss μ' hm
    split at h
    · rename_i μ2 hp
      have hl := putA_len hp
      refine o c B σ H μ ss μ' _ r hm fun B1 H1 vs e1 r1 sv => ?_
      have hlv : vs.length = 2 := by rw [sv.length, hl]; rfl
      match vs, hlv, sv with
      | [v, w], _, sv => exact ⟨v, w, rfl, h B1 _ _ e1 (putA_ok r1 sv hp)⟩
    · exact h.elim
  · exact h.elim
theorem s_par3 {i j l : Nat} {x y z : Str} {a b c : Expr} {px py pz pt : Pos} {kt k2 pt2} {m : M (List Sv)} (hc : X.calm = true) (hN : X.N.Nodup) (hij : i ≠ j) (hil : i ≠ l) (hjl : j ≠ l) (ha : DX X [a, b, c] m) (hi : X.N[i]? = some x := by rfl) (hj : X.N[j]? = some y := by rfl) (hk : X.N[l]? = some z := by rfl)
    (hx : X.env.scope.names.lookup x = some .local := by rfl) (hy : X.env.scope.names.lookup y = some .local := by rfl) (hz : X.env.scope.names.lookup z = some .local := by rfl)
    (hw : swappedStores [.Tuple [.Name x px, .Name y py, .Name z pz] kt pt] (.Tuple [a, b, c] k2 pt2) X.env = pure (some [x, y, z]) := by rfl)
    (hs : swapsWithSole [.Tuple [.Name x px, .Name y py, .Name z pz] kt pt] (.Tuple [a, b, c] k2 pt2) pos.line X.env = pure false := by rfl) :
    DS X (.Assign [.Tuple [.Name x px, .Name y py, .Name z pz] kt pt] (.Tuple [a, b, c] k2 pt2) pos) (sPar [i, j, l] m) := by
  obtain ⟨t, p, o⟩ := ha.ex
  refine ⟨_, ps_par3 hc hN hi hj hk hij hil hjl hx hy hz p hw hs, fun c B σ H μ E r h => ?_⟩
  unfold sPar at h
  split at h
  · rename_i ss μ' hm
    split at h
    · rename_i μ2 hp
      have hl := putA_len hp
      refine o c B σ H μ ss μ' _ r hm fun B1 H1 vs e1 r1 sv => ?_
      have hlv : vs.length = 3 := by rw [sv.length, hl]; rfl
      match vs, hlv, sv with
      | [u, v, w], _, sv => exact ⟨u, v, w, rfl, h B1 _ _ e1 (putA_ok r1 sv hp)⟩
    · exact h.elim
  · exact h.elim
end

/-! ### the draws -/
def drawM (many : Int) (dr : Dr) : Int × Dr :=
  match dr.1.dropWhile (fun n => n == 0) with
  | v :: r => (v % many, (v / many :: r, dr.2))
  | [] => ((((dr.2 * 48271 + 12345) % 2147483647) / 64) % many, ([], (dr.2 * 48271 + 12345) % 2147483647))
def drawF : FM := fun ds dr => match ds with
  | [.dict [], .int many] => if 0 < many ∧ many.natAbs.log2 < 9000 then some (.int (drawM many dr).1, (drawM many dr).2) else none
  | _ => none
def seedOf (ns : List Int) : Int := ns.foldl (fun s c => (s * 31 + c) % 1000003) 7
def drOf (ns : List Int) : Dr := (ns.map fun n => if n < 0 then -n else n, seedOf ns + 1)
/-- what the first def of the law promises: the state of the draws, new -/
def spState (K : PySem.W.Frag) : Sp := fun vs H Q _ => ∃ (a : Addr) (ns : List Int), vs = [.ref a] ∧ SqL K H a (ns.map V.int) ∧ ns.length ≤ 63 ∧
  ∀ H' p q, H p = none → H q = none → p ≠ q → Ext H H' → H' p = some (.lst [.ref q, .int (drOf ns).2]) → H' q = some (.lst ((drOf ns).1.map V.int)) → Q (.ref p) H'
/-- what the law promises, f its mirror behind the state -/
def spLaw (K : PySem.W.Frag) (f : Dr → SR) : Sp := fun vs H Q _ => ∃ (a : Addr) (ns : List Int), vs = [.ref a] ∧ SqL K H a (ns.map V.int) ∧ ns.length ≤ 63 ∧ (∃ dr, f (drOf ns) = .rt (.bool true) dr) ∧ ∀ H', Q (.bl true) H'
/-- behind the state's making -/
theorem law_start {K : PySem.W.Frag} {H' : Hp} {p q : Addr} {dr : Dr} {σ : St} {i : Nat} {n : Nat} (hp : H' p = some (.lst [.ref q, .int dr.2])) (hq : H' q = some (.lst (dr.1.map V.int))) (npq : p ≠ q) (hs : σ[i]? = some (some (.ref p))) (hl : σ.length = n) :
    Rel K ⟨some (p, q), H', fun _ => none⟩ (fun _ => none) σ H' ⟨(List.replicate n Sl.un).set i (.val (.dict [])), dr⟩ := by
  refine ⟨⟨(fun a o e => by cases e), fun x y e => ?_, fun a o e _ => e, (fun a o e => by cases e), (fun a o e => by cases e)⟩, by simp [hl], fun j s hj => ?_, fun a b da db _ ha _ => ?_⟩
  · cases e
    exact ⟨npq, hp, hq, rfl, rfl, (fun z => by rw [show H' p = none from z] at hp; cases hp), (fun z => by rw [show H' q = none from z] at hq; cases hq)⟩
  · by_cases hji : i = j
    · subst hji
      have hl2 : i < n := by
        have := (List.getElem?_eq_some_iff.mp hj).1
        simpa using this
      rw [List.getElem?_set_self (by simpa using hl2)] at hj
      cases hj
      exact ⟨_, hs, .stt rfl⟩
    · rw [List.getElem?_set_ne hji, List.getElem?_replicate] at hj
      split at hj
      · cases hj; trivial
      · cases hj
  · by_cases hji : i = a
    · subst hji
      have hl2 : i < n := by
        have := (List.getElem?_eq_some_iff.mp ha).1
        simpa using this
      rw [List.getElem?_set_self (by simpa using hl2)] at ha
      cases ha
    · rw [List.getElem?_set_ne hji, List.getElem?_replicate] at ha
      split at ha
      · cases ha
      · cases ha
end Mi
/-! Mi, eighth part: constants of a module, the draw's promise opened. -/
namespace Mi
open PySem PySem.Spec PyProof.Rows L2

def isiN (T : String) (d : D) : Option D := match d with | .dict _ => none | d => isiD T d
def flatOf : D → Option V
  | .none => some .non
  | .bool b => some (.bl b)
  | .int i => some (.int i)
  | .str x => some (.str x)
  | _ => none
def valIs : Value → D → Bool
  | .int i _, .int j => i == j
  | .str x _, .str y => x == y
  | .none, .none => true
  | .bool b, .bool c => b == c
  | _, _ => false
def valsAre : List Value → List D → Bool
  | [], [] => true
  | v :: vs, d :: ds => valIs v d && valsAre vs ds
  | _, _ => false
def constIs (its : Array Value) : D → Bool
  | .tuple ds => (decide (ds.length ≤ 1000) && !mixd ds) && valsAre its.toList ds
  | _ => false
theorem valIs_rp {K : PySem.W.Frag} {st : Option (Addr × Addr)} {B : Hp} : ∀ {v : Value} {d : D}, valIs v d = true → ∃ x, RelV x v ∧ Rp K st B x d := by
  intro v d h
  cases v <;> cases d <;> simp only [valIs] at h <;> first
    | (cases h; done)
    | skip
  · exact ⟨.non, rfl, .non⟩
  · rw [beq_iff_eq] at h; subst h; exact ⟨.bl _, rfl, .bl _⟩
  · rw [beq_iff_eq] at h; subst h; exact ⟨.int _, ⟨_, rfl⟩, .int _⟩
  · rw [beq_iff_eq] at h; subst h; exact ⟨.str _, ⟨_, rfl⟩, .str _⟩
theorem valsAre_rp {K : PySem.W.Frag} {st : Option (Addr × Addr)} {B : Hp} : ∀ {vs : List Value} {ds : List D}, valsAre vs ds = true → ∃ xs, Vals xs vs ∧ RpA K st B xs ds
  | [], [], _ => ⟨[], .nil, .nil⟩
  | v :: vs, d :: ds, h => by
    simp only [valsAre, Bool.and_eq_true] at h
    obtain ⟨x, h1, h2⟩ := valIs_rp (K := K) (st := st) (B := B) h.1
    obtain ⟨xs, h3, h4⟩ := valsAre_rp (K := K) (st := st) (B := B) h.2
    exact ⟨x :: xs, .cons h1 h3, .cons h2 h4⟩
  | [], _ :: _, h => by cases h
  | _ :: _, [], h => by cases h
theorem const_rp {K : PySem.W.Frag} {st : Option (Addr × Addr)} {B : Hp} {a : Addr} {od : Option Addr} {its : Array Value} {n : Nat} {sl : Array (Option Value)} {d : D} (h : K.lookup a = some ⟨.type "tuple", od, .seq its n, sl⟩) (w : constIs its d = true) : Rp K st B (.ref a) d := by
  cases d <;> simp only [constIs] at w <;> try (cases w; done)
  rename_i ds
  rw [Bool.and_eq_true, Bool.and_eq_true, decide_eq_true_eq, Bool.not_eq_true'] at w
  obtain ⟨xs, h1, h2⟩ := valsAre_rp (K := K) (st := st) (B := B) w.2
  refine .tup (.inr ⟨.inr ⟨_, its, n, h, rfl, rfl, ?_, h1⟩, w.1.2⟩) h2
  have e1 := h1.length
  have e2 := h2.length
  have e3 : its.toList.length = its.size := Array.length_toList
  rw [sizeLine_eq]
  omega
theorem seq0 {α : Type} {x : α} {xs : List α} : seqIndex? 0 (x :: xs).length = some 0 := by
  unfold seqIndex?
  simp
theorem ixN0 {α : Type} {x : α} {xs : List α} : ixN (x :: xs).length 0 = some 0 := by
  unfold ixN
  simp
theorem draw_open {K : PySem.W.Frag} {vs : List V} {H : Hp} {Q : VK} {E : XK} (h : spM K 2 drawF vs H Q E) : ∃ (x y : Addr) (m : Int) (dr : Dr), vs = [.ref x, .int m] ∧ 0 < m ∧ m.natAbs.log2 < 9000 ∧ x ≠ y ∧ H x = some (.lst [.ref y, .int dr.2]) ∧ H y = some (.lst (dr.1.map V.int)) ∧
    ∀ H', (∀ a, a ≠ x → a ≠ y → H' a = H a) → H' x = some (.lst [.ref y, .int (drawM m dr).2.2]) → H' y = some (.lst ((drawM m dr).2.1.map V.int)) → Q (.int (drawM m dr).1) H' := by
  obtain ⟨_, st, B, ds, dr, d, dr', r0, hv, hf, k⟩ := h
  unfold drawF at hf
  split at hf
  · rename_i m
    split at hf
    · rename_i hm
      cases hf
      cases hv with
      | cons h1 h2 =>
        cases h2 with
        | cons h2 h3 =>
          cases h3
          cases h2
          cases h1 with
          | @stt x y h1 =>
            obtain ⟨z1, z2, z3, z4, z5, z6, z7⟩ := r0.dr x y h1
            refine ⟨x, y, m, dr, rfl, hm.1, hm.2, z1, z2, z3, fun H' a1 a2 a3 => k B H' _ (Ext.refl _) ?_ (.int _)⟩
            have nst : ∀ a, ¬ IsSt ⟨st, H, B⟩ a → a ≠ x ∧ a ≠ y := fun a s => ⟨fun e => s ⟨x, y, h1, .inl e⟩, fun e => s ⟨x, y, h1, .inr e⟩⟩
            refine ⟨fun a o e => ?_, fun x' y' e => ?_, fun a o e s => ?_, r0.nw, r0.b0⟩
            · have nx : a ≠ x := fun q => by subst q; rw [z4] at e; cases e
              have ny : a ≠ y := fun q => by subst q; rw [z5] at e; cases e
              rw [a1 a nx ny]; exact r0.ext a o e
            · have e' : st = some (x', y') := e
              rw [h1] at e'; cases e'
              exact ⟨z1, a2, a3, z4, z5, z6, z7⟩
            · obtain ⟨nx, ny⟩ := nst a s
              rw [a1 a nx ny]; exact e
    · cases hf
  · cases hf
end Mi
/-! Mi, ninth part: further rules. -/
namespace Mi
open PySem PySem.Spec PyProof.Rows L2

/-! ### range(a, b, c) -/
def rng3 : List D → Option (List D)
  | [.int i, .int j, .int c] => if c ≠ 0 ∧ c.natAbs < 1073741824 ∧ Builtin.Range.small i j c = true ∧ 0 ≤ Builtin.Range.rangeSize i j c then some (intsC i c (Builtin.Range.rangeSize i j c).toNat) else none
  | _ => none
section
variable {X : Cx} {tg : Expr}
theorem i_range3 {a b c : Expr} {ma : M (List O)} {p pos : Pos} (hm : X.mg "range" = none) (ha : DA X [a, b, c] ma) (hg : Gl X "range" := by rfl) (hs : starEach [a, b, c] X.env = (false, eval a X.env) :: starEach [b, c] X.env := by rfl) (hpl : (backTo pos (starEach [b, c] X.env)).any (·.1) = false := by rfl) :
    DI X tg (.Call (.Name "range" p) [a, b, c] [] pos) (mCall rng3 ma) := by
  obtain ⟨t, pt, o⟩ := ha.ex
  refine ⟨_, pi_range3 hg hm pt hs hpl, fun c B σ H μ ds μ' R r hmm k => ?_⟩
  obtain ⟨os, xs, h1, h2, h3⟩ := mCall_some hmm
  refine o c B σ H μ os μ' _ r h1 fun B' H' vs e' r' hv => ?_
  have hl := looks_ok r' hv h2
  unfold rng3 at h3
  split at h3
  · split at h3
    · rename_i hc
      cases h3
      obtain ⟨x, y, z, rfl, hx, hy, hz⟩ := lka3 hl
      exact ⟨_, _, _, _, by rw [hx.int, hy.int, hz.int], ⟨hc.1, hc.2.1, hc.2.2.1, (Int.toNat_of_nonneg hc.2.2.2).symm⟩, k B' H' _ e' r' (walk_rangeC _ _ _)⟩
    · cases h3
  · cases h3
end

/-! ### f() -/
section
variable {X : Cx} {CX : CXT} {k : Nat} {f : Addr} {fd : FuncData} {ps : List Str} {x : Str} {p pos : Pos} {fm : FM} {E : XK}
theorem e_callU0 (F : FnOk X.prog X.w X.K X.mg X.base CX k f fd ps (spM X.K 0 fm)) (hr : Room k X.A) (hm : X.mg x = some (.ref f)) (hk : PySem.W.keepIn X.K (.ref f) = true) (hb : Binds X.K fd ps []) (hx : Passes CX X E) (hg : Gl X x := by rfl) (hdb : (x == ("__debug__" : Str)) = false := by decide) :
    DE X (.Call (.Name x p) [] [] pos) (mCallU fm aNil) := by
  obtain ⟨t, pt, o⟩ := (a_nil (X := X)).ex
  refine ⟨_, pe_call0 F hr hg hm hk hb .nil hx hdb, ?_⟩
  have := ok_callU (fm := fm) (E := E) (n := 0) (t := tNil) (X := X) (m := aNil) (fun c B σ H μ os μ' Q r hm k => by cases hm; exact k B H [] (Ext.refl _) r .nil) aNil_len
  exact this
end

/-! ### xs[::-1] of a list -/
def mRev (ma : M O) : M (List D) := fun μ => (ma μ).bind fun p => (look p.1 p.2).bind fun d => match d with
  | .list ds => some (ds.reverse, p.2)
  | _ => none
section
variable {X : Cx} {a : Expr} {ma : M O}
theorem f_rev {k : Nat} {p1 p2 p3 pos : Pos} (ha : DO X a ma) : DF X (.Subscript a (.Slice none none (some (.UnaryOp .USub (.Constant (.int 1) k p1) p2)) p3) pos) (mRev ma) := by
  obtain ⟨t, pt, o⟩ := ha.ex
  refine ⟨_, pe_revL pt, fun c B σ H μ ds μ' Q r hmm k => ?_⟩
  unfold mRev at hmm
  simp only [Option.bind_eq_some_iff] at hmm
  obtain ⟨⟨o1, μ1⟩, g1, d, g2, g3⟩ := hmm
  split at g3
  · cases g3
    refine o c B σ H μ o1 _ _ r g1 fun B1 H1 x e1 r1 x1 => ?_
    obtain ⟨p, vs, rfl, h1, h2⟩ := (look_ok r1 x1 g2).list r1.r0.ext
    refine ⟨p, vs, rfl, SqL.of h1, fun a ha => ?_⟩
    obtain ⟨f0, fb⟩ := r1.r0.fresh ha
    exact k B1 _ a _ e1 (r1.hide ha) upd_same fb f0 (r1.noOwn ha) h2.reverse
  · cases g3
end

/-! ### zip of two lists, of two tuples -/
def zipD : List D → Option (List D)
  | [.list a, .list b] => some (List.zipWith (fun x y => PyData.tuple [x, y]) a b)
  | [.tuple a, .tuple b] => some (List.zipWith (fun x y => PyData.tuple [x, y]) a b)
  | _ => none
def mZip (m : M (List D)) : M (List D) := fun μ => (m μ).bind fun p => (zipD p.1).bind fun z => some (z, p.2)
theorem zw_get {a b : List D} {i : Nat} {d : D} (h : (List.zipWith (fun x y => PyData.tuple [x, y]) a b)[i]? = some d) : ∃ x y, a[i]? = some x ∧ b[i]? = some y ∧ d = .tuple [x, y] := by
  rw [List.getElem?_zipWith] at h
  cases q1 : a[i]? with
  | none => rw [q1] at h; cases h
  | some x =>
    cases q2 : b[i]? with
    | none => rw [q1, q2] at h; cases h
    | some y =>
      rw [q1, q2] at h
      exact ⟨x, y, rfl, rfl, (Option.some.inj h).symm⟩
section
variable {K : PySem.W.Frag} {st : Option (Addr × Addr)} {B0 : Hp} {a b : Addr} {xs ys : List V} {ds es : List D}
theorem walk_zip (h1 : B0 a = some (.lst xs)) (r1 : RpA K st B0 xs ds) (h2 : B0 b = some (.lst ys)) (r2 : RpA K st B0 ys es) : Walk K st (List.zipWith (fun x y => PyData.tuple [x, y]) ds es) (Itz K a b) B0 := by
  intro c B σ H μ hs e rel
  have hH1 : SqL K H a xs := SqL.of (rel.r0.ext _ _ (e _ _ h1))
  have hH2 : SqL K H b ys := SqL.of (rel.r0.ext _ _ (e _ _ h2))
  refine ⟨fun i d hi => ?_, ⟨xs, ys, hH1, hH2, ?_⟩⟩
  · obtain ⟨x, y, g1, g2, rfl⟩ := zw_get hi
    obtain ⟨v, a1, a2⟩ := r1.get g1
    obtain ⟨w, b1, b2⟩ := r2.get g2
    refine ⟨⟨xs, ys, v, w, hH1, hH2, a1, b1⟩, fun z H' hy => ?_⟩
    obtain ⟨T, v', w', rfl, hT, rfl, q1, q2⟩ := hy
    have z1 := q1 xs hH1
    have z2 := q2 ys hH2
    rw [a1] at z1; cases z1
    rw [b1] at z2; cases z2
    have ex : Ext B (upd B T (.tup [v, w])) := Ext.new (rel.r0.fresh hT).2
    exact ⟨_, ex, rel.know hT, .tup (.inl upd_same) (.cons ((a2.mono e).mono ex) (.cons ((b2.mono e).mono ex) .nil))⟩
  · rw [List.length_zipWith, r1.length, r2.length]
    omega
theorem walk_zipT (h1 : SqT K B0 a xs) (r1 : RpA K st B0 xs ds) (h2 : SqT K B0 b ys) (r2 : RpA K st B0 ys es) : Walk K st (List.zipWith (fun x y => PyData.tuple [x, y]) ds es) (RZ.ItzT K a b) B0 := by
  intro c B σ H μ hs e rel
  have hH1 : SqT K H a xs := (e.trans rel.r0.ext).sqt h1
  have hH2 : SqT K H b ys := (e.trans rel.r0.ext).sqt h2
  refine ⟨fun i d hi => ?_, ⟨xs, ys, hH1, hH2, ?_⟩⟩
  · obtain ⟨x, y, g1, g2, rfl⟩ := zw_get hi
    obtain ⟨v, a1, a2⟩ := r1.get g1
    obtain ⟨w, b1, b2⟩ := r2.get g2
    refine ⟨⟨xs, ys, v, w, hH1, hH2, a1, b1⟩, fun z H' hy => ?_⟩
    obtain ⟨T, v', w', rfl, hT, rfl, q1, q2⟩ := hy
    have z1 := q1 xs hH1
    have z2 := q2 ys hH2
    rw [a1] at z1; cases z1
    rw [b1] at z2; cases z2
    have ex : Ext B (upd B T (.tup [v, w])) := Ext.new (rel.r0.fresh hT).2
    exact ⟨_, ex, rel.know hT, .tup (.inl upd_same) (.cons ((a2.mono e).mono ex) (.cons ((b2.mono e).mono ex) .nil))⟩
  · rw [List.length_zipWith, r1.length, r2.length]
    omega
end
section
variable {X : Cx} {elts : List Expr} {kk : Nat} {tpos p pos : Pos} {e e2 : Expr} {m : M (List D)}
theorem i_zip (hm : X.mg "zip" = none) (ha : DV X [e, e2] m) (hg : Gl X "zip" := by rfl) (hs : starEach [e, e2] X.env = (false, eval e X.env) :: starEach [e2] X.env := by rfl) (hpl : (backTo pos (starEach [e2] X.env)).any (·.1) = false := by rfl) :
    DI X (.Tuple elts kk tpos) (.Call (.Name "zip" p) [e, e2] [] pos) (mZip m) := by
  obtain ⟨t, pt, o⟩ := ha.ex
  refine ⟨_, RZ.pi_zipA hg hm pt hs hpl, fun c B σ H μ ds μ' R r hmm k => ?_⟩
  unfold mZip at hmm
  simp only [Option.bind_eq_some_iff] at hmm
  obtain ⟨⟨xs, μ1⟩, h1, z, h2, h3⟩ := hmm
  cases h3
  refine o c B σ H μ xs _ _ r h1 fun B' H' vs e' r' hv => ?_
  unfold zipD at h2
  split at h2
  · rename_i hx
    have hx' : xs = _ := hx
    subst hx'
    cases h2
    cases hv with
    | cons a1 a2 =>
      cases a2 with
      | cons a2 a3 =>
        cases a3
        cases a1 with
        | lst p1 p2 =>
          cases a2 with
          | lst q1 q2 => exact ⟨_, _, _, _, rfl, .inl ⟨SqL.of (r'.r0.ext _ _ p1), SqL.of (r'.r0.ext _ _ q1), k B' H' _ e' r' (walk_zip p1 p2 q1 q2)⟩⟩
  · rename_i hx
    have hx' : xs = _ := hx
    subst hx'
    cases h2
    cases hv with
    | cons a1 a2 =>
      cases a2 with
      | cons a2 a3 =>
        cases a3
        cases a1 with
        | tup p1 p2 =>
          cases a2 with
          | tup q1 q2 => exact ⟨_, _, _, _, rfl, .inr ⟨r'.r0.ext.sqt p1.sqt, r'.r0.ext.sqt q1.sqt, k B' H' _ e' r' (walk_zipT p1.sqt p2 q1.sqt q2)⟩⟩
  · cases h2
end
end Mi
/-! Mi, tenth part: the mirrors reckoned (no program in sight). -/
namespace Mi
open PySem PySem.Spec PyProof.Rows L2

/-! ### what is wanted of a mirror's outcome -/
/-- a Prop whose type names what comes behind, so that simp leaves it alone before its turn -/
abbrev PropOf.{u} {α : Sort u} (_ : α) : Type := Prop
abbrev PropOf4 (_ : MS → Prop) (_ : D → Dr → Prop) (_ _ : MS → Prop) : Type := Prop
def W0 (r : SR) (N : MS → Prop) (R : D → Dr → Prop) (Bk Ct : MS → Prop) : PropOf4 N R Bk Ct :=
  match r with
  | .nx μ => N μ
  | .rt d dr => R d dr
  | .bk μ => Bk μ
  | .ct μ => Ct μ
  | .bad => False
def WM0 {α : Type} (o : Option (α × MS)) (P : α → MS → Prop) : PropOf P :=
  match o with
  | some p => P p.1 p.2
  | none => False
def WO0 {α : Type} (o : Option α) (P : α → Prop) : PropOf P :=
  match o with
  | some a => P a
  | none => False
/-- a goal as a plain Prop -/
def Go (p : Prop) : Prop := p
@[simp] theorem go_eq {p : Prop} : Go p = p := propext Iff.rfl
section
variable {α β : Type} {N : MS → Prop} {R : D → Dr → Prop} {Bk Ct : MS → Prop} {μ : MS} {P : D → MS → Prop}
@[simp] theorem W0_nx : W0 (.nx μ) N R Bk Ct = N μ := rfl
@[simp] theorem W0_rt {d : D} {dr : Dr} : W0 (.rt d dr) N R Bk Ct = R d dr := rfl
@[simp] theorem W0_bk : W0 (.bk μ) N R Bk Ct = Bk μ := rfl
@[simp] theorem W0_ct : W0 (.ct μ) N R Bk Ct = Ct μ := rfl
@[simp] theorem W0_bad : W0 .bad N R Bk Ct = False := rfl
@[simp] theorem WM0_some {a : α} {Q : α → MS → Prop} : WM0 (some (a, μ)) Q = Q a μ := rfl
@[simp] theorem WM0_none {Q : α → MS → Prop} : WM0 none Q = False := rfl
@[simp] theorem WO0_some {a : α} {Q : α → Prop} : WO0 (some a) Q = Q a := rfl
@[simp] theorem WO0_none {Q : α → Prop} : WO0 none Q = False := rfl
@[simp] theorem WM0_bind {γ : Type} {o : Option γ} {f : γ → Option (α × MS)} {Q : α → MS → Prop} : WM0 (o.bind f) Q = WO0 o fun x => WM0 (f x) Q := by cases o <;> rfl
@[simp] theorem WO0_bind {γ : Type} {o : Option γ} {f : γ → Option α} {Q : α → Prop} : WO0 (o.bind f) Q = WO0 o fun x => WO0 (f x) Q := by cases o <;> rfl
theorem WM0_WO {o : Option (α × MS)} {Q : α → MS → Prop} : WM0 o Q = WO0 o fun p => Q p.1 p.2 := by cases o <;> rfl
theorem WO0_ext {o : Option α} {Q Q' : α → Prop} (h : ∀ a, Q a = Q' a) : WO0 o Q = WO0 o Q' := by rw [show Q = Q' from funext h]
@[simp] theorem WO0_ite {c : Prop} [Decidable c] {o p : Option α} {Q : α → Prop} : WO0 (if c then o else p) Q = if c then WO0 o Q else WO0 p Q := by split <;> rfl
@[simp] theorem WM0_ite {c : Prop} [Decidable c] {o p : Option (α × MS)} {Q : α → MS → Prop} : WM0 (if c then o else p) Q = if c then WM0 o Q else WM0 p Q := by split <;> rfl
@[simp] theorem W0_ite {c : Prop} [Decidable c] {o p : SR} : W0 (if c then o else p) N R Bk Ct = if c then W0 o N R Bk Ct else W0 p N R Bk Ct := by split <;> rfl
theorem W0_mono {r : SR} {N' : MS → Prop} {R' : D → Dr → Prop} {Bk' Ct' : MS → Prop} (h : W0 r N R Bk Ct) (h1 : ∀ μ, N μ → N' μ) (h2 : ∀ d dr, R d dr → R' d dr) (h3 : ∀ μ, Bk μ → Bk' μ) (h4 : ∀ μ, Ct μ → Ct' μ) : W0 r N' R' Bk' Ct' := by
  cases r with
  | nx μ => exact h1 _ h
  | rt d dr => exact h2 _ _ h
  | bk μ => exact h3 _ h
  | ct μ => exact h4 _ h
  | bad => exact h
theorem WM0_mono {o : Option (α × MS)} {Q Q' : α → MS → Prop} (h : WM0 o Q) (h1 : ∀ a μ, Q a μ → Q' a μ) : WM0 o Q' := by
  cases o with
  | none => exact h
  | some p => exact h1 _ _ h
theorem WO0_mono {o : Option α} {Q Q' : α → Prop} (h : WO0 o Q) (h1 : ∀ a, Q a → Q' a) : WO0 o Q' := by
  cases o with
  | none => exact h
  | some p => exact h1 _ h
theorem WO0_eq {o : Option α} {a : α} {Q : α → Prop} (h : o = some a) (q : Q a) : WO0 o Q := by rw [h]; exact q
/-! ### statements -/
theorem w0_seq {s t : MT} : W0 (sSeq s t μ) N R Bk Ct = W0 (s μ) (fun μ' => W0 (t μ') N R Bk Ct) R Bk Ct := by
  unfold sSeq
  cases s μ <;> rfl
theorem w0_nil : W0 (sNil μ) N R Bk Ct = N μ := rfl
theorem w0_if {m : M Bool} {s t : MT} : W0 (sIf m s t μ) N R Bk Ct = WM0 (m μ) fun b μ' => if b = true then W0 (s μ') N R Bk Ct else W0 (t μ') N R Bk Ct := by
  unfold sIf
  cases h : m μ with
  | none => rfl
  | some p =>
    obtain ⟨b, μ'⟩ := p
    cases b <;> simp [WM0]
theorem w0_ret {m : M D} : W0 (sRet m μ) N R Bk Ct = WM0 (m μ) fun d μ' => R d μ'.dr := by
  unfold sRet
  cases h : m μ with
  | none => rfl
  | some p => rfl
theorem w0_retN : W0 (sRetN μ) N R Bk Ct = R .none μ.dr := rfl
theorem w0_drop {m : M D} : W0 (sDrop m μ) N R Bk Ct = WM0 (m μ) fun _ μ' => N μ' := by
  unfold sDrop
  cases h : m μ with
  | none => rfl
  | some p => rfl
theorem w0_set {i : Nat} {m : M D} : W0 (sSet i m μ) N R Bk Ct = WM0 (m μ) fun d μ' => N (setS μ' i (.val d)) := by
  unfold sSet
  cases h : m μ with
  | none => rfl
  | some p => rfl
theorem w0_new {i : Nat} {m : M (List D)} : W0 (sNew i m μ) N R Bk Ct = WM0 (m μ) fun d μ' => N (setS μ' i (.own d)) := by
  unfold sNew
  cases h : m μ with
  | none => rfl
  | some p => rfl
theorem w0_break : W0 (sBreak μ) N R Bk Ct = Bk μ := rfl
theorem w0_cont : W0 (sCont μ) N R Bk Ct = Ct μ := rfl
def valAt (μ : MS) (i : Nat) : Option D := match μ.sl[i]? with
  | some (.val d) => some d
  | _ => none
theorem w0_aug {g : D → D → Option D} {i : Nat} {m : M D} : W0 (sAug g i m μ) N R Bk Ct = WO0 (valAt μ i) fun x => WM0 (m μ) fun y μ' => WO0 (g x y) fun z => N (setS μ' i (.val z)) := by
  unfold sAug valAt
  cases h : μ.sl[i]? with
  | none => rfl
  | some s =>
    cases s with
    | un => rfl
    | ow ds => rfl
    | val d =>
      simp only [WO0_some]
      cases h : m μ with
      | none => rfl
      | some p =>
        obtain ⟨y, μ'⟩ := p
        simp only [WM0_some]
        cases g d y <;> rfl
theorem w0_unp {g : D → MS → Option MS} {m : M D} : W0 (sUnp g m μ) N R Bk Ct = WM0 (m μ) fun d μ' => WO0 (g d μ') N := by
  unfold sUnp
  cases h : m μ with
  | none => rfl
  | some p =>
    obtain ⟨y, μ'⟩ := p
    simp only [WM0_some]
    cases g y μ' <;> rfl
theorem w0_par {is : List Nat} {m : M (List Sv)} : W0 (sPar is m μ) N R Bk Ct = WM0 (m μ) fun ss μ' => WO0 (putA is ss μ') N := by
  unfold sPar
  cases h : m μ with
  | none => rfl
  | some p =>
    obtain ⟨y, μ'⟩ := p
    simp only [WM0_some]
    cases putA is y μ' <;> rfl
theorem w0_ix {i : Nat} {mi me : M D} : W0 (sIx i mi me μ) N R Bk Ct = WM0 (me μ) fun d μ1 => WO0 (owned μ1 i) fun _ => WM0 (mi μ1) fun k μ2 => match k with
    | .int k => WO0 (owned μ2 i) fun ds => WO0 (ixN ds.length k) fun j => N (setS μ2 i (.own (ds.set j d)))
    | _ => False := by
  unfold sIx
  cases h : me μ with
  | none => rfl
  | some p =>
    obtain ⟨d, μ1⟩ := p
    simp only [WM0_some]
    cases owned μ1 i with
    | none => rfl
    | some ds0 =>
      simp only [WO0_some]
      cases h2 : mi μ1 with
      | none => rfl
      | some p =>
        obtain ⟨k, μ2⟩ := p
        simp only [WM0_some]
        cases k <;> try rfl
        simp only
        cases owned μ2 i with
        | none => rfl
        | some ds =>
          simp only [WO0_some]
          cases ixN ds.length _ <;> rfl
/-! ### for, while -/
/-- a loop whose turns go on, leave or hand back -/
theorem w0_for {γ δ : Type} {m : M (List D)} {g : D → MS → Option MS} {s : MT} (emb : δ → D) (A : γ → MS → Prop) (f : γ → δ → γ) {xs : List δ} {μ1 : MS} (hm : m μ = some (xs.map emb, μ1)) {a : γ} (h0 : A a μ1)
    (hs : ∀ (pre : List δ) (x : δ) (post : List δ) (μ : MS), xs = pre ++ x :: post → A (pre.foldl f a) μ → WO0 (g (emb x) μ) fun μ2 => W0 (s μ2) (A ((pre ++ [x]).foldl f a)) R N (A ((pre ++ [x]).foldl f a)))
    (hd : ∀ μ, A (xs.foldl f a) μ → N μ) : W0 (sFor m g s μ) N R Bk Ct := by
  unfold sFor
  rw [hm]
  simp only
  have key : ∀ (post pre : List δ) (μ : MS), xs = pre ++ post → A (pre.foldl f a) μ → W0 (loopF g s (post.map emb) μ) N R Bk Ct := by
    intro post
    induction post with
    | nil =>
      intro pre μ e h
      rw [List.append_nil] at e
      subst e
      exact hd μ h
    | cons x post ih =>
      intro pre μ e h
      have q := hs pre x post μ e h
      simp only [List.map_cons, loopF]
      cases hg : g (emb x) μ with
      | none => rw [hg] at q; exact q.elim
      | some μ2 =>
        rw [hg] at q
        simp only [WO0_some] at q
        simp only
        cases hb : s μ2 with
        | nx μ3 => rw [hb] at q; exact ih (pre ++ [x]) μ3 (by rw [e, List.append_assoc]; rfl) q
        | ct μ3 => rw [hb] at q; exact ih (pre ++ [x]) μ3 (by rw [e, List.append_assoc]; rfl) q
        | bk μ3 => rw [hb] at q; exact q
        | rt d dr => rw [hb] at q; exact q
        | bad => rw [hb] at q; exact q.elim
  exact key xs [] μ1 rfl h0
/-- the same, by the number of the turn -/
theorem w0_forI {δ : Type} {m : M (List D)} {g : D → MS → Option MS} {s : MT} (emb : δ → D) (A : Nat → MS → Prop) {xs : List δ} {μ1 : MS} (hm : m μ = some (xs.map emb, μ1)) (h0 : A 0 μ1)
    (hs : ∀ (i : Nat) (x : δ) (μ : MS), xs[i]? = some x → A i μ → WO0 (g (emb x) μ) fun μ2 => W0 (s μ2) (A (i + 1)) R N (A (i + 1)))
    (hd : ∀ μ, A xs.length μ → N μ) : W0 (sFor m g s μ) N R Bk Ct := by
  have fl : ∀ (l : List δ) (n : Nat), l.foldl (fun n _ => n + 1) n = n + l.length := by
    intro l
    induction l with
    | nil => intro n; rfl
    | cons x l ih => intro n; rw [List.foldl_cons, ih, List.length_cons]; omega
  refine w0_for (γ := Nat) emb A (fun n _ => n + 1) hm h0 (fun pre x post μ e h => ?_) (fun μ h => hd μ (by rw [fl] at h; simpa using h))
  rw [fl] at h ⊢
  rw [Nat.zero_add] at h ⊢
  have hx : xs[pre.length]? = some x := by rw [e]; simp
  rw [List.length_append, List.length_singleton]
  exact hs pre.length x μ hx h
theorem w0_forW {γ δ : Type} {m : M (List D)} {g : D → MS → Option MS} {s : MT} (emb : δ → D) (A : γ → MS → Prop) (f : γ → δ → γ) (xs : List δ) (a : γ) (hm : Go (WM0 (m μ) fun ds μ1 => ds = xs.map emb ∧ A a μ1))
    (hs : ∀ (pre : List δ) (x : δ) (post : List δ) (μ : MS), xs = pre ++ x :: post → A (pre.foldl f a) μ → Go (WO0 (g (emb x) μ) fun μ2 => W0 (s μ2) (A (f (pre.foldl f a) x)) R N (A (f (pre.foldl f a) x))))
    (hd : ∀ μ, A (xs.foldl f a) μ → Go (N μ)) : W0 (sFor m g s μ) N R Bk Ct := by
  unfold Go at hm hs hd
  cases h : m μ with
  | none => rw [h] at hm; exact hm.elim
  | some p =>
    obtain ⟨ds, μ1⟩ := p
    rw [h] at hm
    obtain ⟨rfl, hA⟩ := hm
    refine w0_for emb A f h hA (fun pre x post μ e h => ?_) hd
    have q := hs pre x post μ e h
    rw [List.foldl_append, List.foldl_cons, List.foldl_nil]
    exact q
theorem w0_forN {δ : Type} {m : M (List D)} {g : D → MS → Option MS} {s : MT} (emb : δ → D) (A : Nat → MS → Prop) (xs : List δ) (hm : Go (WM0 (m μ) fun ds μ1 => ds = xs.map emb ∧ A 0 μ1))
    (hs : ∀ (i : Nat) (x : δ) (μ : MS), xs[i]? = some x → A i μ → Go (WO0 (g (emb x) μ) fun μ2 => W0 (s μ2) (A (i + 1)) R N (A (i + 1))))
    (hd : ∀ μ, A xs.length μ → Go (N μ)) : W0 (sFor m g s μ) N R Bk Ct := by
  unfold Go at hm hs hd
  cases h : m μ with
  | none => rw [h] at hm; exact hm.elim
  | some p =>
    obtain ⟨ds, μ1⟩ := p
    rw [h] at hm
    obtain ⟨rfl, hA⟩ := hm
    exact w0_forI emb A h hA hs hd
theorem w0_while {m : M Bool} {s : MT} (A : Nat → MS → Prop) {n : Nat} (hn : n < fuel) (h0 : A n μ)
    (hs : ∀ n μ, A n μ → Go (WM0 (m μ) fun b μ1 => if b = true then W0 (s μ1) (fun μ2 => ∃ k, k < n ∧ A k μ2) R N (fun μ2 => ∃ k, k < n ∧ A k μ2) else N μ1)) : W0 (sWhile m s μ) N R Bk Ct := by
  unfold Go at hs
  unfold sWhile
  have key : ∀ (fu : Nat) (n : Nat) (μ : MS), n < fu → A n μ → W0 (whileF m s fu μ) N R Bk Ct := by
    intro fu
    induction fu with
    | zero => intro n μ h _; omega
    | succ fu ih =>
      intro n μ hl h
      have q := hs n μ h
      unfold whileF
      cases hm : m μ with
      | none => rw [hm] at q; exact q.elim
      | some p =>
        obtain ⟨b, μ1⟩ := p
        rw [hm] at q
        cases b with
        | false => simpa using q
        | true =>
          simp only [WM0_some, if_true] at q
          simp only
          cases hb : s μ1 with
          | nx μ3 =>
            rw [hb] at q
            obtain ⟨k, hk, q⟩ := q
            exact ih k μ3 (by omega) q
          | ct μ3 =>
            rw [hb] at q
            obtain ⟨k, hk, q⟩ := q
            exact ih k μ3 (by omega) q
          | bk μ3 => rw [hb] at q; exact q
          | rt d dr => rw [hb] at q; exact q
          | bad => rw [hb] at q; exact q.elim
  exact key fuel n μ hn h0
end
/-! ### expressions -/
section
variable {P : D → MS → Prop} {μ : MS}
theorem wm0_c {d : D} : WM0 (mC d μ) P = P d μ := rfl
theorem wm0_oVal {m : M D} {Q : O → MS → Prop} : WM0 (oVal m μ) Q = WM0 (m μ) fun d μ' => Q (.v d) μ' := by
  unfold oVal
  rw [WM0_bind, WM0_WO]; rfl
theorem wm0_oName {i : Nat} {Q : O → MS → Prop} : WM0 (oName i μ) Q = WO0 (look (.s i) μ) fun _ => Q (.s i) μ := by
  unfold oName
  rw [WM0_bind]; rfl
theorem wm0_m2 {g : D → D → Option D} {ma mb : M O} : WM0 (m2 g ma mb μ) P = WM0 (ma μ) fun o1 μ1 => WM0 (mb μ1) fun o2 μ2 => WO0 (look o1 μ2) fun d => WO0 (look o2 μ2) fun e => WO0 (g d e) fun z => P z μ2 := by
  unfold m2
  simp only [WM0_WO, WO0_bind, WO0_some]
  repeat (refine WO0_ext fun _ => ?_; try simp only [WM0_WO, WO0_bind, WO0_some])
theorem wm0_m2F {g : D → D → Option (List D)} {ma mb : M O} {Q : List D → MS → Prop} : WM0 (m2F g ma mb μ) Q = WM0 (ma μ) fun o1 μ1 => WM0 (mb μ1) fun o2 μ2 => WO0 (look o1 μ2) fun d => WO0 (look o2 μ2) fun e => WO0 (g d e) fun z => Q z μ2 := by
  unfold m2F
  simp only [WM0_WO, WO0_bind, WO0_some]
  repeat (refine WO0_ext fun _ => ?_; try simp only [WM0_WO, WO0_bind, WO0_some])
theorem wm0_m1 {g : D → Option D} {ma : M O} : WM0 (m1 g ma μ) P = WM0 (ma μ) fun o1 μ1 => WO0 (look o1 μ1) fun d => WO0 (g d) fun z => P z μ1 := by
  unfold m1
  simp only [WM0_WO, WO0_bind, WO0_some]
  repeat (refine WO0_ext fun _ => ?_; try simp only [WM0_WO, WO0_bind, WO0_some])
theorem wm0_mB {m : M D} {Q : Bool → MS → Prop} : WM0 (mB m μ) Q = WM0 (m μ) fun d μ1 => match d with
    | .bool b => Q b μ1
    | _ => False := by
  unfold mB
  rw [WM0_bind, WM0_WO]
  cases m μ with
  | none => rfl
  | some p =>
    obtain ⟨d, μ1⟩ := p
    cases d <;> rfl
theorem wm0_chain {g g' : D → D → Option D} {ma mb mc : M O} : WM0 (mChain g g' ma mb mc μ) P = WM0 (ma μ) fun o1 μ1 => WM0 (mb μ1) fun o2 μ2 => WO0 (look o1 μ2) fun d => WO0 (look o2 μ2) fun e => WO0 (g d e) fun z => match z with
    | .bool true => WM0 (mc μ2) fun o3 μ3 => WO0 (look o2 μ3) fun e' => WO0 (look o3 μ3) fun f => WO0 (g' e' f) fun z' => P z' μ3
    | .bool false => P (.bool false) μ2
    | _ => False := by
  unfold mChain
  simp only [WM0_WO, WO0_bind]
  refine WO0_ext fun p => ?_; try simp only [WM0_WO, WO0_bind]
  refine WO0_ext fun q => ?_; try simp only [WM0_WO, WO0_bind]
  refine WO0_ext fun d => ?_; try simp only [WM0_WO, WO0_bind]
  refine WO0_ext fun e => ?_; try simp only [WM0_WO, WO0_bind]
  refine WO0_ext fun z => ?_; try simp only [WM0_WO, WO0_bind]
  cases z <;> try rfl
  rename_i b
  cases b
  · rfl
  · simp only [WM0_WO, WO0_bind, WO0_some]
    repeat (refine WO0_ext fun _ => ?_; try simp only [WM0_WO, WO0_bind, WO0_some])
theorem wm0_aNil {Q : List O → MS → Prop} : WM0 (aNil μ) Q = Q [] μ := rfl
theorem wm0_aCons {m : M O} {n : M (List O)} {Q : List O → MS → Prop} : WM0 (aCons m n μ) Q = WM0 (m μ) fun o μ1 => WM0 (n μ1) fun os μ2 => Q (o :: os) μ2 := by
  unfold aCons
  simp only [WM0_WO, WO0_bind, WO0_some]
  repeat (refine WO0_ext fun _ => ?_; try simp only [WM0_WO, WO0_bind, WO0_some])
theorem wm0_call {α : Type} {g : List D → Option α} {ma : M (List O)} {Q : α → MS → Prop} : WM0 (mCall g ma μ) Q = WM0 (ma μ) fun os μ1 => WO0 (looks os μ1) fun ds => WO0 (g ds) fun z => Q z μ1 := by
  unfold mCall
  simp only [WM0_WO, WO0_bind, WO0_some]
  repeat (refine WO0_ext fun _ => ?_; try simp only [WM0_WO, WO0_bind, WO0_some])
theorem wm0_callU {f : FM} {ma : M (List O)} : WM0 (mCallU f ma μ) P = WM0 (ma μ) fun os μ1 => WO0 (looks os μ1) fun ds => WO0 (f ds μ1.dr) fun z => P z.1 (if flat z.1 = true then { μ1 with dr := z.2 } else { frzA os μ1 with dr := z.2 }) := by
  unfold mCallU
  simp only [WM0_WO, WO0_bind, WO0_some]
  repeat (refine WO0_ext fun _ => ?_; try simp only [WM0_WO, WO0_bind, WO0_some])
theorem wm0_truth {ma : M O} {Q : Bool → MS → Prop} : WM0 (mTruth ma μ) Q = WM0 (ma μ) fun o μ1 => WO0 (look o μ1) fun d => WO0 (truth d) fun b => Q b μ1 := by
  unfold mTruth
  simp only [WM0_WO, WO0_bind, WO0_some]
  repeat (refine WO0_ext fun _ => ?_; try simp only [WM0_WO, WO0_bind, WO0_some])
theorem wm0_and {m n : M Bool} {Q : Bool → MS → Prop} : WM0 (bAnd m n μ) Q = WM0 (m μ) fun b μ1 => if b = true then WM0 (n μ1) Q else Q false μ1 := by
  unfold bAnd
  rw [WM0_bind, WM0_WO]
  refine WO0_ext fun p => ?_; try simp only [WM0_WO, WO0_bind]
  split <;> rfl
theorem wm0_or {m n : M Bool} {Q : Bool → MS → Prop} : WM0 (bOr m n μ) Q = WM0 (m μ) fun b μ1 => if b = true then Q true μ1 else WM0 (n μ1) Q := by
  unfold bOr
  rw [WM0_bind, WM0_WO]
  refine WO0_ext fun p => ?_; try simp only [WM0_WO, WO0_bind]
  split <;> rfl
theorem wm0_not {m : M Bool} {Q : Bool → MS → Prop} : WM0 (bNot m μ) Q = WM0 (m μ) fun b μ1 => Q (!b) μ1 := by
  unfold bNot
  simp only [WM0_WO, WO0_bind, WO0_some]
  repeat (refine WO0_ext fun _ => ?_; try simp only [WM0_WO, WO0_bind, WO0_some])
theorem wm0_ife {m : M Bool} {n k : M D} : WM0 (eIf m n k μ) P = WM0 (m μ) fun b μ1 => if b = true then WM0 (n μ1) P else WM0 (k μ1) P := by
  unfold eIf
  rw [WM0_bind, WM0_WO]
  refine WO0_ext fun p => ?_; try simp only [WM0_WO, WO0_bind]
  split <;> rfl
theorem wm0_eand {m n : M D} : WM0 (eAnd m n μ) P = WM0 (m μ) fun d μ1 => WO0 (truth d) fun b => if b = true then WM0 (n μ1) P else P d μ1 := by
  unfold eAnd
  simp only [WM0_WO, WO0_bind]
  refine WO0_ext fun p => ?_; try simp only [WM0_WO, WO0_bind]
  refine WO0_ext fun b => ?_; try simp only [WM0_WO, WO0_bind]
  split <;> rfl
theorem wm0_eor {m n : M D} : WM0 (eOr m n μ) P = WM0 (m μ) fun d μ1 => WO0 (truth d) fun b => if b = true then P d μ1 else WM0 (n μ1) P := by
  unfold eOr
  simp only [WM0_WO, WO0_bind]
  refine WO0_ext fun p => ?_; try simp only [WM0_WO, WO0_bind]
  refine WO0_ext fun b => ?_; try simp only [WM0_WO, WO0_bind]
  split <;> rfl
theorem wm0_enot {ma : M O} : WM0 (eNot ma μ) P = WM0 (ma μ) fun o μ1 => WO0 (look o μ1) fun d => WO0 (truth d) fun b => P (.bool (!b)) μ1 := by
  unfold eNot
  simp only [WM0_bind]
  rw [← wm0_truth (Q := fun b μ1 => P (.bool (!b)) μ1), WM0_WO]
  rfl
theorem wm0_tup {m : M (List D)} : WM0 (mTup m μ) P = WM0 (m μ) fun ds μ1 => if ds.length ≤ 16777216 then P (.tuple ds) μ1 else False := by
  unfold mTup
  rw [WM0_bind, WM0_WO]
  refine WO0_ext fun p => ?_; try simp only [WM0_WO, WO0_bind]
  split <;> rfl
theorem wm0_lst {m : M (List D)} {Q : List D → MS → Prop} : WM0 (mLst m μ) Q = WM0 (m μ) fun ds μ1 => if ds.length ≤ 16777216 then Q ds μ1 else False := by
  unfold mLst
  rw [WM0_bind, WM0_WO]
  refine WO0_ext fun p => ?_; try simp only [WM0_WO, WO0_bind]
  split <;> rfl
theorem wm0_ds_nil {Q : List D → MS → Prop} : WM0 (mDs [] μ) Q = Q [] μ := rfl
theorem wm0_ds_cons {m : M D} {ms : List (M D)} {Q : List D → MS → Prop} : WM0 (mDs (m :: ms) μ) Q = WM0 (m μ) fun d μ1 => WM0 (mDs ms μ1) fun ds μ2 => Q (d :: ds) μ2 := by
  conv => lhs; unfold mDs
  simp only [WM0_WO, WO0_bind, WO0_some]
  repeat (refine WO0_ext fun _ => ?_; try simp only [WM0_WO, WO0_bind, WO0_some])
theorem wm0_new {m : M (List D)} : WM0 (eNew m μ) P = WM0 (m μ) fun ds μ1 => P (.list ds) μ1 := by
  unfold eNew
  simp only [WM0_WO, WO0_bind, WO0_some]
  repeat (refine WO0_ext fun _ => ?_; try simp only [WM0_WO, WO0_bind, WO0_some])
theorem wm0_seq {m : M D} {Q : List D → MS → Prop} : WM0 (mSeq m μ) Q = WM0 (m μ) fun d μ1 => WO0 (items d) fun ds => Q ds μ1 := by
  unfold mSeq
  simp only [WM0_WO, WO0_bind, WO0_some]
  repeat (refine WO0_ext fun _ => ?_; try simp only [WM0_WO, WO0_bind, WO0_some])
theorem wm0_xNil {Q : List Sv → MS → Prop} : WM0 (xNil μ) Q = Q [] μ := rfl
theorem wm0_xVal {m : M D} {n : M (List Sv)} {Q : List Sv → MS → Prop} : WM0 (xVal m n μ) Q = WM0 (m μ) fun d μ1 => WM0 (n μ1) fun ss μ2 => Q (.val d :: ss) μ2 := by
  unfold xVal
  simp only [WM0_WO, WO0_bind, WO0_some]
  repeat (refine WO0_ext fun _ => ?_; try simp only [WM0_WO, WO0_bind, WO0_some])
theorem wm0_xNew {m : M (List D)} {n : M (List Sv)} {Q : List Sv → MS → Prop} : WM0 (xNew m n μ) Q = WM0 (m μ) fun d μ1 => WM0 (n μ1) fun ss μ2 => Q (.own d :: ss) μ2 := by
  unfold xNew
  simp only [WM0_WO, WO0_bind, WO0_some]
  repeat (refine WO0_ext fun _ => ?_; try simp only [WM0_WO, WO0_bind, WO0_some])
theorem wm0_pNone {Q : Option Int → MS → Prop} : WM0 (pNone μ) Q = Q none μ := rfl
theorem wm0_pSome {m : M D} {Q : Option Int → MS → Prop} : WM0 (pSome m μ) Q = WM0 (m μ) fun d μ1 => match d with
    | .int i => Q (some i) μ1
    | _ => False := by
  unfold pSome
  rw [WM0_bind, WM0_WO]
  refine WO0_ext fun p => ?_; try simp only [WM0_WO, WO0_bind]
  obtain ⟨d, μ1⟩ := p
  cases d <;> rfl
theorem wm0_sl {α : Type} {g : D → Option Int → Option Int → Option α} {ma : M O} {ml mh : M (Option Int)} {Q : α → MS → Prop} : WM0 (mSl g ma ml mh μ) Q = WM0 (ma μ) fun o μ1 => WM0 (ml μ1) fun l μ2 => WM0 (mh μ2) fun h μ3 => WO0 (look o μ3) fun d => WO0 (g d l h) fun z => Q z μ3 := by
  unfold mSl
  simp only [WM0_WO, WO0_bind, WO0_some]
  repeat (refine WO0_ext fun _ => ?_; try simp only [WM0_WO, WO0_bind, WO0_some])
theorem wm0_app {i : Nat} {m : M D} : WM0 (mApp i m μ) P = WO0 (owned μ i) fun _ => WM0 (m μ) fun d μ1 => WO0 (owned μ1 i) fun ds => if ds.length < 16777216 then P .none (setS μ1 i (.own (ds ++ [d]))) else False := by
  unfold mApp
  simp only [WM0_WO, WO0_bind]
  refine WO0_ext fun _ => ?_; try simp only [WM0_WO, WO0_bind]
  refine WO0_ext fun p => ?_; try simp only [WM0_WO, WO0_bind]
  refine WO0_ext fun ds => ?_; try simp only [WM0_WO, WO0_bind]
  split <;> rfl
theorem wm0_ext {i : Nat} {m : M O} : WM0 (mExt i m μ) P = WO0 (owned μ i) fun _ => WM0 (m μ) fun o μ1 => WO0 (owned μ1 i) fun ds => WO0 (look o μ1) fun e => match e with
    | .list es => if ds.length + es.length ≤ 16777216 then P .none (setS μ1 i (.own (ds ++ es))) else False
    | _ => False := by
  unfold mExt
  simp only [WM0_WO, WO0_bind]
  refine WO0_ext fun _ => ?_; try simp only [WM0_WO, WO0_bind]
  refine WO0_ext fun p => ?_; try simp only [WM0_WO, WO0_bind]
  refine WO0_ext fun ds => ?_; try simp only [WM0_WO, WO0_bind]
  refine WO0_ext fun e => ?_; try simp only [WM0_WO, WO0_bind]
  cases e <;> try rfl
  simp only
  split <;> rfl
theorem wm0_pop {i : Nat} : WM0 (mPop i μ) P = WO0 (owned μ i) fun ds => WO0 (ds[ds.length - 1]?) fun d => P d (setS μ i (.own ds.dropLast)) := by
  unfold mPop
  simp only [WM0_WO, WO0_bind, WO0_some]
  repeat (refine WO0_ext fun _ => ?_; try simp only [WM0_WO, WO0_bind, WO0_some])
theorem wm0_popAt {i : Nat} {m : M D} : WM0 (mPopAt i m μ) P = WO0 (owned μ i) fun _ => WM0 (m μ) fun k μ1 => WO0 (owned μ1 i) fun ds => match k with
    | .int j => if -(2 ^ 63) ≤ j ∧ j < 2 ^ 63 then WO0 (seqIndex? j ds.length) fun k => WO0 (ds[k]?) fun d => P d (setS μ1 i (.own (ds.eraseIdx k))) else False
    | _ => False := by
  unfold mPopAt
  simp only [WM0_WO, WO0_bind]
  refine WO0_ext fun _ => ?_; try simp only [WM0_WO, WO0_bind]
  refine WO0_ext fun p => ?_; try simp only [WM0_WO, WO0_bind]
  refine WO0_ext fun ds => ?_; try simp only [WM0_WO, WO0_bind]
  obtain ⟨k, μ1⟩ := p
  cases k <;> try rfl
  simp only
  split
  · simp only [WM0_WO, WO0_bind, WO0_some]
    repeat (refine WO0_ext fun _ => ?_; try simp only [WM0_WO, WO0_bind, WO0_some])
  · rfl
/-- the data in a slot -/
def slDt : Sl → Option D
  | .val d => some d
  | .ow o => some o.dat
  | .un => none
@[simp] theorem dat_l {ds : List D} : (Ob.l ds).dat = .list ds := rfl
@[simp] theorem dat_d {tk : Bool} {ks : List (D × D)} : (Ob.d tk ks).dat = .dict ((.bool tk, .none) :: ks) := rfl
@[simp] theorem slDt_ow {o : Ob} : slDt (.ow o) = some o.dat := rfl
@[simp] theorem slDt_val {d : D} : slDt (.val d) = some d := rfl
@[simp] theorem slDt_own {ds : List D} : slDt (.own ds) = some (.list ds) := rfl
@[simp] theorem slDt_un : slDt .un = none := rfl
theorem set_get {α : Type} {l : List α} {i : Nat} {a : α} (h : l[i]? = some a) : l.set i a = l := by
  apply List.ext_getElem?
  intro j
  by_cases hj : i = j
  · subst hj
    rw [List.getElem?_set_self (List.getElem?_eq_some_iff.mp h).1, h]
  · rw [List.getElem?_set_ne hj]
theorem wm0_var {i : Nat} : WM0 (mVar i μ) P = WO0 ((μ.sl[i]?).bind slDt) fun d => P d (setS μ i (.val d)) := by
  obtain ⟨l, dr⟩ := μ
  unfold mVar frz oName look
  cases h : l[i]? with
  | none => simp [h]
  | some s =>
    cases s with
    | un => simp [h]
    | val d => simp [h, setS, set_get h]
    | ow ds => simp [h]
@[simp] theorem look_v {d : D} : look (.v d) μ = some d := rfl
@[simp] theorem look_s {i : Nat} : look (.s i) μ = (μ.sl[i]?).bind slDt := by
  unfold look
  cases h : μ.sl[i]? with
  | none => simp [h]
  | some s => cases s <;> simp [h]
@[simp] theorem looks_nil : looks [] μ = some [] := rfl
@[simp] theorem looks_cons {o : O} {os : List O} : looks (o :: os) μ = (look o μ).bind fun d => (looks os μ).bind fun ds => some (d :: ds) := rfl
@[simp] theorem owned_mk {l : List Sl} {dr : Dr} {i : Nat} : owned ⟨l, dr⟩ i = match l[i]? with
    | some (.ow (.l ds)) => some ds
    | _ => none := rfl
@[simp] theorem valAt_mk {l : List Sl} {dr : Dr} {i : Nat} : valAt ⟨l, dr⟩ i = match l[i]? with
    | some (.val ds) => some ds
    | _ => none := rfl
@[simp] theorem setS_mk {l : List Sl} {dr : Dr} {i : Nat} {s : Sl} : setS ⟨l, dr⟩ i s = ⟨l.set i s, dr⟩ := rfl
@[simp] theorem gN_ev {i : Nat} {d : D} : gN i d μ = some (setS μ i (.val d)) := rfl
@[simp] theorem gsNil_ev : gsNil [] μ = some μ := rfl
@[simp] theorem gsCons_ev {m : D → MS → Option MS} {n : List D → MS → Option MS} {d : D} {ds : List D} : gsCons m n (d :: ds) μ = (m d μ).bind fun μ' => n ds μ' := rfl
@[simp] theorem gT_ev {n : Nat} {m : List D → MS → Option MS} {ds : List D} : gT n m (.tuple ds) μ = if ds.length = n then m ds μ else none := rfl
@[simp] theorem putA_nil : putA [] [] μ = some μ := rfl
@[simp] theorem putA_cons {i : Nat} {is : List Nat} {s : Sv} {ss : List Sv} : putA (i :: is) (s :: ss) μ = putA is ss (setS μ i s.sl) := rfl
@[simp] theorem sv_val {d : D} : (Sv.val d).sl = .val d := rfl
@[simp] theorem sv_own {d : List D} : (Sv.own d).sl = .own d := rfl
@[simp] theorem frzA_nil : frzA [] μ = μ := rfl
@[simp] theorem frzA_v {d : D} {os : List O} : frzA (.v d :: os) μ = frzA os μ := rfl
@[simp] theorem frzA_s {i : Nat} {os : List O} : frzA (.s i :: os) μ = frzA os (match μ.sl[i]? with
    | some (.ow o) => setS μ i (.val o.dat)
    | _ => μ) := rfl
@[simp] theorem flat_int {i : Int} : flat (.int i) = true := rfl
@[simp] theorem flat_bool {i : Bool} : flat (.bool i) = true := rfl
@[simp] theorem flat_str {i : Str} : flat (.str i) = true := rfl
@[simp] theorem flat_none : flat .none = true := rfl
@[simp] theorem flat_tuple {ds : List D} : flat (.tuple ds) = false := rfl
@[simp] theorem flat_list {ds : List D} : flat (.list ds) = false := rfl
end
/-! ### comprehensions -/
/-- over a source, every element told by the item alone -/
theorem mLc_map {δ : Type} {mi : M (List D)} {i : Nat} {m : M D} {μ : MS} {l : List Sl} {dr : Dr} (emb : δ → D) (f : δ → D) {xs : List δ} (hm : mi μ = some (xs.map emb, ⟨l, dr⟩)) (hl : xs.length ≤ 16777216) (hi : ∀ ds, l[i]? ≠ some (.ow ds))
    (he : ∀ x ∈ xs, m ⟨l.set i (.val (emb x)), dr⟩ = some (f x, ⟨l.set i (.val (emb x)), dr⟩)) : mLc mi (gN i) tYesM m [i] μ = some (xs.map f, ⟨l, dr⟩) := by
  unfold mLc
  rw [hm]
  have key : ∀ (ys : List δ) (acc : List D), (∀ x ∈ ys, x ∈ xs) → acc.length + ys.length ≤ xs.length → loopC (gN i) tYesM m [i] (ys.map emb) acc ⟨l.set i .un, dr⟩ = some (acc ++ ys.map f, ⟨l.set i .un, dr⟩) := by
    intro ys
    induction ys with
    | nil => intro acc _ _; simp [loopC]
    | cons y ys ih =>
      intro acc hs hln
      rw [List.length_cons] at hln
      have hy := he y (hs y List.mem_cons_self)
      simp only [List.map_cons, loopC, gN_ev, setS_mk, Option.bind_some, tYesM, if_true, List.set_set, hy]
      rw [if_pos (by show acc.length < 16777216; omega)]
      have e1 : wipeS ⟨l.set i (.val (emb y)), dr⟩ [i] = ⟨l.set i .un, dr⟩ := by simp [wipeS]
      rw [e1, ih _ (fun x hx => hs x (List.mem_cons_of_mem _ hx)) (by rw [List.length_append, List.length_singleton]; omega)]
      simp
  have e1 : wipeS ⟨l, dr⟩ [i] = ⟨l.set i .un, dr⟩ := by simp [wipeS]
  simp only [Option.bind_some, e1]
  rw [key xs [] (fun _ h => h) (by simp)]
  simp only [Option.bind_some, List.nil_append]
  have e2 : restS ⟨l, dr⟩ [i] ⟨l.set i .un, dr⟩ = ⟨l, dr⟩ := by
    unfold restS
    split
    · rename_i d hd
      simp only [restS, setS_mk, List.set_set]
      have hd' : l[i]? = some (.val d) := hd
      congr 1
      apply List.ext_getElem?
      intro j
      by_cases hj : i = j
      · subst hj
        have hl : i < l.length := (List.getElem?_eq_some_iff.mp hd').1
        rw [List.getElem?_set_self hl, hd']
      · rw [List.getElem?_set_ne hj]
    · rename_i hd
      simp only [restS]
      congr 1
      apply List.ext_getElem?
      intro j
      by_cases hj : i = j
      · subst hj
        by_cases hl : i < l.length
        · rw [List.getElem?_set_self hl]
          cases q : l[i]? with
          | none => rw [List.getElem?_eq_none_iff] at q; omega
          | some s =>
            cases s with
            | un => rfl
            | val d => exact absurd q (hd d)
            | ow ds => exact absurd q (hi ds)
        · rw [List.getElem?_eq_none (by simpa using hl), List.getElem?_eq_none (by simpa using hl)]
      · rw [List.getElem?_set_ne hj]
  rw [e2]
/-! ### defs -/
/-- a def's mirror, by what is wanted of its body -/
theorem fnM_eq0 {n : Nat} {b : MT} {ds : List D} {dr : Dr} {d : D} {dr' : Dr} (h : Go (W0 (b ⟨ds.map Sl.val ++ List.replicate (n - ds.length) Sl.un, dr⟩) (fun μ => d = .none ∧ μ.dr = dr') (fun e er => e = d ∧ er = dr') (fun _ => False) (fun _ => False))) : fnM n b ds dr = some (d, dr') := by
  unfold Go at h
  unfold fnM
  cases hb : b ⟨ds.map Sl.val ++ List.replicate (n - ds.length) Sl.un, dr⟩ with
  | nx μ => rw [hb] at h; obtain ⟨h1, h2⟩ := h; simp [h1, h2]
  | rt e er => rw [hb] at h; obtain ⟨h1, h2⟩ := h; simp [h1, h2]
  | bk μ => rw [hb] at h; exact h.elim
  | ct μ => rw [hb] at h; exact h.elim
  | bad => rw [hb] at h; exact h.elim
theorem fnM_wo0 {n : Nat} {b : MT} {ds : List D} {dr : Dr} {Q : D × Dr → Prop} (h : Go (W0 (b ⟨ds.map Sl.val ++ List.replicate (n - ds.length) Sl.un, dr⟩) (fun μ => Q (.none, μ.dr)) (fun e er => Q (e, er)) (fun _ => False) (fun _ => False))) : WO0 (fnM n b ds dr) Q := by
  unfold Go at h
  unfold fnM
  cases hb : b ⟨ds.map Sl.val ++ List.replicate (n - ds.length) Sl.un, dr⟩ with
  | nx μ => rw [hb] at h; exact h
  | rt e er => rw [hb] at h; exact h
  | bk μ => rw [hb] at h; exact h.elim
  | ct μ => rw [hb] at h; exact h.elim
  | bad => rw [hb] at h; exact h.elim
/-- a draw is told by its bounds -/
theorem draw_wo0 {m : Int} {dr : Dr} {Q : D × Dr → Prop} (h0 : 0 < m) (h1 : m < 2 ^ 8000) (h : ∀ r dr', 0 ≤ r → r < m → Go (Q (.int r, dr'))) : WO0 (drawF [.dict [], .int m] dr) Q := by
  unfold drawF
  have hl : m.natAbs.log2 < 9000 := by
    have : m.natAbs < 2 ^ 8000 := by omega
    have h2 := PySem.Flt.log2_lt_of (by decide : 0 < 8000) this
    omega
  simp only [if_pos (show 0 < m ∧ m.natAbs.log2 < 9000 from ⟨h0, hl⟩), WO0_some]
  unfold drawM
  split
  · exact h _ _ (Int.emod_nonneg _ (by omega)) (Int.emod_lt_of_pos _ h0)
  · exact h _ _ (Int.emod_nonneg _ (by omega)) (Int.emod_lt_of_pos _ h0)
/-! ### sizes -/
theorem bits_of {i : Int} {n : Nat} (h : i.natAbs < 2 ^ n) : Builtin.Int.intBits i ≤ n := PyProof.Rows.intBits_le h
theorem mulD_of {a b : Int} (m n : Nat) (ha : a.natAbs < 2 ^ m) (hb : b.natAbs < 2 ^ n) (h : m + n ≤ 134217728) : mulD (.int a) (.int b) = some (.int (a * b)) := by
  unfold mulD
  have h1 := bits_of ha
  have h2 := bits_of hb
  simp only
  rw [if_pos (by omega)]
theorem fdivD_of {a b : Int} (h0 : 0 < b) (h : b.natAbs < 2 ^ 8000) : fdivD (.int a) (.int b) = some (.int (a / b)) := by
  unfold fdivD
  have h2 := PySem.Flt.log2_lt_of (by decide : 0 < 8000) h
  simp only
  rw [if_pos ⟨h0, by omega⟩]
theorem modD_of {a b : Int} (h0 : 0 < b) : modD (.int a) (.int b) = some (.int (a % b)) := by
  unfold modD
  simp only
  rw [if_pos h0]
@[simp] theorem addD_int {a b : Int} : addD (.int a) (.int b) = some (.int (a + b)) := rfl
@[simp] theorem subD_int {a b : Int} : subD (.int a) (.int b) = some (.int (a - b)) := rfl
@[simp] theorem addI_int {a b : Int} : addI (.int a) (.int b) = some (.int (a + b)) := rfl
@[simp] theorem negD_int {a : Int} : negD (.int a) = some (.int (-a)) := rfl
@[simp] theorem lenD_list {ds : List D} : lenD [.list ds] = some (.int ds.length) := rfl
@[simp] theorem lenD_tuple {ds : List D} : lenD [.tuple ds] = some (.int ds.length) := rfl
@[simp] theorem listF_list {ds : List D} : listF [.list ds] = some ds := rfl
@[simp] theorem listF_tuple {ds : List D} : listF [.tuple ds] = some ds := rfl
@[simp] theorem tupD_list {ds : List D} : tupD [.list ds] = some (.tuple ds) := rfl
@[simp] theorem tupD_tuple {ds : List D} : tupD [.tuple ds] = some (.tuple ds) := rfl
@[simp] theorem intD_int {i : Int} : intD [.int i] = some (.int i) := rfl
@[simp] theorem intD_bool {k : Bool} : intD [.bool k] = some (.int (if k then 1 else 0)) := rfl
@[simp] theorem ltD_int {a b : Int} : ltD (.int a) (.int b) = some (.bool (decide (a < b))) := rfl
@[simp] theorem leD_int {a b : Int} : leD (.int a) (.int b) = some (.bool (decide (a ≤ b))) := rfl
@[simp] theorem gtD_int {a b : Int} : gtD (.int a) (.int b) = some (.bool (decide (b < a))) := rfl
@[simp] theorem geD_int {a b : Int} : geD (.int a) (.int b) = some (.bool (decide (b ≤ a))) := rfl
@[simp] theorem eqD_int {a b : Int} : eqD (.int a) (.int b) = some (.bool (a == b)) := by simp [eqD, SeqAt.shaped, PyData.canLay0, PyData.depth, PyData.eqv]
@[simp] theorem neD_int {a b : Int} : neD (.int a) (.int b) = some (.bool (!(a == b))) := by simp [neD, SeqAt.shaped, PyData.canLay0, PyData.depth, PyData.eqv]
@[simp] theorem isD_none {d : D} : isD d .none = some (.bool (isNone d)) := by cases d <;> rfl
@[simp] theorem isNotD_none {d : D} : isNotD d .none = some (.bool (!isNone d)) := by cases d <;> rfl
@[simp] theorem isNone_none : isNone .none = true := rfl
@[simp] theorem isNone_int {i : Int} : isNone (.int i) = false := rfl
@[simp] theorem isNone_tuple {ds : List D} : isNone (.tuple ds) = false := rfl
@[simp] theorem isNone_list {ds : List D} : isNone (.list ds) = false := rfl
@[simp] theorem isNone_str {x : Str} : isNone (.str x) = false := rfl
@[simp] theorem isNone_bool {x : Bool} : isNone (.bool x) = false := rfl
@[simp] theorem truth_bool {b : Bool} : truth (.bool b) = some b := rfl
@[simp] theorem truth_int {i : Int} : truth (.int i) = some (i != 0) := rfl
@[simp] theorem truth_list {ds : List D} : truth (.list ds) = some (!ds.isEmpty) := rfl
@[simp] theorem truth_tuple {ds : List D} : truth (.tuple ds) = some (!ds.isEmpty) := rfl
@[simp] theorem truth_none : truth .none = some false := rfl
@[simp] theorem items_list {ds : List D} : items (.list ds) = some ds := rfl
@[simp] theorem items_tuple {ds : List D} : items (.tuple ds) = some ds := rfl
/-! ### items by place -/
theorem atI_get {α : Type} {xs : List α} {i : Nat} {x : α} (h : xs[i]? = some x) : atI xs (i : Int) = some x := L2.atI_nat h
theorem atI_int {α : Type} {xs : List α} {i : Int} {x : α} (h0 : 0 ≤ i) (h : xs[i.toNat]? = some x) : atI xs i = some x := by
  have e : i = (i.toNat : Int) := by omega
  rw [e]
  exact L2.atI_nat h
/-- a comprehension whose elements are told in order; the state may move -/
theorem wm0_lc_forN {δ : Type} {mi : M (List D)} {g : D → MS → Option MS} {m : M D} {vs : List Nat} {μ : MS} {Q : List D → MS → Prop} (emb : δ → D) (A : Nat → List D → MS → Prop) (xs : List δ) (hl : xs.length ≤ 16777216)
    (hm : Go (WM0 (mi μ) fun ds μ1 => ds = xs.map emb ∧ A 0 [] (wipeS μ1 vs) ∧ ∀ acc μ2, A xs.length acc μ2 → Go (Q acc (restS μ1 vs μ2))))
    (hs : ∀ (i : Nat) (x : δ) (acc : List D) (μ : MS), xs[i]? = some x → acc.length = i → A i acc μ → Go (WO0 (g (emb x) μ) fun μ2 => WM0 (m μ2) fun d μ3 => A (i + 1) (acc ++ [d]) (wipeS μ3 vs))) : WM0 (mLc mi g tYesM m vs μ) Q := by
  unfold Go at hm hs
  unfold mLc
  cases h : mi μ with
  | none => rw [h] at hm; exact hm.elim
  | some p =>
    obtain ⟨ds, μ1⟩ := p
    rw [h] at hm
    obtain ⟨rfl, hA, hQ⟩ := hm
    simp only [Option.bind_some]
    have key : ∀ (ys : List δ) (i : Nat) (acc : List D) (μ : MS), ys = xs.drop i → i + ys.length = xs.length → acc.length = i → A i acc μ → ∃ acc' μ', loopC g tYesM m vs (ys.map emb) acc μ = some (acc', μ') ∧ A xs.length acc' μ' := by
      intro ys
      induction ys with
      | nil =>
        intro i acc μ e hi ha hA
        simp only [List.length_nil, Nat.add_zero] at hi
        exact ⟨acc, μ, rfl, hi ▸ hA⟩
      | cons y ys ih =>
        intro i acc μ e hi ha hA
        simp only [List.length_cons] at hi
        have hy : xs[i]? = some y := by
          have := List.getElem?_drop (xs := xs) (i := i) (j := 0)
          rw [← e] at this
          simpa using this.symm
        have q := hs i y acc μ hy ha hA
        simp only [List.map_cons, loopC]
        cases hg : g (emb y) μ with
        | none => rw [hg] at q; exact q.elim
        | some μ2 =>
          rw [hg] at q
          simp only [WO0_some] at q
          simp only [Option.bind_some, tYesM, if_true]
          cases hb : m μ2 with
          | none => rw [hb] at q; exact q.elim
          | some r =>
            obtain ⟨d, μ3⟩ := r
            rw [hb] at q
            simp only [Option.bind_some]
            rw [if_pos (show acc.length < lineN by show acc.length < 16777216; omega)]
            refine ih (i + 1) _ _ ?_ (by omega) (by rw [List.length_append, List.length_singleton]; omega) q
            have := congrArg List.tail e
            simpa [List.tail_drop] using this
    obtain ⟨acc', μ', e, hA'⟩ := key xs 0 [] _ rfl (by simp) rfl hA
    rw [e]
    exact hQ _ _ hA'
/-- the mirror of range -/
theorem rng1_nat {n : Nat} (h : n < 2 ^ 62) : rng1 [.int (n : Int)] = some ((List.range n).map fun (i : Nat) => .int (i : Int)) := by
  unfold rng1 intsR
  simp only
  rw [if_pos (by constructor <;> omega)]
  simp
theorem rng1_int {j : Int} (h0 : 0 ≤ j) (h : j < 2 ^ 62) : rng1 [.int j] = some ((List.range j.toNat).map fun (i : Nat) => .int (i : Int)) := by
  have e : j = (j.toNat : Int) := by omega
  rw [e]
  exact rng1_nat (by omega)
theorem rng2_int {i j : Int} (h0 : 0 ≤ i) (hi : i < 2 ^ 62) (h1 : 0 ≤ j) (h : j < 2 ^ 62) : rng2 [.int i, .int j] = some ((List.range (j - i).toNat).map fun (k : Nat) => .int (i + (k : Int))) := by
  unfold rng2 intsR
  simp only
  rw [if_pos (by omega)]
theorem bools_map {α : Type} (p : α → Bool) : ∀ xs : List α, bools? (xs.map fun x => .bool (p x)) = some (xs.map p)
  | [] => rfl
  | x :: xs => by simp [bools?, bools_map p xs]
theorem allD_map {α : Type} {p : α → Bool} {xs : List α} : allD [.list (xs.map fun x => .bool (p x))] = some (.bool (xs.all p)) := by
  simp [allD, bools_map, List.all_map]
theorem anyD_map {α : Type} {p : α → Bool} {xs : List α} : anyD [.list (xs.map fun x => .bool (p x))] = some (.bool (xs.any p)) := by
  simp [anyD, bools_map, List.any_map]
theorem powD_of {a b : Int} (h0 : 0 ≤ b) (h1 : b ≤ 1000000) (h2 : a.natAbs < 2 ^ 64) : powD (.int a) (.int b) = some (.int (a ^ b.toNat)) := by
  unfold powD
  simp only
  rw [if_pos ⟨h0, h1, h2⟩]
theorem shlD_of {a b : Int} (n : Nat) (h0 : 0 ≤ b) (h1 : a.natAbs < 2 ^ n) (h2 : n + b ≤ 134217728) : shlD (.int a) (.int b) = some (.int (a * 2 ^ b.toNat)) := by
  unfold shlD
  have := bits_of h1
  simp only
  rw [if_pos ⟨h0, by omega⟩]
theorem mulB {a b : Int} (m n : Nat) (ha : a.natAbs < 2 ^ m) (hb : b.natAbs < 2 ^ n) : (a * b).natAbs < 2 ^ (m + n) := by
  rw [Int.natAbs_mul, Nat.pow_add]
  exact Nat.mul_lt_mul_of_lt_of_lt ha hb
theorem ixD_list {ds : List D} {i : Nat} {d : D} (h : ds[i]? = some d) : ixD (.list ds) (.int (i : Int)) = some d := atI_get h
theorem ixD_tuple {ds : List D} {i : Nat} {d : D} (h : ds[i]? = some d) : ixD (.tuple ds) (.int (i : Int)) = some d := atI_get h
theorem ixD_listI {ds : List D} {i : Int} {d : D} (h0 : 0 ≤ i) (h : ds[i.toNat]? = some d) : ixD (.list ds) (.int i) = some d := atI_int h0 h
theorem ixD_tupleI {ds : List D} {i : Int} {d : D} (h0 : 0 ≤ i) (h : ds[i.toNat]? = some d) : ixD (.tuple ds) (.int i) = some d := atI_int h0 h
theorem ixD_last {ds : List D} {d : D} : ixD (.list (ds ++ [d])) (.int (-1)) = some d := by
  show atI _ _ = _
  unfold atI ixN
  rw [if_neg (by decide), if_pos (by simp; omega), List.length_append, List.length_singleton, show ((-1 : Int) + ((ds.length + 1 : Nat) : Int)).toNat = ds.length by omega]
  simp
theorem of_W00 {r : SR} (h : W0 r (fun _ => False) (fun d _ => d = .bool true) (fun _ => False) (fun _ => False)) : ∃ dr, r = .rt (.bool true) dr := by
  cases r with
  | rt d dr => exact ⟨dr, by rw [show d = .bool true from h]⟩
  | nx μ => exact h.elim
  | bk μ => exact h.elim
  | ct μ => exact h.elim
  | bad => exact h.elim
/-! ### the shape of data -/
theorem shaped_of {d : D} (h1 : d.canLay0 = true) (h2 : d.depth ≤ 64) : SeqAt.shaped d = true := by
  unfold SeqAt.shaped
  rw [h1, decide_eq_true h2]
  rfl
theorem lay_ints : ∀ ns : List Int, PyData.canLayAll0 (ns.map PyData.int) = true ∧ PyData.depthAll (ns.map PyData.int) = 0
  | [] => ⟨rfl, rfl⟩
  | n :: ns => by
    obtain ⟨h1, h2⟩ := lay_ints ns
    simp only [List.map_cons, PyData.canLayAll0, PyData.depthAll, PyData.canLay0, PyData.depth, h1, h2]
    exact ⟨rfl, rfl⟩
theorem eqv_ints : ∀ ns ms : List Int, PyData.eqvAll (ns.map PyData.int) (ms.map PyData.int) = decide (ns = ms)
  | [], [] => rfl
  | [], _ :: _ => rfl
  | _ :: _, [] => rfl
  | n :: ns, m :: ms => by
    simp only [List.map_cons, PyData.eqvAll, PyData.eqv, eqv_ints ns ms, List.cons.injEq, Bool.decide_and, Bool.beq_eq_decide_eq]
theorem shaped_ints {ns : List Int} : SeqAt.shaped (.tuple (ns.map PyData.int)) = true ∧ SeqAt.shaped (.list (ns.map PyData.int)) = true := by
  obtain ⟨h1, h2⟩ := lay_ints ns
  constructor
  · exact shaped_of (by rw [PyData.canLay0]; exact h1) (by rw [PyData.depth, h2]; decide)
  · exact shaped_of (by rw [PyData.canLay0]; exact h1) (by rw [PyData.depth, h2]; decide)
theorem eqD_list_ints {ns ms : List Int} : eqD (.list (ns.map PyData.int)) (.list (ms.map PyData.int)) = some (.bool (decide (ns = ms))) := by
  unfold eqD
  rw [(shaped_ints (ns := ns)).2, (shaped_ints (ns := ms)).2]
  simp [PyData.eqv, eqv_ints]
theorem eqD_tuple_ints {ns ms : List Int} : eqD (.tuple (ns.map PyData.int)) (.tuple (ms.map PyData.int)) = some (.bool (decide (ns = ms))) := by
  unfold eqD
  rw [(shaped_ints (ns := ns)).1, (shaped_ints (ns := ms)).1]
  simp [PyData.eqv, eqv_ints]
theorem neD_of_eqD {d e : D} {b : Bool} (h : eqD d e = some (.bool b)) : neD d e = some (.bool (!b)) := by
  unfold eqD at h
  unfold neD
  split at h
  · rename_i hs
    cases h
    rw [if_pos hs]
  · cases h
/-! ### equal data -/
mutual
theorem eqv_rfl : ∀ d : D, d.canLay0 = true → PyData.eqv d d = true
  | .none, _ => rfl
  | .bool b, _ => by simp [PyData.eqv]
  | .int i, _ => by simp [PyData.eqv]
  | .str s, _ => by simp [PyData.eqv]
  | .list xs, h => by
    rw [PyData.canLay0] at h
    rw [PyData.eqv]
    exact eqvAll_rfl xs h
  | .tuple xs, h => by
    rw [PyData.canLay0] at h
    rw [PyData.eqv]
    exact eqvAll_rfl xs h
  | .dict _, h => by simp [PyData.canLay0] at h
theorem eqvAll_rfl : ∀ ds : List D, PyData.canLayAll0 ds = true → PyData.eqvAll ds ds = true
  | [], _ => rfl
  | d :: ds, h => by
    rw [PyData.canLayAll0, Bool.and_eq_true] at h
    rw [PyData.eqvAll, eqv_rfl d h.1, eqvAll_rfl ds h.2]
    rfl
end
theorem eqD_self {d : D} (h : SeqAt.shaped d = true) : eqD d d = some (.bool true) := by
  unfold eqD
  rw [h, eqv_rfl d (SeqAt.canLay_of_shaped h)]
  rfl
theorem neD_self {d : D} (h : SeqAt.shaped d = true) : neD d d = some (.bool false) := neD_of_eqD (eqD_self h)
/-! ### made of parts -/
theorem lay_all (n : Nat) : ∀ ds : List D, (∀ d ∈ ds, d.canLay0 = true ∧ d.depth ≤ n) → PyData.canLayAll0 ds = true ∧ PyData.depthAll ds ≤ n
  | [], _ => ⟨rfl, by simp [PyData.depthAll]⟩
  | d :: ds, h => by
    obtain ⟨h1, h2⟩ := lay_all n ds fun e he => h e (List.mem_cons_of_mem _ he)
    obtain ⟨h3, h4⟩ := h d List.mem_cons_self
    simp only [PyData.canLayAll0, PyData.depthAll, h1, h3]
    exact ⟨rfl, by omega⟩
theorem lay_tuple {n : Nat} {ds : List D} (h : ∀ d ∈ ds, d.canLay0 = true ∧ d.depth ≤ n) : (PyData.tuple ds).canLay0 = true ∧ (PyData.tuple ds).depth ≤ n + 1 := by
  obtain ⟨h1, h2⟩ := lay_all n ds h
  rw [PyData.canLay0, PyData.depth]
  exact ⟨h1, by omega⟩
theorem lay_list {n : Nat} {ds : List D} (h : ∀ d ∈ ds, d.canLay0 = true ∧ d.depth ≤ n) : (PyData.list ds).canLay0 = true ∧ (PyData.list ds).depth ≤ n + 1 := by
  obtain ⟨h1, h2⟩ := lay_all n ds h
  rw [PyData.canLay0, PyData.depth]
  exact ⟨h1, by omega⟩
theorem lay_int {i : Int} : (PyData.int i).canLay0 = true ∧ (PyData.int i).depth ≤ 0 := ⟨rfl, by simp [PyData.depth]⟩
theorem lay_str {i : Str} (h : (PyData.str i).canLay0 = true) : (PyData.str i).canLay0 = true ∧ (PyData.str i).depth ≤ 0 := ⟨h, by simp [PyData.depth]⟩
theorem lay_none : (PyData.none).canLay0 = true ∧ (PyData.none).depth ≤ 0 := ⟨rfl, by simp [PyData.depth]⟩
theorem shaped_lay {n : Nat} {d : D} (h : d.canLay0 = true ∧ d.depth ≤ n) (hn : n ≤ 64) : SeqAt.shaped d = true := shaped_of h.1 (by omega)
/-- a draw, the bound as a plain number -/
theorem draw_w0 {m : Int} {dr : Dr} {Q : D × Dr → Prop} (h0 : 0 < m) (h1 : m < 1180591620717411303424) (h : ∀ r dr', 0 ≤ r → r < m → Go (Q (.int r, dr'))) : WO0 (drawF [.dict [], .int m] dr) Q := draw_wo0 h0 (by omega) h
end Mi
/-! Mi, eleventh part: the same, in a form in which simp leaves alone what comes behind until its turn. -/
namespace Mi
open PySem PySem.Spec PyProof.Rows L2
/-- a Prop whose type names its parts, so that simp does not go into them -/
abbrev P1.{u} {α : Sort u} (_ : α) : Type := Prop
abbrev P2.{u, v} {α : Sort u} {β : Sort v} (_ : α) (_ : β) : Type := Prop
abbrev P5 (_ : SR) (_ : MS → Prop) (_ : D → Dr → Prop) (_ _ : MS → Prop) : Type := Prop
@[irreducible] def W (r : SR) (N : MS → Prop) (R : D → Dr → Prop) (Bk Ct : MS → Prop) : P5 r N R Bk Ct := W0 r N R Bk Ct
@[irreducible] def WM {α : Type} (o : Option (α × MS)) (P : α → MS → Prop) : P2 o P := WM0 o P
@[irreducible] def WO {α : Type} (o : Option α) (P : α → Prop) : P1 P := WO0 o P
def WS (μ : MS) (N : MS → Prop) : P1 N := N μ
@[simp] theorem WS_mk {l : List Sl} {dr : Dr} {N : MS → Prop} : @Eq Prop (WS ⟨l, dr⟩ N) (N ⟨l, dr⟩) := propext Iff.rfl
/-- a goal as a plain Prop -/
theorem un_go {p : Prop} (h : Go p) : p := h
section
variable {α β : Type} {N : MS → Prop} {R : D → Dr → Prop} {Bk Ct : MS → Prop} {μ : MS} {P : D → MS → Prop}
@[simp ↓] theorem W_nx : @Eq Prop (W (.nx μ) N R Bk Ct) (N μ) := by with_unfolding_all exact W0_nx
@[simp ↓] theorem W_rt {d : D} {dr : Dr} : @Eq Prop (W (.rt d dr) N R Bk Ct) (R d dr) := by with_unfolding_all exact W0_rt
@[simp ↓] theorem W_bk : @Eq Prop (W (.bk μ) N R Bk Ct) (Bk μ) := by with_unfolding_all exact W0_bk
@[simp ↓] theorem W_ct : @Eq Prop (W (.ct μ) N R Bk Ct) (Ct μ) := by with_unfolding_all exact W0_ct
@[simp ↓] theorem W_bad : @Eq Prop (W .bad N R Bk Ct) (False) := by with_unfolding_all exact W0_bad
@[simp ↓] theorem WM_some {a : α} {Q : α → MS → Prop} : @Eq Prop (WM (some (a, μ)) Q) (Q a μ) := by with_unfolding_all exact WM0_some
@[simp ↓] theorem WM_none {Q : α → MS → Prop} : @Eq Prop (WM none Q) (False) := by with_unfolding_all exact WM0_none
@[simp] theorem WO_some {a : α} {Q : α → Prop} : @Eq Prop (WO (some a) Q) (Q a) := by with_unfolding_all exact WO0_some
@[simp] theorem WO_none {Q : α → Prop} : @Eq Prop (WO none Q) (False) := by with_unfolding_all exact WO0_none
@[simp ↓] theorem WM_bind {γ : Type} {o : Option γ} {f : γ → Option (α × MS)} {Q : α → MS → Prop} : @Eq Prop (WM (o.bind f) Q) (WO o fun x => WM (f x) Q) := by with_unfolding_all exact WM0_bind
@[simp] theorem WO_bind {γ : Type} {o : Option γ} {f : γ → Option α} {Q : α → Prop} : @Eq Prop (WO (o.bind f) Q) (WO o fun x => WO (f x) Q) := by with_unfolding_all exact WO0_bind
theorem WM_WO {o : Option (α × MS)} {Q : α → MS → Prop} : WM o Q = WO o fun p => Q p.1 p.2 := by with_unfolding_all exact WM0_WO
theorem WO_ext {o : Option α} {Q Q' : α → Prop} (h : ∀ a, Q a = Q' a) : WO o Q = WO o Q' := by with_unfolding_all exact WO0_ext h
@[simp] theorem WO_ite {c : Prop} [Decidable c] {o p : Option α} {Q : α → Prop} : @Eq Prop (WO (if c then o else p) Q) (if c then WO o Q else WO p Q) := by with_unfolding_all exact WO0_ite
@[simp ↓] theorem WM_ite {c : Prop} [Decidable c] {o p : Option (α × MS)} {Q : α → MS → Prop} : @Eq Prop (WM (if c then o else p) Q) (if c then WM o Q else WM p Q) := by with_unfolding_all exact WM0_ite
@[simp ↓] theorem W_ite {c : Prop} [Decidable c] {o p : SR} : @Eq Prop (W (if c then o else p) N R Bk Ct) (if c then W o N R Bk Ct else W p N R Bk Ct) := by with_unfolding_all exact W0_ite
theorem W_mono {r : SR} {N' : MS → Prop} {R' : D → Dr → Prop} {Bk' Ct' : MS → Prop} (h : W r N R Bk Ct) (h1 : ∀ μ, N μ → N' μ) (h2 : ∀ d dr, R d dr → R' d dr) (h3 : ∀ μ, Bk μ → Bk' μ) (h4 : ∀ μ, Ct μ → Ct' μ) : W r N' R' Bk' Ct' := by with_unfolding_all exact W0_mono h h1 h2 h3 h4
theorem WM_mono {o : Option (α × MS)} {Q Q' : α → MS → Prop} (h : WM o Q) (h1 : ∀ a μ, Q a μ → Q' a μ) : WM o Q' := by with_unfolding_all exact WM0_mono h h1
theorem WO_mono {o : Option α} {Q Q' : α → Prop} (h : WO o Q) (h1 : ∀ a, Q a → Q' a) : WO o Q' := by with_unfolding_all exact WO0_mono h h1
theorem WO_eq {o : Option α} {a : α} {Q : α → Prop} (h : o = some a) (q : Q a) : WO o Q := by with_unfolding_all exact WO0_eq h q
@[simp ↓] theorem w_seq {s t : MT} : @Eq Prop (W (sSeq s t μ) N R Bk Ct) (W (s μ) (fun μ' => W (t μ') N R Bk Ct) R Bk Ct) := by with_unfolding_all exact w0_seq
@[simp ↓] theorem w_nil : @Eq Prop (W (sNil μ) N R Bk Ct) (N μ) := by with_unfolding_all exact w0_nil
@[simp ↓] theorem w_if {m : M Bool} {s t : MT} : @Eq Prop (W (sIf m s t μ) N R Bk Ct) (WM (m μ) fun b μ' => if b = true then W (s μ') N R Bk Ct else W (t μ') N R Bk Ct) := by with_unfolding_all exact w0_if
@[simp ↓] theorem w_ret {m : M D} : @Eq Prop (W (sRet m μ) N R Bk Ct) (WM (m μ) fun d μ' => R d μ'.dr) := by with_unfolding_all exact w0_ret
@[simp ↓] theorem w_retN : @Eq Prop (W (sRetN μ) N R Bk Ct) (R .none μ.dr) := by with_unfolding_all exact w0_retN
@[simp ↓] theorem w_drop {m : M D} : @Eq Prop (W (sDrop m μ) N R Bk Ct) (WM (m μ) fun _ μ' => N μ') := by with_unfolding_all exact w0_drop
@[simp ↓] theorem w_set {i : Nat} {m : M D} : @Eq Prop (W (sSet i m μ) N R Bk Ct) (WM (m μ) fun d μ' => WS (setS μ' i (.val d)) N) := by with_unfolding_all exact w0_set
@[simp ↓] theorem w_new {i : Nat} {m : M (List D)} : @Eq Prop (W (sNew i m μ) N R Bk Ct) (WM (m μ) fun d μ' => WS (setS μ' i (.own d)) N) := by with_unfolding_all exact w0_new
@[simp ↓] theorem w_break : @Eq Prop (W (sBreak μ) N R Bk Ct) (Bk μ) := by with_unfolding_all exact w0_break
@[simp ↓] theorem w_cont : @Eq Prop (W (sCont μ) N R Bk Ct) (Ct μ) := by with_unfolding_all exact w0_cont
@[simp ↓] theorem w_aug {g : D → D → Option D} {i : Nat} {m : M D} : @Eq Prop (W (sAug g i m μ) N R Bk Ct) (WO (valAt μ i) fun x => WM (m μ) fun y μ' => WO (g x y) fun z => WS (setS μ' i (.val z)) N) := by with_unfolding_all exact w0_aug
@[simp ↓] theorem w_unp {g : D → MS → Option MS} {m : M D} : @Eq Prop (W (sUnp g m μ) N R Bk Ct) (WM (m μ) fun d μ' => WO (g d μ') N) := by with_unfolding_all exact w0_unp
@[simp ↓] theorem w_par {is : List Nat} {m : M (List Sv)} : @Eq Prop (W (sPar is m μ) N R Bk Ct) (WM (m μ) fun ss μ' => WO (putA is ss μ') N) := by with_unfolding_all exact w0_par
@[simp ↓] theorem w_ix {i : Nat} {mi me : M D} : @Eq Prop (W (sIx i mi me μ) N R Bk Ct) (WM (me μ) fun d μ1 => WO (owned μ1 i) fun _ => WM (mi μ1) fun k μ2 => match k with
    | .int k => WO (owned μ2 i) fun ds => WO (ixN ds.length k) fun j => WS (setS μ2 i (.own (ds.set j d))) N
    | _ => False) := by with_unfolding_all exact w0_ix
theorem w_for {γ δ : Type} {m : M (List D)} {g : D → MS → Option MS} {s : MT} (emb : δ → D) (A : γ → MS → Prop) (f : γ → δ → γ) {xs : List δ} {μ1 : MS} (hm : m μ = some (xs.map emb, μ1)) {a : γ} (h0 : A a μ1)
    (hs : ∀ (pre : List δ) (x : δ) (post : List δ) (μ : MS), xs = pre ++ x :: post → A (pre.foldl f a) μ → WO (g (emb x) μ) fun μ2 => W (s μ2) (A ((pre ++ [x]).foldl f a)) R N (A ((pre ++ [x]).foldl f a)))
    (hd : ∀ μ, A (xs.foldl f a) μ → N μ) : W (sFor m g s μ) N R Bk Ct := by with_unfolding_all exact w0_for emb A f hm h0 hs hd
theorem w_forI {δ : Type} {m : M (List D)} {g : D → MS → Option MS} {s : MT} (emb : δ → D) (A : Nat → MS → Prop) {xs : List δ} {μ1 : MS} (hm : m μ = some (xs.map emb, μ1)) (h0 : A 0 μ1)
    (hs : ∀ (i : Nat) (x : δ) (μ : MS), xs[i]? = some x → A i μ → WO (g (emb x) μ) fun μ2 => W (s μ2) (A (i + 1)) R N (A (i + 1)))
    (hd : ∀ μ, A xs.length μ → N μ) : W (sFor m g s μ) N R Bk Ct := by with_unfolding_all exact w0_forI emb A hm h0 hs hd
theorem w_forW {γ δ : Type} {m : M (List D)} {g : D → MS → Option MS} {s : MT} (emb : δ → D) (A : γ → MS → Prop) (f : γ → δ → γ) (xs : List δ) (a : γ) (hm : Go (WM (m μ) fun ds μ1 => ds = xs.map emb ∧ A a μ1))
    (hs : ∀ (pre : List δ) (x : δ) (post : List δ) (μ : MS), xs = pre ++ x :: post → A (pre.foldl f a) μ → Go (WO (g (emb x) μ) fun μ2 => W (s μ2) (A (f (pre.foldl f a) x)) R N (A (f (pre.foldl f a) x))))
    (hd : ∀ μ, A (xs.foldl f a) μ → Go (N μ)) : W (sFor m g s μ) N R Bk Ct := by with_unfolding_all exact w0_forW emb A f xs a hm hs hd
theorem w_forN {δ : Type} {m : M (List D)} {g : D → MS → Option MS} {s : MT} (emb : δ → D) (A : Nat → MS → Prop) (xs : List δ) (hm : Go (WM (m μ) fun ds μ1 => ds = xs.map emb ∧ A 0 μ1))
    (hs : ∀ (i : Nat) (x : δ) (μ : MS), xs[i]? = some x → A i μ → Go (WO (g (emb x) μ) fun μ2 => W (s μ2) (A (i + 1)) R N (A (i + 1))))
    (hd : ∀ μ, A xs.length μ → Go (N μ)) : W (sFor m g s μ) N R Bk Ct := by with_unfolding_all exact w0_forN emb A xs hm hs hd
theorem w_while {m : M Bool} {s : MT} (A : Nat → MS → Prop) {n : Nat} (hn : n < fuel) (h0 : A n μ)
    (hs : ∀ n μ, A n μ → Go (WM (m μ) fun b μ1 => if b = true then W (s μ1) (fun μ2 => ∃ k, k < n ∧ A k μ2) R N (fun μ2 => ∃ k, k < n ∧ A k μ2) else N μ1)) : W (sWhile m s μ) N R Bk Ct := by with_unfolding_all exact w0_while A hn h0 hs
@[simp ↓] theorem wm_c {d : D} : @Eq Prop (WM (mC d μ) P) (P d μ) := by with_unfolding_all exact wm0_c
@[simp ↓] theorem wm_oVal {m : M D} {Q : O → MS → Prop} : @Eq Prop (WM (oVal m μ) Q) (WM (m μ) fun d μ' => Q (.v d) μ') := by with_unfolding_all exact wm0_oVal
@[simp ↓] theorem wm_oName {i : Nat} {Q : O → MS → Prop} : @Eq Prop (WM (oName i μ) Q) (WO (look (.s i) μ) fun _ => Q (.s i) μ) := by with_unfolding_all exact wm0_oName
@[simp ↓] theorem wm_m2 {g : D → D → Option D} {ma mb : M O} : @Eq Prop (WM (m2 g ma mb μ) P) (WM (ma μ) fun o1 μ1 => WM (mb μ1) fun o2 μ2 => WO (look o1 μ2) fun d => WO (look o2 μ2) fun e => WO (g d e) fun z => P z μ2) := by with_unfolding_all exact wm0_m2
@[simp ↓] theorem wm_m2F {g : D → D → Option (List D)} {ma mb : M O} {Q : List D → MS → Prop} : @Eq Prop (WM (m2F g ma mb μ) Q) (WM (ma μ) fun o1 μ1 => WM (mb μ1) fun o2 μ2 => WO (look o1 μ2) fun d => WO (look o2 μ2) fun e => WO (g d e) fun z => Q z μ2) := by with_unfolding_all exact wm0_m2F
@[simp ↓] theorem wm_m1 {g : D → Option D} {ma : M O} : @Eq Prop (WM (m1 g ma μ) P) (WM (ma μ) fun o1 μ1 => WO (look o1 μ1) fun d => WO (g d) fun z => P z μ1) := by with_unfolding_all exact wm0_m1
@[simp ↓] theorem wm_mB {m : M D} {Q : Bool → MS → Prop} : @Eq Prop (WM (mB m μ) Q) (WM (m μ) fun d μ1 => match d with
    | .bool b => Q b μ1
    | _ => False) := by with_unfolding_all exact wm0_mB
@[simp ↓] theorem wm_chain {g g' : D → D → Option D} {ma mb mc : M O} : @Eq Prop (WM (mChain g g' ma mb mc μ) P) (WM (ma μ) fun o1 μ1 => WM (mb μ1) fun o2 μ2 => WO (look o1 μ2) fun d => WO (look o2 μ2) fun e => WO (g d e) fun z => match z with
    | .bool true => WM (mc μ2) fun o3 μ3 => WO (look o2 μ3) fun e' => WO (look o3 μ3) fun f => WO (g' e' f) fun z' => P z' μ3
    | .bool false => P (.bool false) μ2
    | _ => False) := by with_unfolding_all exact wm0_chain
@[simp ↓] theorem wm_aNil {Q : List O → MS → Prop} : @Eq Prop (WM (aNil μ) Q) (Q [] μ) := by with_unfolding_all exact wm0_aNil
@[simp ↓] theorem wm_aCons {m : M O} {n : M (List O)} {Q : List O → MS → Prop} : @Eq Prop (WM (aCons m n μ) Q) (WM (m μ) fun o μ1 => WM (n μ1) fun os μ2 => Q (o :: os) μ2) := by with_unfolding_all exact wm0_aCons
@[simp ↓] theorem wm_call {α : Type} {g : List D → Option α} {ma : M (List O)} {Q : α → MS → Prop} : @Eq Prop (WM (mCall g ma μ) Q) (WM (ma μ) fun os μ1 => WO (looks os μ1) fun ds => WO (g ds) fun z => Q z μ1) := by with_unfolding_all exact wm0_call
@[simp ↓] theorem wm_callU {f : FM} {ma : M (List O)} : @Eq Prop (WM (mCallU f ma μ) P) (WM (ma μ) fun os μ1 => WO (looks os μ1) fun ds => WO (f ds μ1.dr) fun z => WS (if flat z.1 = true then { μ1 with dr := z.2 } else { frzA os μ1 with dr := z.2 }) (P z.1)) := by with_unfolding_all exact wm0_callU
@[simp ↓] theorem wm_truth {ma : M O} {Q : Bool → MS → Prop} : @Eq Prop (WM (mTruth ma μ) Q) (WM (ma μ) fun o μ1 => WO (look o μ1) fun d => WO (truth d) fun b => Q b μ1) := by with_unfolding_all exact wm0_truth
@[simp ↓] theorem wm_and {m n : M Bool} {Q : Bool → MS → Prop} : @Eq Prop (WM (bAnd m n μ) Q) (WM (m μ) fun b μ1 => if b = true then WM (n μ1) Q else Q false μ1) := by with_unfolding_all exact wm0_and
@[simp ↓] theorem wm_or {m n : M Bool} {Q : Bool → MS → Prop} : @Eq Prop (WM (bOr m n μ) Q) (WM (m μ) fun b μ1 => if b = true then Q true μ1 else WM (n μ1) Q) := by with_unfolding_all exact wm0_or
@[simp ↓] theorem wm_not {m : M Bool} {Q : Bool → MS → Prop} : @Eq Prop (WM (bNot m μ) Q) (WM (m μ) fun b μ1 => Q (!b) μ1) := by with_unfolding_all exact wm0_not
@[simp ↓] theorem wm_ife {m : M Bool} {n k : M D} : @Eq Prop (WM (eIf m n k μ) P) (WM (m μ) fun b μ1 => if b = true then WM (n μ1) P else WM (k μ1) P) := by with_unfolding_all exact wm0_ife
@[simp ↓] theorem wm_eand {m n : M D} : @Eq Prop (WM (eAnd m n μ) P) (WM (m μ) fun d μ1 => WO (truth d) fun b => if b = true then WM (n μ1) P else P d μ1) := by with_unfolding_all exact wm0_eand
@[simp ↓] theorem wm_eor {m n : M D} : @Eq Prop (WM (eOr m n μ) P) (WM (m μ) fun d μ1 => WO (truth d) fun b => if b = true then P d μ1 else WM (n μ1) P) := by with_unfolding_all exact wm0_eor
@[simp ↓] theorem wm_enot {ma : M O} : @Eq Prop (WM (eNot ma μ) P) (WM (ma μ) fun o μ1 => WO (look o μ1) fun d => WO (truth d) fun b => P (.bool (!b)) μ1) := by with_unfolding_all exact wm0_enot
@[simp ↓] theorem wm_tup {m : M (List D)} : @Eq Prop (WM (mTup m μ) P) (WM (m μ) fun ds μ1 => if ds.length ≤ 16777216 then P (.tuple ds) μ1 else False) := by with_unfolding_all exact wm0_tup
@[simp ↓] theorem wm_lst {m : M (List D)} {Q : List D → MS → Prop} : @Eq Prop (WM (mLst m μ) Q) (WM (m μ) fun ds μ1 => if ds.length ≤ 16777216 then Q ds μ1 else False) := by with_unfolding_all exact wm0_lst
@[simp ↓] theorem wm_ds_nil {Q : List D → MS → Prop} : @Eq Prop (WM (mDs [] μ) Q) (Q [] μ) := by with_unfolding_all exact wm0_ds_nil
@[simp ↓] theorem wm_ds_cons {m : M D} {ms : List (M D)} {Q : List D → MS → Prop} : @Eq Prop (WM (mDs (m :: ms) μ) Q) (WM (m μ) fun d μ1 => WM (mDs ms μ1) fun ds μ2 => Q (d :: ds) μ2) := by with_unfolding_all exact wm0_ds_cons
@[simp ↓] theorem wm_new {m : M (List D)} : @Eq Prop (WM (eNew m μ) P) (WM (m μ) fun ds μ1 => P (.list ds) μ1) := by with_unfolding_all exact wm0_new
@[simp ↓] theorem wm_seq {m : M D} {Q : List D → MS → Prop} : @Eq Prop (WM (mSeq m μ) Q) (WM (m μ) fun d μ1 => WO (items d) fun ds => Q ds μ1) := by with_unfolding_all exact wm0_seq
@[simp ↓] theorem wm_xNil {Q : List Sv → MS → Prop} : @Eq Prop (WM (xNil μ) Q) (Q [] μ) := by with_unfolding_all exact wm0_xNil
@[simp ↓] theorem wm_xVal {m : M D} {n : M (List Sv)} {Q : List Sv → MS → Prop} : @Eq Prop (WM (xVal m n μ) Q) (WM (m μ) fun d μ1 => WM (n μ1) fun ss μ2 => Q (.val d :: ss) μ2) := by with_unfolding_all exact wm0_xVal
@[simp ↓] theorem wm_xNew {m : M (List D)} {n : M (List Sv)} {Q : List Sv → MS → Prop} : @Eq Prop (WM (xNew m n μ) Q) (WM (m μ) fun d μ1 => WM (n μ1) fun ss μ2 => Q (.own d :: ss) μ2) := by with_unfolding_all exact wm0_xNew
@[simp ↓] theorem wm_pNone {Q : Option Int → MS → Prop} : @Eq Prop (WM (pNone μ) Q) (Q none μ) := by with_unfolding_all exact wm0_pNone
@[simp ↓] theorem wm_pSome {m : M D} {Q : Option Int → MS → Prop} : @Eq Prop (WM (pSome m μ) Q) (WM (m μ) fun d μ1 => match d with
    | .int i => Q (some i) μ1
    | _ => False) := by with_unfolding_all exact wm0_pSome
@[simp ↓] theorem wm_sl {α : Type} {g : D → Option Int → Option Int → Option α} {ma : M O} {ml mh : M (Option Int)} {Q : α → MS → Prop} : @Eq Prop (WM (mSl g ma ml mh μ) Q) (WM (ma μ) fun o μ1 => WM (ml μ1) fun l μ2 => WM (mh μ2) fun h μ3 => WO (look o μ3) fun d => WO (g d l h) fun z => Q z μ3) := by with_unfolding_all exact wm0_sl
@[simp ↓] theorem wm_app {i : Nat} {m : M D} : @Eq Prop (WM (mApp i m μ) P) (WO (owned μ i) fun _ => WM (m μ) fun d μ1 => WO (owned μ1 i) fun ds => if ds.length < 16777216 then WS (setS μ1 i (.own (ds ++ [d]))) (P .none) else False) := by with_unfolding_all exact wm0_app
@[simp ↓] theorem wm_ext {i : Nat} {m : M O} : @Eq Prop (WM (mExt i m μ) P) (WO (owned μ i) fun _ => WM (m μ) fun o μ1 => WO (owned μ1 i) fun ds => WO (look o μ1) fun e => match e with
    | .list es => if ds.length + es.length ≤ 16777216 then WS (setS μ1 i (.own (ds ++ es))) (P .none) else False
    | _ => False) := by with_unfolding_all exact wm0_ext
@[simp ↓] theorem wm_pop {i : Nat} : @Eq Prop (WM (mPop i μ) P) (WO (owned μ i) fun ds => WO (ds[ds.length - 1]?) fun d => WS (setS μ i (.own ds.dropLast)) (P d)) := by with_unfolding_all exact wm0_pop
@[simp ↓] theorem wm_popAt {i : Nat} {m : M D} : @Eq Prop (WM (mPopAt i m μ) P) (WO (owned μ i) fun _ => WM (m μ) fun k μ1 => WO (owned μ1 i) fun ds => match k with
    | .int j => if -(2 ^ 63) ≤ j ∧ j < 2 ^ 63 then WO (seqIndex? j ds.length) fun k => WO (ds[k]?) fun d => WS (setS μ1 i (.own (ds.eraseIdx k))) (P d) else False
    | _ => False) := by with_unfolding_all exact wm0_popAt
@[simp ↓] theorem wm_var {i : Nat} : @Eq Prop (WM (mVar i μ) P) (WO ((μ.sl[i]?).bind slDt) fun d => WS (setS μ i (.val d)) (P d)) := by with_unfolding_all exact wm0_var
theorem fnM_eq {n : Nat} {b : MT} {ds : List D} {dr : Dr} {d : D} {dr' : Dr} (h : Go (W (b ⟨ds.map Sl.val ++ List.replicate (n - ds.length) Sl.un, dr⟩) (fun μ => d = .none ∧ μ.dr = dr') (fun e er => e = d ∧ er = dr') (fun _ => False) (fun _ => False))) : fnM n b ds dr = some (d, dr') := by with_unfolding_all exact fnM_eq0 h
theorem fnM_wo {n : Nat} {b : MT} {ds : List D} {dr : Dr} {Q : D × Dr → Prop} (h : Go (W (b ⟨ds.map Sl.val ++ List.replicate (n - ds.length) Sl.un, dr⟩) (fun μ => Q (.none, μ.dr)) (fun e er => Q (e, er)) (fun _ => False) (fun _ => False))) : WO (fnM n b ds dr) Q := by with_unfolding_all exact fnM_wo0 h
theorem draw_wo {m : Int} {dr : Dr} {Q : D × Dr → Prop} (h0 : 0 < m) (h1 : m < 2 ^ 8000) (h : ∀ r dr', 0 ≤ r → r < m → Go (Q (.int r, dr'))) : WO (drawF [.dict [], .int m] dr) Q := by with_unfolding_all exact draw_wo0 h0 h1 h
theorem wm_lc_forN {δ : Type} {mi : M (List D)} {g : D → MS → Option MS} {m : M D} {vs : List Nat} {μ : MS} {Q : List D → MS → Prop} (emb : δ → D) (A : Nat → List D → MS → Prop) (xs : List δ) (hl : xs.length ≤ 16777216)
    (hm : Go (WM (mi μ) fun ds μ1 => ds = xs.map emb ∧ A 0 [] (wipeS μ1 vs) ∧ ∀ acc μ2, A xs.length acc μ2 → Go (Q acc (restS μ1 vs μ2))))
    (hs : ∀ (i : Nat) (x : δ) (acc : List D) (μ : MS), xs[i]? = some x → acc.length = i → A i acc μ → Go (WO (g (emb x) μ) fun μ2 => WM (m μ2) fun d μ3 => A (i + 1) (acc ++ [d]) (wipeS μ3 vs))) : WM (mLc mi g tYesM m vs μ) Q := by with_unfolding_all exact wm0_lc_forN emb A xs hl hm hs
theorem of_W {r : SR} (h : W r (fun _ => False) (fun d _ => d = .bool true) (fun _ => False) (fun _ => False)) : ∃ dr, r = .rt (.bool true) dr := by with_unfolding_all exact of_W00 h
theorem draw_w {m : Int} {dr : Dr} {Q : D × Dr → Prop} (h0 : 0 < m) (h1 : m < 1180591620717411303424) (h : ∀ r dr', 0 ≤ r → r < m → Go (Q (.int r, dr'))) : WO (drawF [.dict [], .int m] dr) Q := by with_unfolding_all exact draw_w0 h0 h1 h
end
end Mi
/-! Mi, twelfth part: comprehensions and calls in the sealed form. -/
namespace Mi
open PySem PySem.Spec PyProof.Rows L2
@[simp] theorem restS_nil {μ0 μ : MS} : restS μ0 [] μ = μ := rfl
def keepS (s t : Sl) : Sl := match s with
  | .val d => .val d
  | _ => t
@[simp] theorem keepS_val {d : D} {t : Sl} : keepS (.val d) t = .val d := rfl
@[simp] theorem keepS_un {t : Sl} : keepS .un t = t := rfl
@[simp] theorem keepS_own {ds : List D} {t : Sl} : keepS (.own ds) t = t := rfl
@[simp] theorem keepS_keepS {s t : Sl} : keepS (keepS s t) t = keepS s t := by cases s <;> cases t <;> rfl
@[simp] theorem restS_cons {l l' : List Sl} {dr dr' : Dr} {v : Nat} {vs : List Nat} : restS ⟨l, dr⟩ (v :: vs) ⟨l', dr'⟩ = match l[v]?, l'[v]? with
    | some s, some t => restS ⟨l, dr⟩ vs ⟨l'.set v (keepS s t), dr'⟩
    | _, _ => restS ⟨l, dr⟩ vs ⟨l', dr'⟩ := by
  conv => lhs; unfold restS
  cases h : l[v]? with
  | none => simp [h]
  | some s =>
    cases h2 : l'[v]? with
    | none =>
      have : l'.length ≤ v := List.getElem?_eq_none_iff.mp h2
      cases s <;> simp [h, List.set_eq_of_length_le this]
    | some t =>
      have e : l'.set v t = l' := by
        apply List.ext_getElem?
        intro j
        by_cases hj : v = j
        · subst hj
          rw [List.getElem?_set_self (List.getElem?_eq_some_iff.mp h2).1, h2]
        · rw [List.getElem?_set_ne hj]
      cases s <;> simp [h, keepS, e]
@[simp] theorem wipeS_nil {μ : MS} : wipeS μ [] = μ := rfl
@[simp] theorem wipeS_cns {μ : MS} {v : Nat} {vs : List Nat} : wipeS μ (v :: vs) = setS (wipeS μ vs) v .un := rfl
theorem wm_lc3 {δ : Type} {mi : M (List D)} {g : D → MS → Option MS} {m : M D} {vs : List Nat} {μ : MS} {Q : List D → MS → Prop} (emb : δ → D) (μ1 : MS) (A : Nat → List D → MS → Prop) (xs : List δ) (hl : xs.length ≤ 16777216)
    (hm : Go (WM (mi μ) fun ds μ' => ds = xs.map emb ∧ μ' = μ1)) (h0 : Go (WS (wipeS μ1 vs) fun μ2 => A 0 [] μ2))
    (hs : ∀ (i : Nat) (x : δ) (acc : List D) (μ : MS), xs[i]? = some x → acc.length = i → A i acc μ → Go (WO (g (emb x) μ) fun μ2 => WM (m μ2) fun d μ3 => WS (wipeS μ3 vs) fun μ4 => A (i + 1) (acc ++ [d]) μ4))
    (hd : ∀ acc μ2, A xs.length acc μ2 → Go (WS (restS μ1 vs μ2) fun μ3 => Q acc μ3)) : WM (mLc mi g tYesM m vs μ) Q := by
  refine wm_lc_forN emb A xs hl (WM_mono hm fun ds μ' h => ?_) hs
  obtain ⟨rfl, rfl⟩ := h
  exact ⟨rfl, h0, hd⟩
/-- the whole comprehension told at once: every element by its item, the state as it was -/
theorem wm_lcmap {δ : Type} {mi : M (List D)} {g : D → MS → Option MS} {m : M D} {vs : List Nat} {μ : MS} {Q : List D → MS → Prop} (emb : δ → D) (f : δ → D) (μ1 : MS) (xs : List δ) (hl : xs.length ≤ 16777216)
    (hm : Go (WM (mi μ) fun ds μ' => ds = xs.map emb ∧ μ' = μ1))
    (hs : ∀ x ∈ xs, Go (WS (wipeS μ1 vs) fun μ2 => WO (g (emb x) μ2) fun μ2 => WM (m μ2) fun d μ3 => d = f x ∧ wipeS μ3 vs = wipeS μ1 vs))
    (hd : Go (WS (restS μ1 vs (wipeS μ1 vs)) fun μ3 => Q (xs.map f) μ3)) : WM (mLc mi g tYesM m vs μ) Q := by
  refine wm_lc3 emb μ1 (fun i acc μ2 => acc = (xs.take i).map f ∧ μ2 = wipeS μ1 vs) xs hl hm ⟨rfl, rfl⟩ ?_ ?_
  · rintro i x acc μ hx ha ⟨rfl, rfl⟩
    have hx' : x ∈ xs := List.mem_of_getElem? hx
    refine WO_mono (hs x hx') fun μ2 h => ?_
    refine WM_mono h fun d μ3 h => ?_
    refine ⟨?_, h.2⟩
    rw [List.take_add_one, hx, List.map_append, h.1]
    rfl
  · rintro acc μ2 ⟨rfl, rfl⟩
    rw [List.take_length]
    exact hd
theorem range_get {n i j : Nat} (h : (List.range n)[i]? = some j) : i = j ∧ i < n := by
  rw [List.getElem?_eq_some_iff] at h
  obtain ⟨h1, h2⟩ := h
  rw [List.getElem_range] at h2
  rw [List.length_range] at h1
  exact ⟨h2, h1⟩
theorem ix2_0 {a b : D} : ixD (.tuple [a, b]) (.int 0) = some a := rfl
theorem ix2_1 {a b : D} : ixD (.tuple [a, b]) (.int 1) = some b := rfl
/-- a comprehension over a drawn number of turns -/
theorem wm_lcD {mi : M (List D)} {m : M D} {v : Nat} {μ : MS} {Q : List D → MS → Prop} (B : Nat) (hB : B ≤ 1000000) (l l' : List Sl) (f : Int → Prop)
    (hm : Go (WM (mi μ) fun ds μ' => ∃ n : Nat, n ≤ B ∧ ds = (List.range n).map (fun i : Nat => .int i) ∧ μ'.sl = l))
    (hw : ∀ dr, wipeS ⟨l, dr⟩ [v] = ⟨l', dr⟩)
    (hs : ∀ (i : Nat) dr, i < B → Go (WO (gN v (.int (i : Int)) ⟨l', dr⟩) fun μ2 => WM (m μ2) fun d μ3 => ∃ k, d = .int k ∧ f k ∧ (wipeS μ3 [v]).sl = l'))
    (hd : ∀ row : List Int, row.length ≤ B → (∀ k ∈ row, f k) → ∀ dr dr', Go (WS (restS ⟨l, dr⟩ [v] ⟨l', dr'⟩) fun μ3 => Q (row.map .int) μ3)) : WM (mLc mi (gN v) tYesM m [v] μ) Q := by
  cases h : mi μ with
  | none => rw [h] at hm; simp at hm
  | some p =>
    obtain ⟨ds, μ1⟩ := p
    rw [h] at hm
    simp only [go_eq, WM_some] at hm
    obtain ⟨n, hn, rfl, rfl⟩ := hm
    obtain ⟨l, dr⟩ := μ1
    refine wm_lc3 (fun i : Nat => .int i) ⟨l, dr⟩ (fun i acc μ2 => ∃ row : List Int, acc = row.map .int ∧ row.length = i ∧ (∀ k ∈ row, f k) ∧ μ2.sl = l') (List.range n) (by simp; omega) ?_ ?_ ?_ ?_
    · rw [h]
      simp
    · rw [hw dr]
      exact ⟨[], rfl, rfl, (fun _ h => by cases h), rfl⟩
    · rintro i x acc ⟨l2, dr2⟩ hx ha ⟨row, rfl, rfl, hf, rfl⟩
      obtain ⟨rfl, hi⟩ := range_get hx
      refine WO_mono (hs row.length dr2 (by omega)) fun μ2 h => WM_mono h fun d μ3 h => ?_
      obtain ⟨k, hd, hk, e⟩ := h
      refine ⟨row ++ [k], by rw [List.map_append, hd]; rfl, by simp, fun j hj => ?_, e⟩
      rw [List.mem_append, List.mem_singleton] at hj
      rcases hj with hj | rfl
      · exact hf j hj
      · exact hk
    · rintro acc ⟨l2, dr2⟩ ⟨row, rfl, hl, hf, rfl⟩
      exact hd row (by rw [hl, List.length_range]; exact hn) hf dr dr2
/-- a comprehension over a known number of turns -/
theorem wm_lcX {mi : M (List D)} {m : M D} {v : Nat} {μ : MS} {Q : List D → MS → Prop} (n : Nat) (hB : n ≤ 1000000) (l l' : List Sl) (f : Int → Prop)
    (hm : Go (WM (mi μ) fun ds μ' => ds = (List.range n).map (fun i : Nat => .int i) ∧ μ'.sl = l))
    (hw : ∀ dr, wipeS ⟨l, dr⟩ [v] = ⟨l', dr⟩)
    (hs : ∀ (i : Nat) dr, i < n → Go (WO (gN v (.int (i : Int)) ⟨l', dr⟩) fun μ2 => WM (m μ2) fun d μ3 => ∃ k, d = .int k ∧ f k ∧ (wipeS μ3 [v]).sl = l'))
    (hd : ∀ row : List Int, row.length = n → (∀ k ∈ row, f k) → ∀ dr dr', Go (WS (restS ⟨l, dr⟩ [v] ⟨l', dr'⟩) fun μ3 => Q (row.map .int) μ3)) : WM (mLc mi (gN v) tYesM m [v] μ) Q := by
  cases h : mi μ with
  | none => rw [h] at hm; simp at hm
  | some p =>
    obtain ⟨ds, μ1⟩ := p
    rw [h] at hm
    simp only [go_eq, WM_some] at hm
    obtain ⟨rfl, rfl⟩ := hm
    obtain ⟨l, dr⟩ := μ1
    refine wm_lc3 (fun i : Nat => .int i) ⟨l, dr⟩ (fun i acc μ2 => ∃ row : List Int, acc = row.map .int ∧ row.length = i ∧ (∀ k ∈ row, f k) ∧ μ2.sl = l') (List.range n) (by simp; omega) ?_ ?_ ?_ ?_
    · rw [h]
      simp
    · rw [hw dr]
      exact ⟨[], rfl, rfl, (fun _ h => by cases h), rfl⟩
    · rintro i x acc ⟨l2, dr2⟩ hx ha ⟨row, rfl, rfl, hf, rfl⟩
      obtain ⟨rfl, hi⟩ := range_get hx
      refine WO_mono (hs row.length dr2 (by omega)) fun μ2 h => WM_mono h fun d μ3 h => ?_
      obtain ⟨k, hd, hk, e⟩ := h
      refine ⟨row ++ [k], by rw [List.map_append, hd]; rfl, by simp, fun j hj => ?_, e⟩
      rw [List.mem_append, List.mem_singleton] at hj
      rcases hj with hj | rfl
      · exact hf j hj
      · exact hk
    · rintro acc ⟨l2, dr2⟩ ⟨row, rfl, hl, hf, rfl⟩
      exact hd row (by rw [hl, List.length_range]) hf dr dr2
end Mi
/-! Mi, thirteenth part: slices, sums, the greatest and the least. -/
namespace Mi
open PySem PySem.Spec PyProof.Rows L2
theorem slA_from {ds : List D} {i : Int} (h : 0 ≤ i) : slA (.tuple ds) (some i) none = some (.tuple (ds.drop i.toNat)) := by
  have e : i = (i.toNat : Int) := by omega
  show some (PyData.tuple ((ds.drop (HT.sIx ds.length 0 (some i))).take (HT.sIx ds.length ds.length none - HT.sIx ds.length 0 (some i)))) = _
  rw [e, HT.sIx_nat, HT.sIx_none, Int.toNat_natCast]
  rcases Nat.le_total i.toNat ds.length with hl | hl
  · rw [Nat.min_eq_left hl, List.take_of_length_le (by rw [List.length_drop]; exact Nat.le_refl _)]
  · rw [Nat.min_eq_right hl, List.drop_of_length_le (Nat.le_refl _), List.drop_of_length_le hl, List.take_nil]
theorem slA_cut {ds : List D} {i j : Int} (h : 0 ≤ i) (hij : i ≤ j) (hj : j ≤ ds.length) : slA (.tuple ds) (some i) (some j) = some (.tuple ((ds.drop i.toNat).take (j - i).toNat)) := by
  obtain ⟨i, rfl⟩ := Int.eq_ofNat_of_zero_le h
  obtain ⟨j, rfl⟩ := Int.eq_ofNat_of_zero_le (Int.le_trans h hij)
  show some (PyData.tuple ((ds.drop (HT.sIx ds.length 0 (some (i : Int)))).take (HT.sIx ds.length ds.length (some (j : Int)) - HT.sIx ds.length 0 (some (i : Int))))) = _
  rw [HT.sIx_nat, HT.sIx_nat, Nat.min_eq_left (by omega), Nat.min_eq_left (by omega), Int.toNat_natCast, show ((j : Int) - (i : Int)).toNat = j - i by omega]
theorem slA_listFrom {ds : List D} {i : Int} (h : 0 ≤ i) : slA (.list ds) (some i) none = some (.list (ds.drop i.toNat)) := by
  have e : i = (i.toNat : Int) := by omega
  show some (PyData.list ((ds.drop (HT.sIx ds.length 0 (some i))).take (HT.sIx ds.length ds.length none - HT.sIx ds.length 0 (some i)))) = _
  rw [e, HT.sIx_nat, HT.sIx_none, Int.toNat_natCast]
  rcases Nat.le_total i.toNat ds.length with hl | hl
  · rw [Nat.min_eq_left hl, List.take_of_length_le (by rw [List.length_drop]; exact Nat.le_refl _)]
  · rw [Nat.min_eq_right hl, List.drop_of_length_le (Nat.le_refl _), List.drop_of_length_le hl, List.take_nil]
theorem sumD_tuple {ns : List Int} : sumD [.tuple (ns.map .int)] = some (.int ns.sum) := by simp [sumD, ints?_map]
theorem sumD_list {ns : List Int} : sumD [.list (ns.map .int)] = some (.int ns.sum) := by simp [sumD, ints?_map]
theorem maxD_list {ns : List Int} (h : 0 < ns.length) : maxD [.list (ns.map .int)] = some (.int (maxL ns)) := by simp [maxD, ints?_map, h]
theorem maxD_tuple {ns : List Int} (h : 0 < ns.length) : maxD [.tuple (ns.map .int)] = some (.int (maxL ns)) := by simp [maxD, ints?_map, h]
theorem minDL_list {ns : List Int} (h : 0 < ns.length) : minDL [.list (ns.map .int)] = some (.int (minL ns)) := by simp [minDL, ints?_map, h]
@[simp] theorem addD_tuple {a b : List D} : addD (.tuple a) (.tuple b) = if a.length + b.length ≤ 16777216 then some (.tuple (a ++ b)) else none := rfl
@[simp] theorem addD_list {a b : List D} : addD (.list a) (.list b) = if a.length + b.length ≤ 16777216 then some (.list (a ++ b)) else none := rfl
theorem isi_tuple {ds : List D} : isiN "tuple" (.tuple ds) = some (.bool true) := by rfl
theorem isi_i {i : Int} : isiN "int" (.int i) = some (.bool true) := by rfl
theorem isi_b {i : Int} : isiN "bool" (.int i) = some (.bool false) := by rfl
theorem wm_ex {α : Type} {o : Option (α × MS)} {P : α → MS → Prop} (h : WM o P) : ∃ a μ, o = some (a, μ) ∧ P a μ := by
  cases o with
  | none => simp at h
  | some p => obtain ⟨a, μ⟩ := p; simp at h; exact ⟨a, μ, rfl, h⟩
theorem wo_ex {α : Type} {o : Option α} {P : α → Prop} (h : WO o P) : ∃ a, o = some a ∧ P a := by
  cases o with
  | none => simp at h
  | some p => simp at h; exact ⟨p, rfl, h⟩
/-- a comprehension with a condition; the state may move -/
theorem wm_lcc {δ : Type} {mi : M (List D)} {g : D → MS → Option MS} {tc : M Bool} {m : M D} {vs : List Nat} {μ : MS} {Q : List D → MS → Prop} (emb : δ → D) (μ1 : MS) (A : Nat → List D → MS → Prop) (xs : List δ) (hl : xs.length ≤ 16777216)
    (hm : Go (WM (mi μ) fun ds μ' => ds = xs.map emb ∧ μ' = μ1)) (h0 : Go (WS (wipeS μ1 vs) fun μ2 => A 0 [] μ2))
    (hs : ∀ (i : Nat) (x : δ) (acc : List D) (μ : MS), xs[i]? = some x → acc.length ≤ i → A i acc μ → Go (WO (g (emb x) μ) fun μ2 => WM (tc μ2) fun b μ3 => if b = true then WM (m μ3) fun d μ4 => WS (wipeS μ4 vs) fun μ5 => A (i + 1) (acc ++ [d]) μ5 else WS (wipeS μ3 vs) fun μ5 => A (i + 1) acc μ5))
    (hd : ∀ acc μ2, A xs.length acc μ2 → Go (WS (restS μ1 vs μ2) fun μ3 => Q acc μ3)) : WM (mLc mi g tc m vs μ) Q := by
  obtain ⟨ds, μ', e, rfl, rfl⟩ := wm_ex hm
  unfold mLc
  rw [e]
  simp only [Option.bind_some]
  have key : ∀ (ys : List δ) (i : Nat) (acc : List D) (μ : MS), ys = xs.drop i → i + ys.length = xs.length → acc.length ≤ i → A i acc μ → ∃ acc' μ', loopC g tc m vs (ys.map emb) acc μ = some (acc', μ') ∧ A xs.length acc' μ' := by
    intro ys
    induction ys with
    | nil =>
      intro i acc μ e hi ha hA
      simp only [List.length_nil, Nat.add_zero] at hi
      exact ⟨acc, μ, rfl, hi ▸ hA⟩
    | cons y ys ih =>
      intro i acc μ e hi ha hA
      simp only [List.length_cons] at hi
      have hy : xs[i]? = some y := by
        have := List.getElem?_drop (xs := xs) (i := i) (j := 0)
        rw [← e] at this
        simpa using this.symm
      have hys : ys = xs.drop (i + 1) := by
        have := congrArg List.tail e
        simpa [List.tail_drop] using this
      have q := hs i y acc μ hy ha hA
      obtain ⟨μ2, e2, q⟩ := wo_ex q
      obtain ⟨b, μ3, e3, q⟩ := wm_ex q
      simp only [List.map_cons, loopC, e2, e3, Option.bind_some]
      cases b with
      | false =>
        simp only [Bool.false_eq_true, if_false] at q ⊢
        exact ih (i + 1) acc _ hys (by omega) (by omega) (by with_unfolding_all exact q)
      | true =>
        simp only [if_true] at q ⊢
        obtain ⟨d, μ4, e4, q⟩ := wm_ex q
        simp only [e4, Option.bind_some]
        rw [if_pos (show acc.length < lineN by show acc.length < 16777216; omega)]
        exact ih (i + 1) _ _ hys (by omega) (by rw [List.length_append, List.length_singleton]; omega) (by with_unfolding_all exact q)
  obtain ⟨acc', μ2, e5, hA'⟩ := key xs 0 [] _ rfl (by simp) (Nat.zero_le _) (by with_unfolding_all exact h0)
  rw [e5]
  simp only [Option.bind_some, WM_some]
  have := hd _ _ hA'
  with_unfolding_all exact this
/-- the whole told at once: those that are taken -/
theorem wm_lcfil {δ : Type} {mi : M (List D)} {g : D → MS → Option MS} {tc : M Bool} {m : M D} {vs : List Nat} {μ : MS} {Q : List D → MS → Prop} (emb : δ → D) (c : δ → Bool) (f : δ → D) (μ1 : MS) (xs : List δ) (hl : xs.length ≤ 16777216)
    (hm : Go (WM (mi μ) fun ds μ' => ds = xs.map emb ∧ μ' = μ1))
    (hs : ∀ x ∈ xs, Go (WS (wipeS μ1 vs) fun μ2 => WO (g (emb x) μ2) fun μ2 => WM (tc μ2) fun b μ3 => b = c x ∧ if b = true then WM (m μ3) fun d μ4 => d = f x ∧ wipeS μ4 vs = wipeS μ1 vs else wipeS μ3 vs = wipeS μ1 vs))
    (hd : Go (WS (restS μ1 vs (wipeS μ1 vs)) fun μ3 => Q ((xs.filter c).map f) μ3)) : WM (mLc mi g tc m vs μ) Q := by
  refine wm_lcc emb μ1 (fun i acc μ2 => acc = ((xs.take i).filter c).map f ∧ μ2 = wipeS μ1 vs) xs hl hm ⟨rfl, rfl⟩ ?_ ?_
  · rintro i x acc μ hx ha ⟨rfl, rfl⟩
    have hx' : x ∈ xs := List.mem_of_getElem? hx
    refine WO_mono (hs x hx') fun μ2 h => ?_
    refine WM_mono h fun b μ3 h => ?_
    obtain ⟨rfl, h⟩ := h
    rw [List.take_add_one, hx]
    cases hc : c x with
    | false =>
      rw [hc] at h
      simp only [Bool.false_eq_true, if_false] at h ⊢
      refine ⟨?_, h⟩
      simp [hc]
    | true =>
      rw [hc] at h
      simp only [if_true] at h ⊢
      refine WM_mono h fun d μ4 h => ?_
      refine ⟨?_, h.2⟩
      simp [hc, h.1]
  · rintro acc μ2 ⟨rfl, rfl⟩
    rw [List.take_length]
    exact hd
end Mi
/-! Mi, fourteenth part: sorted(set(t)). -/
namespace Mi
open PySem PySem.Spec PyProof.Rows L2
def insU (x : Int) : List Int → List Int
  | [] => [x]
  | y :: r => if x < y then x :: y :: r else if x = y then y :: r else y :: insU x r
def srtU (ns : List Int) : List Int := ns.foldr insU []
theorem mem_insU {x k : Int} : ∀ {r : List Int}, k ∈ insU x r ↔ k = x ∨ k ∈ r
  | [] => by simp [insU]
  | y :: r => by
    unfold insU
    split
    · simp
    · split
      · rename_i h; subst h; simp
      · rw [List.mem_cons, mem_insU (r := r), List.mem_cons]
        constructor
        · rintro (h | h | h)
          · exact .inr (.inl h)
          · exact .inl h
          · exact .inr (.inr h)
        · rintro (h | h | h)
          · exact .inr (.inl h)
          · exact .inl h
          · exact .inr (.inr h)
theorem insU_srt {x : Int} : ∀ {r : List Int}, r.Pairwise (· < ·) → (insU x r).Pairwise (· < ·)
  | [], _ => by simp [insU]
  | y :: r, h => by
    rw [List.pairwise_cons] at h
    unfold insU
    split
    · rename_i hx
      refine List.pairwise_cons.mpr ⟨fun z hz => ?_, List.pairwise_cons.mpr h⟩
      rcases List.mem_cons.mp hz with rfl | hz
      · exact hx
      · exact Int.lt_trans hx (h.1 z hz)
    · split
      · exact List.pairwise_cons.mpr h
      · refine List.pairwise_cons.mpr ⟨fun z hz => ?_, insU_srt h.2⟩
        rcases mem_insU.mp hz with rfl | hz
        · omega
        · exact h.1 z hz
theorem srtU_mem {k : Int} : ∀ {ns : List Int}, k ∈ srtU ns ↔ k ∈ ns
  | [] => by simp [srtU]
  | n :: ns => by
    show k ∈ insU n (srtU ns) ↔ _
    rw [mem_insU, srtU_mem, List.mem_cons]
theorem srtU_srt : ∀ (ns : List Int), (srtU ns).Pairwise (· < ·)
  | [] => by simp [srtU]
  | n :: ns => insU_srt (srtU_srt ns)
theorem srt_eq : ∀ {as bs : List Int}, as.Pairwise (· < ·) → bs.Pairwise (· < ·) → (∀ k, k ∈ as ↔ k ∈ bs) → as = bs
  | [], [], _, _, _ => rfl
  | [], b :: bs, _, _, h => by have := (h b).mpr List.mem_cons_self; cases this
  | a :: as, [], _, _, h => by have := (h a).mp List.mem_cons_self; cases this
  | a :: as, b :: bs, ha, hb, h => by
    rw [List.pairwise_cons] at ha hb
    have e : a = b := by
      rcases List.mem_cons.mp ((h a).mp List.mem_cons_self) with e | e
      · exact e
      · rcases List.mem_cons.mp ((h b).mpr List.mem_cons_self) with e2 | e2
        · exact e2.symm
        · have := hb.1 a e
          have := ha.1 b e2
          omega
    subst e
    rw [srt_eq ha.2 hb.2 fun k => ?_]
    have hk := h k
    constructor
    · intro hm
      rcases List.mem_cons.mp (hk.mp (List.mem_cons_of_mem _ hm)) with e | e
      · have := ha.1 k hm; omega
      · exact e
    · intro hm
      rcases List.mem_cons.mp (hk.mpr (List.mem_cons_of_mem _ hm)) with e | e
      · have := hb.1 k hm; omega
      · exact e
theorem srtU_self {ns : List Int} : srtU ns = ns ↔ ns.Pairwise (· < ·) :=
  ⟨fun h => h ▸ srtU_srt ns, fun h => srt_eq (srtU_srt ns) h fun k => srtU_mem⟩
/-- the mirror of sorted(set(t)) -/
def srtSetF : D → Option (List D)
  | .tuple ds => (ints? ds).bind fun ns => if ns.length < 60 then some ((srtU ns).map .int) else none
  | _ => none
def m1F (g : D → Option (List D)) (ma : M O) : M (List D) := fun μ => (ma μ).bind fun p => (look p.1 p.2).bind fun d => (g d).bind fun z => some (z, p.2)
section
variable {X : Cx}
def rSetTI (X : Cx) : List V → Hp → VK → Prop := fun xs H Q => ∃ (l : Addr) (ns : List Int), xs = [V.ref l] ∧ SqT X.K H l (ns.map V.int) ∧ ns.length + 1 < scanBound ∧ ∀ p c, H p = none → c ≤ ns.length → Q (.ref p) (upd H p (SetO X.w p (fun j => decide (j ∈ ns)) c))
theorem cr_setTI (hc : X.calm = true) : CallR X (.type "set") (rSetTI X) := by
  intro pins s σ H vs us Q I r h
  obtain ⟨a, ns, rfl, hs, hb, q⟩ := h
  obtain ⟨its, rv, hl, _⟩ := I.tuple hs
  rw [Vals.ref1 r]
  exact call_set_tupI ns (I.ok.hd hc) hl rv.ints hb fun h' tk c R hcl hk => ⟨.ref _, upd H s.heap.objs.size (SetO X.w s.heap.objs.size (fun j => decide (j ∈ ns)) c), I.laid (t' := tk) hk (Nat.le_refl _) (setO_new R), rfl, q _ c (I.hok.fresh (Nat.le_refl _)) hcl⟩
variable {p p2 q pos : Pos} {e : Expr} {m : M O}
theorem f_sortedSet (hc : X.calm = true) (hm : X.mg "sorted" = none) (hm2 : X.mg "set" = none) (ha : DO X e m) (hg : Gl X "sorted" := by rfl) (hg2 : Gl X "set" := by rfl)
    (he : starEach [e] X.env = [(false, eval e X.env)] := by rfl) : DF X (.Call (.Name "sorted" p) [.Call (.Name "set" p2) [e] [] q] [] pos) (m1F srtSetF m) := by
  obtain ⟨t, ht, o⟩ := ha.ex
  refine ⟨_, pe_callB (cr_sortedSet hc) hg hm (by decide +kernel) (pa_cons (pe_callTy (cr_setTI hc) hg2 hm2 (by decide +kernel) (pa_cons ht pa_nil he) (by decide) (by decide) he) pa_nil), fun c B σ H μ ds μ' Q rel hm k => ?_⟩
  unfold m1F at hm
  simp only [Option.bind_eq_some_iff] at hm
  obtain ⟨⟨o1, μ1⟩, h1, d, h2, z, h3, h4⟩ := hm
  cases h4
  unfold srtSetF at h3
  split at h3
  · rename_i ds2
    simp only [Option.bind_eq_some_iff] at h3
    obtain ⟨ns, h5, h6⟩ := h3
    split at h6
    · rename_i hlen
      cases h6
      refine o c B σ H μ o1 μ1 _ rel h1 fun B1 H1 x e1 r1 x1 => ?_
      obtain ⟨a, vs, rfl, s1, s2, s3⟩ := (look_ok r1 x1 h2).tuple r1.r0.ext
      rw [ints?_some h5] at s3
      refine ⟨a, ns, rfl, by rw [← s3.ints]; exact s1, by unfold scanBound; omega, fun p0 c0 hp0 hc0 => ?_⟩
      refine ⟨p0, _, c0, rfl, upd_same, by omega, fun out p1 hsrt hmem hl hp1 => ?_⟩
      have r2 := r1.hide (o := SetO X.w p0 (fun j => decide (j ∈ ns)) c0) hp0
      have r3 := r2.hide (o := .lst (out.map V.int)) hp1
      obtain ⟨f0, fb⟩ := r2.r0.fresh hp1
      have eq : out = srtU ns := srt_eq hsrt (srtU_srt ns) fun k => by rw [hmem k, srtU_mem, decide_eq_true_iff]
      rw [eq] at r3 ⊢
      exact k B1 _ p1 _ e1 r3 upd_same fb f0 (r2.noOwn hp1) (RpA.ofInts _)
    · cases h6
  · cases h3
end
end Mi
/-! Mi, fifteenth part: helpers for the maths. -/
namespace Mi
open PySem PySem.Spec PyProof.Rows L2
theorem WO_get {α : Type} {o : Option α} {P : α → Prop} (h : Go (WO o P)) : ∃ z, o = some z ∧ P z := by
  cases o with
  | none => simp -dsimp at h
  | some z => simp -dsimp at h; exact ⟨z, rfl, un_go h⟩
/-- a comprehension whose elements are told by a property; the state may move -/
theorem wm_lcY {δ ε : Type} {mi : M (List D)} {g : D → MS → Option MS} {m : M D} {vs : List Nat} {μ : MS} {Q : List D → MS → Prop} (emb : δ → D) (out : ε → D) (xs : List δ) (hB : xs.length ≤ 1000000) (l l' : List Sl) (f : δ → ε → Prop)
    (hm : Go (WM (mi μ) fun ds μ' => ds = xs.map emb ∧ μ'.sl = l))
    (hw : ∀ dr, wipeS ⟨l, dr⟩ vs = ⟨l', dr⟩)
    (hs : ∀ (i : Nat) (x : δ) dr, xs[i]? = some x → Go (WO (g (emb x) ⟨l', dr⟩) fun μ2 => WM (m μ2) fun d μ3 => ∃ k, d = out k ∧ f x k ∧ (wipeS μ3 vs).sl = l'))
    (hd : ∀ row : List ε, row.length = xs.length → (∀ (i : Nat) (x : δ) (k : ε), xs[i]? = some x → row[i]? = some k → f x k) → ∀ dr dr', Go (WS (restS ⟨l, dr⟩ vs ⟨l', dr'⟩) fun μ3 => Q (row.map out) μ3)) : WM (mLc mi g tYesM m vs μ) Q := by
  cases h : mi μ with
  | none => rw [h] at hm; simp at hm
  | some p =>
    obtain ⟨ds, μ1⟩ := p
    rw [h] at hm
    simp only [go_eq, WM_some] at hm
    obtain ⟨rfl, rfl⟩ := hm
    obtain ⟨l, dr⟩ := μ1
    refine wm_lc3 emb ⟨l, dr⟩ (fun i acc μ2 => ∃ row : List ε, acc = row.map out ∧ row.length = i ∧ (∀ (j : Nat) (x : δ) (k : ε), xs[j]? = some x → row[j]? = some k → f x k) ∧ μ2.sl = l') xs (by omega) ?_ ?_ ?_ ?_
    · rw [h]
      simp
    · rw [hw dr]
      exact ⟨[], rfl, rfl, (fun j x k _ h => by simp at h), rfl⟩
    · rintro i x acc ⟨l2, dr2⟩ hx ha ⟨row, rfl, rfl, hf, rfl⟩
      refine WO_mono (hs row.length x dr2 hx) fun μ2 h => WM_mono h fun d μ3 h => ?_
      obtain ⟨k, hd, hk, e⟩ := h
      refine ⟨row ++ [k], by rw [List.map_append, hd]; rfl, by simp, fun j y k' hj hk' => ?_, e⟩
      by_cases hjl : j < row.length
      · rw [List.getElem?_append_left hjl] at hk'
        exact hf j y k' hj hk'
      · have hl := (List.getElem?_eq_some_iff.mp hk').1
        simp only [List.length_append, List.length_singleton] at hl
        have hje : j = row.length := by omega
        subst hje
        rw [List.getElem?_append_right (Nat.le_refl _), Nat.sub_self] at hk'
        cases hk'
        rw [hx] at hj
        cases hj
        exact hk
    · rintro acc ⟨l2, dr2⟩ ⟨row, rfl, hl, hf, rfl⟩
      exact hd row hl hf dr dr2
theorem allD_true {α : Type} {xs : List α} : allD [.list (xs.map fun _ => .bool true)] = some (.bool true) := by
  rw [allD_map (p := fun _ => true)]
  simp
theorem bits_lt {s : Int} : s.natAbs < 2 ^ Builtin.Int.intBits s := by
  unfold Builtin.Int.intBits
  split
  · rename_i h
    simp at h
    subst h
    decide
  · exact Nat.lt_log2_self
theorem bits_le {s : Int} (h : s ≠ 0) : 0 < Builtin.Int.intBits s ∧ 2 ^ (Builtin.Int.intBits s - 1) ≤ s.natAbs := by
  unfold Builtin.Int.intBits
  rw [if_neg (by simpa using h)]
  exact ⟨by omega, Nat.log2_self_le (by omega)⟩
end Mi
/-! Mi, sixteenth part: xs[::-1] of a list. -/
namespace Mi
open PySem PySem.Spec PyProof.Rows L2
def revF : D → Option (List D)
  | .list ds => some ds.reverse
  | _ => none
@[simp] theorem revF_list {ds : List D} : revF (.list ds) = some ds.reverse := rfl
theorem RpA.rev {K : PySem.W.Frag} {st : Option (Addr × Addr)} {B : Hp} : ∀ {vs : List V} {ds : List D}, RpA K st B vs ds → RpA K st B vs.reverse ds.reverse
  | _, _, .nil => .nil
  | _, _, .cons r t => by
    rw [List.reverse_cons, List.reverse_cons]
    exact (RpA.rev t).append (.cons r .nil)
section
variable {X : Cx} {e : Expr} {m : M O} {k : Nat} {p1 p2 p3 pos : Pos}
theorem f_revL (ha : DO X e m) : DF X (.Subscript e (.Slice none none (some (.UnaryOp .USub (.Constant (.int 1) k p1) p2)) p3) pos) (m1F revF m) := by
  obtain ⟨t, pt, o⟩ := ha.ex
  refine ⟨_, pe_revL pt, fun c B σ H μ ds μ' Q rel hm k => ?_⟩
  unfold m1F at hm
  simp only [Option.bind_eq_some_iff] at hm
  obtain ⟨⟨o1, μ1⟩, h1, d, h2, z, h3, h4⟩ := hm
  cases h4
  unfold revF at h3
  split at h3
  · cases h3
    refine o c B σ H μ o1 μ1 _ rel h1 fun B1 H1 x e1 r1 x1 => ?_
    obtain ⟨p, vs, rfl, h7, h8⟩ := (look_ok r1 x1 h2).list r1.r0.ext
    refine ⟨p, vs, rfl, SqL.of h7, fun a ha => ?_⟩
    obtain ⟨f0, fb⟩ := r1.r0.fresh ha
    exact k B1 _ a _ e1 (r1.hide ha) upd_same fb f0 (r1.noOwn ha) h8.rev
  · cases h3
end
theorem wm0_m1F {g : D → Option (List D)} {ma : M O} {μ : MS} {Q : List D → MS → Prop} : WM0 (m1F g ma μ) Q = WM0 (ma μ) fun o1 μ1 => WO0 (look o1 μ1) fun d => WO0 (g d) fun z => Q z μ1 := by
  unfold m1F
  cases ma μ with
  | none => rfl
  | some p =>
    obtain ⟨o, μ1⟩ := p
    simp only [Option.bind_some]
    show _ = WO0 (look o μ1) _
    cases look o μ1 with
    | none => rfl
    | some d =>
      simp only [Option.bind_some]
      show _ = WO0 (g d) _
      cases g d <;> rfl
@[simp ↓] theorem wm_m1F {g : D → Option (List D)} {ma : M O} {μ : MS} {Q : List D → MS → Prop} : @Eq Prop (WM (m1F g ma μ) Q) (WM (ma μ) fun o1 μ1 => WO (look o1 μ1) fun d => WO (g d) fun z => Q z μ1) := by with_unfolding_all exact wm0_m1F
end Mi
/-! Mi, seventeenth part: sorted(ints); a dict of lists of ints, grown in a loop by setdefault(..).append(..), and read by get(k, []). -/
namespace Mi
open PySem PySem.Spec PyProof.Rows L2
/-! ### sorted -/
def srtI (ns : List Int) : List Int := ns.mergeSort fun x y => decide (x ≤ y)
def sortF : D → Option (List D)
  | .list ds => (ints? ds).bind fun ns => some ((srtI ns).map .int)
  | _ => none
section
variable {X : Cx} {p pos : Pos} {e : Expr} {m : M O}
theorem f_sortI (hm : X.mg "sorted" = none) (ha : DO X e m) (hg : Gl X "sorted" := by rfl) (he : starEach [e] X.env = (false, eval e X.env) :: starEach [] X.env := by rfl) (hpl : (backTo pos (starEach [] X.env)).any (·.1) = false := by rfl) :
    DF X (.Call (.Name "sorted" p) [e] [] pos) (m1F sortF m) := by
  obtain ⟨t, pt, o⟩ := ha.ex
  refine ⟨_, pe_callB cr_sortedI hg hm (by decide +kernel) (pa_cons pt pa_nil he) (by decide) (by decide) he hpl, fun c B σ H μ ds μ' Q rel hm k => ?_⟩
  unfold m1F at hm
  simp only [Option.bind_eq_some_iff] at hm
  obtain ⟨⟨o1, μ1⟩, h1, d, h2, z, h3, h4⟩ := hm
  cases h4
  unfold sortF at h3
  split at h3
  · simp only [Option.bind_eq_some_iff] at h3
    obtain ⟨ns, h5, h6⟩ := h3
    cases h6
    refine o c B σ H μ o1 μ1 _ rel h1 fun B1 H1 x e1 r1 x1 => ?_
    obtain ⟨a, vs, rfl, h7, h8⟩ := (look_ok r1 x1 h2).list r1.r0.ext
    rw [ints?_some h5] at h8
    refine ⟨a, ns, rfl, by rw [← h8.ints]; exact SqL.of h7, fun ns' p0 hperm hsrt hp0 => ?_⟩
    have eq : ns' = srtI ns := PySem.W.os_sorted_mergeSort hperm hsrt
    obtain ⟨f0, fb⟩ := r1.r0.fresh hp0
    rw [eq]
    exact k B1 _ p0 _ e1 (r1.hide hp0) upd_same fb f0 (r1.noOwn hp0) (RpA.ofInts _)
  · cases h3
end
/-! ### many objects of ours that must stay -/
noncomputable def C.pinA (c : C) (H : Hp) (As : List Addr) : C := { c with H0 := fun a => if a ∈ As then H a else c.H0 a }
section
variable {K : PySem.W.Frag} {c : C} {B H : Hp} {σ : St} {μ : MS} {As : List Addr}
theorem pinA_in {a : Addr} (h : a ∈ As) : (c.pinA H As).H0 a = H a := if_pos h
theorem pinA_out {a : Addr} (h : a ∉ As) : (c.pinA H As).H0 a = c.H0 a := if_neg h
theorem Rel.pinA (r : Rel K c B σ H μ) (h : ∀ a ∈ As, B a = none ∧ c.H0 a = none ∧ NoOwn σ μ a) : Rel K (c.pinA H As) B σ H μ := by
  refine ⟨⟨r.r0.ext, fun x y e => ?_, fun a u e s => ?_, fun a u e => ?_, r.r0.b0⟩, r.len, fun i s hs => ?_, r.sep⟩
  · obtain ⟨h1, h2, h3, h4, h5, h6, h7⟩ := r.r0.dr x y e
    have nx : x ∉ As := fun z => h6 (h x z).2.1
    have ny : y ∉ As := fun z => h7 (h y z).2.1
    exact ⟨h1, h2, h3, h4, h5, by rw [pinA_out nx]; exact h6, by rw [pinA_out ny]; exact h7⟩
  · by_cases ha : a ∈ As
    · rw [pinA_in ha] at e
      exact e
    · rw [pinA_out ha] at e
      exact r.r0.fr a u e s
  · rcases r.r0.nw a u e with q | q
    · exact .inl q
    · refine .inr ?_
      have ha : a ∉ As := fun z => by rw [(h a z).1] at e; cases e
      rw [pinA_out ha]
      exact q
  · have q := r.sl i s hs
    cases s with
    | un => trivial
    | val d => exact q
    | ow ds =>
      obtain ⟨a, vs, h1, h2, h3, h4, h5⟩ := q
      have ha : a ∉ As := fun z => (h a z).2.2 i ds hs h1
      exact ⟨a, vs, h1, h2, h3, by rw [pinA_out ha]; exact h4, h5⟩
theorem Rel.unpinA {B2 H2 : Hp} {σ2 : St} {μ2 : MS} (r : Rel K (c.pinA H As) B2 σ2 H2 μ2) (h : ∀ a ∈ As, (∃ o, H a = some o) ∧ c.H0 a = none ∧ c.B0 a = none ∧ ¬ IsSt c a) :
    Rel K c B2 σ2 H2 μ2 ∧ ∀ a ∈ As, H2 a = H a ∧ B2 a = none ∧ NoOwn σ2 μ2 a := by
  have out : ∀ a, (c.pinA H As).H0 a = none → a ∉ As ∧ c.H0 a = none := fun a e => by
    have na : a ∉ As := fun z => by
      rw [pinA_in z] at e
      obtain ⟨⟨o, ho⟩, _⟩ := h a z
      rw [ho] at e
      cases e
    rw [pinA_out na] at e
    exact ⟨na, e⟩
  refine ⟨⟨⟨r.r0.ext, fun x y e => ?_, fun a u e s => ?_, fun a u e => ?_, r.r0.b0⟩, r.len, fun i s hs => ?_, r.sep⟩, fun a ha => ⟨?_, ?_, fun i ds hi hs => ?_⟩⟩
  · obtain ⟨h1, h2, h3, h4, h5, h6, h7⟩ := r.r0.dr x y e
    have nx : x ∉ As := fun z => (h x z).2.2.2 ⟨_, _, e, .inl rfl⟩
    have ny : y ∉ As := fun z => (h y z).2.2.2 ⟨_, _, e, .inr rfl⟩
    rw [pinA_out nx] at h6
    rw [pinA_out ny] at h7
    exact ⟨h1, h2, h3, h4, h5, h6, h7⟩
  · have na : a ∉ As := fun z => by rw [(h a z).2.1] at e; cases e
    exact r.r0.fr a u (by rw [pinA_out na]; exact e) s
  · rcases r.r0.nw a u e with q | q
    · exact .inl q
    · exact .inr (out a q).2
  · have q := r.sl i s hs
    cases s with
    | un => trivial
    | val d => exact q
    | ow ds =>
      obtain ⟨a, vs, h1, h2, h3, h4, h5⟩ := q
      exact ⟨a, vs, h1, h2, h3, (out a h4).2, h5⟩
  · obtain ⟨⟨o, ho⟩, _, _, ns⟩ := h a ha
    have := r.r0.fr a o (by rw [pinA_in ha]; exact ho) ns
    rw [this, ho]
  · cases q : B2 a with
    | none => rfl
    | some u =>
      rcases r.r0.nw a u q with z | z
      · have z' : c.B0 a = some u := z
        rw [(h a ha).2.2.1] at z'
        cases z'
      · exact absurd ha (out a z).1
  · obtain ⟨a', vs, h1, h2, h3, h4, h5⟩ := r.owAt hi
    rw [hs] at h1
    cases h1
    exact (out _ h4).1 ha
end
/-! ### a dict of lists of ints -/
abbrev Grp := List (Int × List Int)
def addG : Grp → Int → Int → Grp
  | [], k, x => [(k, [x])]
  | (k', xs) :: r, k, x => if k' = k then (k', xs ++ [x]) :: r else (k', xs) :: addG r k x
def grD (g : Grp) : D := .dict ((.bool false, .none) :: g.map fun p => (.int p.1, .list (p.2.map .int)))
def groupF (ip : Nat) (mk : M D) : List D → Grp → MS → Option (Grp × MS)
  | [], g, μ => some (g, μ)
  | .int pl :: ds, g, μ => (mk (setS μ ip (.val (.int pl)))).bind fun q => match q.1 with
    | .int k => if g.length < 1000000 ∧ (∀ e ∈ g, e.2.length < 1000000) then groupF ip mk ds (addG g k pl) q.2 else none
    | _ => none
  | _ :: _, _, _ => none
/-- for place in ..: rows.setdefault(key, []).append(place) -/
def sGroup (ir ip : Nat) (m : M (List D)) (mk : M D) : MT := fun μ => match m μ with
  | some (ds, μ1) => match μ1.sl[ir]? with
    | some (.ow (.d false [])) => if ir = ip ∨ μ1.sl.length ≤ ip then .bad else match groupF ip mk ds [] (setS μ1 ir .un) with
      | some (g, μ2) => .nx (setS μ2 ir (.val (grD g)))
      | none => .bad
    | _ => .bad
  | none => .bad
/-- the keys, the lists' places, the lists -/
abbrev GL := List (Int × Addr × List Int)
def glK (L : GL) : List (Key × V) := L.map fun e => (.inl e.1, .ref e.2.1)
def glA (L : GL) : List Addr := L.map (·.2.1)
def glG (L : GL) : Grp := L.map fun e => (e.1, e.2.2)
structure GOk (H : Hp) (p : Addr) (L : GL) : Prop where
  d : H p = some (.dK (glK L))
  l : ∀ e ∈ L, H e.2.1 = some (.lst (e.2.2.map V.int))
  np : p ∉ (glA L)
  nd : (glA L).Nodup
theorem val_cons {e : Int × Addr × List Int} {L : GL} {k : Int} : valV (glK (e :: L)) (.inl k) = if e.1 = k then some (.ref e.2.1) else valV (glK L) (.inl k) := by
  unfold glK valV
  rw [List.map_cons, List.find?_cons]
  by_cases h : e.1 = k
  · simp [h]
  · simp [h]
/-- where the key stands: its list grows -/
def growL : GL → Int → Int → GL
  | [], _, _ => []
  | e :: L, k, x => if e.1 = k then (e.1, e.2.1, e.2.2 ++ [x]) :: L else e :: growL L k x
theorem growL_as {k x : Int} : ∀ {L : GL}, glA (growL L k x) = (glA L)
  | [] => rfl
  | e :: L => by
    unfold growL
    split
    · rfl
    · show e.2.1 :: glA (growL L k x) = e.2.1 :: (glA L)
      rw [growL_as]
theorem growL_kvs {k x : Int} : ∀ {L : GL}, glK (growL L k x) = (glK L)
  | [] => rfl
  | e :: L => by
    unfold growL
    split
    · rfl
    · show (Sum.inl e.1, V.ref e.2.1) :: glK (growL L k x) = (Sum.inl e.1, V.ref e.2.1) :: (glK L)
      rw [growL_kvs]
theorem growL_g {k x : Int} {v : V} : ∀ {L : GL}, valV (glK L) (.inl k) = some v → glG (growL L k x) = addG (glG L) k x
  | [], h => by cases h
  | e :: L, h => by
    rw [val_cons] at h
    unfold growL
    split at h
    · rename_i h1
      rw [if_pos h1]
      show (e.1, e.2.2 ++ [x]) :: (glG L) = addG ((e.1, e.2.2) :: (glG L)) k x
      rw [addG, if_pos h1]
    · rename_i h1
      rw [if_neg h1]
      show (e.1, e.2.2) :: glG (growL L k x) = addG ((e.1, e.2.2) :: (glG L)) k x
      rw [addG, if_neg h1, growL_g h]
theorem newL_g {k x : Int} {a : Addr} : ∀ {L : GL}, valV (glK L) (.inl k) = none → glG (L ++ [(k, a, [x])]) = addG (glG L) k x
  | [], h => rfl
  | e :: L, h => by
    rw [val_cons] at h
    split at h
    · cases h
    · rename_i h1
      show (e.1, e.2.2) :: glG (L ++ [(k, a, [x])]) = addG ((e.1, e.2.2) :: (glG L)) k x
      rw [addG, if_neg h1, newL_g h]
theorem put_new {L : GL} {k : Int} {a : Addr} {xs : List Int} (h : valV (glK L) (.inl k) = none) : putK (glK L) (.inl k) (.ref a) = glK (L ++ [(k, a, xs)]) := by
  unfold putK
  have : ((glK L).any fun kv => decide (kv.1 = Sum.inl k)) = false := by
    unfold valV at h
    rw [Option.map_eq_none_iff, List.find?_eq_none] at h
    rw [List.any_eq_false]
    exact h
  rw [this, if_neg (by decide)]
  unfold glK
  rw [List.map_append]
  rfl
/-- the list of a key that is there -/
theorem at_key {k x : Int} {v : V} : ∀ {L : GL}, valV (glK L) (.inl k) = some v → ∃ a xs, v = .ref a ∧ (k, a, xs) ∈ L ∧ (∀ e, e ∈ growL L k x → e = (k, a, xs ++ [x]) ∨ (e ∈ L ∧ ((glA L).Nodup → e.2.1 ≠ a)))
  | [], h => by cases h
  | e :: L, h => by
    rw [val_cons] at h
    split at h
    · rename_i h1
      cases h
      subst h1
      refine ⟨e.2.1, e.2.2, rfl, by simp, fun e' he' => ?_⟩
      unfold growL at he'
      rw [if_pos rfl] at he'
      rcases List.mem_cons.mp he' with z | z
      · exact .inl z
      · refine .inr ⟨by simp [z], fun nd => ?_⟩
        intro q
        have := (List.nodup_cons.mp nd).1
        exact this (List.mem_map.mpr ⟨e', z, q⟩)
    · rename_i h1
      obtain ⟨a, xs, rfl, h2, h3⟩ := at_key (x := x) h
      refine ⟨a, xs, rfl, by simp [h2], fun e' he' => ?_⟩
      unfold growL at he'
      rw [if_neg h1] at he'
      rcases List.mem_cons.mp he' with z | z
      · refine .inr ⟨by simp [z], fun nd q => ?_⟩
        have := (List.nodup_cons.mp nd).1
        rw [z] at q
        exact this (List.mem_map.mpr ⟨_, h2, q.symm⟩)
      · rcases h3 e' z with q | q
        · exact .inl q
        · exact .inr ⟨by simp [q.1], fun nd => q.2 (List.nodup_cons.mp nd).2⟩
end Mi
/-! Mi, eighteenth part: the loop that groups; get(k, []). -/
namespace Mi
open PySem PySem.Spec PyProof.Rows L2
section
variable {K : PySem.W.Frag} {c : C} {B H : Hp} {σ : St} {μ : MS}
theorem noOwn_put {p : Addr} {i : Nat} {v : Option V} {d : D} (h : NoOwn σ μ p) : NoOwn (σ.set i v) (setS μ i (.val d)) p := fun j o hj hs => by
  by_cases hji : j = i
  · subst hji
    have hl : j < μ.sl.length := by
      have := (List.getElem?_eq_some_iff.mp hj).1
      simpa [setS] using this
    rw [show (setS μ j (.val d)).sl = μ.sl.set j (.val d) from rfl, List.getElem?_set_self hl] at hj
    cases hj
  · rw [show (setS μ i (.val d)).sl = μ.sl.set i (.val d) from rfl, List.getElem?_set_ne (Ne.symm hji)] at hj
    rw [List.getElem?_set_ne (Ne.symm hji)] at hs
    exact h j o hj hs
/-- an own object hidden -/
theorem Rel.hideOw (r : Rel K c B σ H μ) {i : Nat} {o : Ob} (h : μ.sl[i]? = some (.ow o)) : ∃ p ho, σ[i]? = some (some (.ref p)) ∧ H p = some ho ∧ B p = none ∧ c.H0 p = none ∧ ObR K c.st B ho o ∧ Rel K c B σ H (setS μ i .un) ∧ NoOwn σ (setS μ i .un) p := by
  obtain ⟨p, ho, h1, h2, h3, h4, h5⟩ := r.owAt h
  refine ⟨p, ho, h1, h2, h3, h4, h5, r.same (fun _ => trivial) (fun _ z => by cases z), fun j dj hj hs => ?_⟩
  by_cases hji : j = i
  · subst hji
    have hl := (List.getElem?_eq_some_iff.mp h).1
    rw [show (setS μ j .un).sl = μ.sl.set j .un from rfl, List.getElem?_set_self hl] at hj
    cases hj
  · rw [show (setS μ i .un).sl = μ.sl.set i .un from rfl, List.getElem?_set_ne (Ne.symm hji)] at hj
    exact r.sep j i dj o hji hj h (by rw [hs, h1])
theorem Rel.freezeL (r : Rel K c B σ H μ) : ∀ (As : List Addr), As.Nodup → (∀ a ∈ As, (∃ o, H a = some o) ∧ B a = none ∧ c.H0 a = none ∧ NoOwn σ μ a) → ∃ B', Ext B B' ∧ Rel K c B' σ H μ ∧ (∀ a ∈ As, B' a = H a) ∧ ∀ a, a ∉ As → B' a = B a
  | [], _, _ => ⟨B, Ext.refl _, r, (fun a h => by cases h), fun _ _ => rfl⟩
  | a :: As, nd, h => by
    obtain ⟨n1, n2⟩ := List.nodup_cons.mp nd
    obtain ⟨B1, e1, r1, f1, g1⟩ := Rel.freezeL r As n2 fun b hb => h b (List.mem_cons_of_mem _ hb)
    obtain ⟨⟨o, ho⟩, hb, h0, no⟩ := h a List.mem_cons_self
    have hb1 : B1 a = none := by rw [g1 a n1]; exact hb
    refine ⟨upd B1 a o, e1.trans (Ext.new hb1), r1.freeze ho h0 hb1 no, fun b hb' => ?_, fun b hb' => ?_⟩
    · by_cases hba : b = a
      · rw [hba, upd_same, ho]
      · rw [upd_ne hba]
        rcases List.mem_cons.mp hb' with z | z
        · exact absurd z hba
        · exact f1 b z
    · rw [List.mem_cons, not_or] at hb'
      rw [upd_ne hb'.1]
      exact g1 b hb'.2
theorem grp_rp {st : Option (Addr × Addr)} {B' : Hp} {p : Addr} {L : GL} (hd : B' p = some (.dK (glK L))) (hl : ∀ e ∈ L, B' e.2.1 = some (.lst (e.2.2.map V.int))) : Rp K st B' (.ref p) (grD (glG L)) := by
  refine .dck hd ?_
  have key : ∀ L : GL, (∀ e ∈ L, B' e.2.1 = some (.lst (e.2.2.map V.int))) → RpK K st B' ((glK L).map fun q => (kkD q.1, q.2)) ((glG L).map fun q => (PyData.int q.1, PyData.list (q.2.map .int))) := by
    intro L
    induction L with
    | nil => intro _; exact .nil
    | cons e L ih =>
      intro h
      exact .cons (.lst (h e List.mem_cons_self) (RpA.ofInts _)) (ih fun e' he' => h e' (List.mem_cons_of_mem _ he'))
  exact key L hl
/-- what stands while the loop goes -/
structure GInv (K : PySem.W.Frag) (c : C) (B0 : Hp) (ir : Nat) (p : Addr) (L : GL) (B : Hp) (σ : St) (H : Hp) (μ : MS) : Prop where
  ext : Ext B0 B
  rel : Rel K c B σ H μ
  at_ : σ[ir]? = some (some (.ref p))
  ok : GOk H p L
  fr : ∀ a ∈ p :: glA L, B a = none ∧ c.H0 a = none ∧ NoOwn σ μ a
theorem GInv.some_ {B0 : Hp} {ir : Nat} {p : Addr} {L : GL} (g : GInv K c B0 ir p L B σ H μ) : ∀ a ∈ p :: glA L, ∃ o, H a = some o := by
  intro a ha
  rcases List.mem_cons.mp ha with rfl | h
  · exact ⟨_, g.ok.d⟩
  · obtain ⟨e, he, rfl⟩ := List.mem_map.mp h
    exact ⟨_, g.ok.l e he⟩
theorem g_turn {tk : TE} {mk : M D} {B0 : Hp} {ir ip : Nat} {p : Addr} {L : GL} {pl k : Int} {μ' : MS} {E : Ends} (ok : OkE K tk mk) (g : GInv K c B0 ir p L B σ H μ) (hpl : σ[ip]? = some (some (.int pl))) (hm : mk μ = some (.int k, μ'))
    (h1 : L.length < sizeLine) (h2 : ∀ e ∈ L, e.2.2.length < sizeLine) (hN : ∀ B' H' L', Ext B B' → GInv K c B0 ir p L' B' σ H' μ' → glG L' = addG (glG L) k pl → E.nx σ H') :
    tDrop (tBM K "list" rAppend (tDSetd (tVar ir) tk (tLst tNil)) (tCons (tVar ip) tNil)) E σ H := by
  have hfr := g.fr
  have hsome := g.some_
  refine ⟨_, g.at_, p, rfl, .inl ⟨_, .inl g.ok.d⟩, ?_⟩
  refine ok (c.pinA H (p :: glA L)) B σ H μ _ μ' _ (g.rel.pinA hfr) hm fun B' H' v e' r' hv => ?_
  cases hv
  obtain ⟨r4, keep⟩ := r'.unpinA (fun a ha => ⟨hsome a ha, (hfr a ha).2.1, g.rel.r0.b0.none (hfr a ha).1, g.rel.r0.noSt (hfr a ha).2.1⟩)
  have hd : H' p = some (.dK (glK L)) := by rw [(keep p List.mem_cons_self).1]; exact g.ok.d
  have hl : ∀ e ∈ L, H' e.2.1 = some (.lst (e.2.2.map V.int)) := fun e he => by
    rw [(keep _ (List.mem_cons_of_mem _ (List.mem_map.mpr ⟨e, he, rfl⟩))).1]
    exact g.ok.l e he
  refine ⟨Nat.zero_le _, fun z hz => ?_⟩
  have nz : ∀ a ∈ p :: glA L, a ≠ z := fun a ha q => by
    obtain ⟨o, ho⟩ := hsome a ha
    rw [← (keep a ha).1, q, hz] at ho
    cases ho
  obtain ⟨z0, zb⟩ := r4.r0.fresh hz
  have rz := r4.hide (o := .lst []) hz
  have hdz : upd H' z (.lst []) p = some (.dK (glK L)) := by rw [upd_ne (nz p List.mem_cons_self)]; exact hd
  refine ⟨glK L, .inl k, hdz, rfl, by rw [show (glK L).length = L.length by simp [glK]]; exact h1, fun v hv => ?_, fun hv => ?_⟩
  · obtain ⟨a, xs, rfl, hmem, hgrow⟩ := at_key (x := pl) hv
    have hmemA : a ∈ glA L := List.mem_map.mpr ⟨_, hmem, rfl⟩
    have ha : upd H' z (.lst []) a = some (.lst (xs.map V.int)) := by
      rw [upd_ne (nz a (List.mem_cons_of_mem _ hmemA))]
      exact hl _ hmem
    refine ⟨.inl ⟨rfl, _, SqL.of ha⟩, .int pl, hpl, a, _, _, rfl, rfl, ha, by rw [List.length_map]; exact h2 _ hmem, ?_⟩
    obtain ⟨k1, k2, k3⟩ := keep a (List.mem_cons_of_mem _ hmemA)
    have c0 := (hfr a (List.mem_cons_of_mem _ hmemA)).2.1
    have hap : p ≠ a := fun q => g.ok.np (q ▸ hmemA)
    refine hN B' _ (growL L k pl) e' ⟨g.ext.trans e', rz.chg c0 k2 k3, g.at_, ⟨?_, fun e he => ?_, by rw [growL_as]; exact g.ok.np, by rw [growL_as]; exact g.ok.nd⟩, fun b hb => ?_⟩ (growL_g hv)
    · rw [upd_ne hap, growL_kvs]
      exact hdz
    · rcases hgrow e he with q | ⟨q1, q2⟩
      · rw [q, upd_same, List.map_append]
        rfl
      · rw [upd_ne (q2 g.ok.nd), upd_ne (nz _ (List.mem_cons_of_mem _ (List.mem_map.mpr ⟨e, q1, rfl⟩)))]
        exact hl e q1
    · rw [growL_as] at hb
      exact ⟨(keep b hb).2.1, (hfr b hb).2.1, (keep b hb).2.2⟩
  · have hpz : p ≠ z := nz p List.mem_cons_self
    have hzz : upd (upd H' z (.lst [])) p (.dK (putK (glK L) (.inl k) (.ref z))) z = some (.lst []) := by rw [upd_ne (Ne.symm hpz), upd_same]
    refine ⟨.inl ⟨rfl, _, SqL.of hzz⟩, .int pl, hpl, z, _, _, rfl, rfl, hzz, by decide, ?_⟩
    obtain ⟨k1, k2, k3⟩ := keep p List.mem_cons_self
    have c0 := (hfr p List.mem_cons_self).2.1
    have rp := rz.chg (o := .dK (putK (glK L) (.inl k) (.ref z))) c0 k2 k3
    have nzz : NoOwn σ μ' z := r4.noOwn hz
    have ras : glA (L ++ [(k, z, [pl])]) = glA L ++ [z] := by simp [glA]
    refine hN B' _ (L ++ [(k, z, [pl])]) e' ⟨g.ext.trans e', rp.chg z0 zb nzz, g.at_, ⟨?_, fun e he => ?_, ?_, ?_⟩, fun b hb => ?_⟩ (newL_g hv)
    · rw [upd_ne hpz, upd_same, put_new hv (xs := [pl])]
    · rcases List.mem_append.mp he with q | q
      · have m1 : e.2.1 ∈ glA L := List.mem_map.mpr ⟨e, q, rfl⟩
        have n1 := nz _ (List.mem_cons_of_mem _ m1)
        have n2 : e.2.1 ≠ p := fun q' => g.ok.np (q' ▸ m1)
        rw [upd_ne n1, upd_ne n2, upd_ne n1]
        exact hl e q
      · rw [List.mem_singleton] at q
        subst q
        rw [upd_same]
        rfl
    · rw [ras, List.mem_append, List.mem_singleton, not_or]
      exact ⟨g.ok.np, hpz⟩
    · rw [ras, List.nodup_append]
      refine ⟨g.ok.nd, by simp, fun x hx y hy => ?_⟩
      rw [List.mem_singleton] at hy
      subst hy
      exact nz x (List.mem_cons_of_mem _ hx)
    · rw [ras] at hb
      rcases List.mem_cons.mp hb with q | q
      · subst q
        exact ⟨k2, c0, k3⟩
      · rcases List.mem_append.mp q with q | q
        · have := keep b (List.mem_cons_of_mem _ q)
          exact ⟨this.2.1, (hfr b (List.mem_cons_of_mem _ q)).2.1, this.2.2⟩
        · rw [List.mem_singleton] at q
          subst q
          exact ⟨zb, z0, nzz⟩
end
section
variable {X : Cx} {iter key : Expr} {rn pn : Str} {tp np sp lp cp ap np2 cp2 ep pos : Pos} {m : M (List D)} {mk : M D} {ir ip : Nat}
theorem groupF_step {d : D} {ds : List D} {g gF : Grp} {μ μF : MS} (h : groupF ip mk (d :: ds) g μ = some (gF, μF)) : ∃ pl k μ', d = .int pl ∧ mk (setS μ ip (.val (.int pl))) = some (.int k, μ') ∧ g.length < 1000000 ∧ (∀ e ∈ g, e.2.length < 1000000) ∧ groupF ip mk ds (addG g k pl) μ' = some (gF, μF) := by
  cases d <;> try (simp [groupF] at h; done)
  rename_i pl
  unfold groupF at h
  rw [Option.bind_eq_some_iff] at h
  obtain ⟨⟨q, μ'⟩, h1, h2⟩ := h
  simp only at h2
  split at h2
  · rename_i k
    split at h2
    · rename_i hl
      exact ⟨pl, k, μ', rfl, h1, hl.1, hl.2, h2⟩
    · cases h2
  · cases h2
end
end Mi
/-! Mi, nineteenth part: the rules for a dict of lists of ints. -/
namespace Mi
open PySem PySem.Spec PyProof.Rows L2
section
variable {X : Cx} {iter key : Expr} {rn pn : Str} {tp np sp lp cp ap np2 cp2 ep pos : Pos} {m : M (List D)} {mk : M D}
theorem s_group (ir ip : Nat) (hp : PassesOwn (model X.prog X.w) X.A X.env X.xe) (hc : X.calm = true) (hN : X.N.Nodup) (hi : DI X (.Name pn tp) iter m) (hk : DE X key mk)
    (hir : X.N[ir]? = some rn := by rfl) (hvr : Vis X.env.scope rn := by first | exact Or.inl rfl | exact Or.inr (Or.inl rfl) | exact Or.inr (Or.inr rfl)) (hdr : (rn == ("__debug__" : Str)) = false := by decide) (hcr : (rn == ("__classdict__" : Str)) = false := by decide)
    (hip : X.N[ip]? = some pn := by rfl) (hxp : Loc X.env.scope pn := by first | exact Or.inl rfl | exact Or.inr rfl) (hdp : (pn == ("__debug__" : Str)) = false := by decide) (hcp : (pn == ("__classdict__" : Str)) = false := by decide)
    (hfp : X.fn pn = true ∨ X.env.scope.names.lookup pn = some .local := by first | exact .inl rfl | exact .inr rfl)
    (hm2 : M2 X (.Name rn np) "setdefault" sp key (.List [] lp) cp := by exact ⟨rfl, rfl, rfl, rfl⟩)
    (hbase : attributeBase (.Call (.Attribute (.Name rn np) "setdefault" sp) [key, .List [] lp] [] cp) "append" X.env (eval (.Call (.Attribute (.Name rn np) "setdefault" sp) [key, .List [] lp] [] cp) X.env) = eval (.Call (.Attribute (.Name rn np) "setdefault" sp) [key, .List [] lp] [] cp) X.env := by rfl)
    (hfew : ((backTo cp2 (starEach [.Name pn np2] X.env)).all (fun x => !x.1) && (backToKw cp2 (keywordEach [] X.env)).all (fun x => x.1.isSome) && decide (([.Name pn np2] : List Expr).length + ([] : List Keyword).length + (if ([] : List Keyword).isEmpty then 0 else 1) < 30)) = true := by rfl)
    (hline : (ap.endLine == cp2.line) = true := by rfl) (hst : starEach [.Name pn np2] X.env = (false, eval (.Name pn np2) X.env) :: starEach [] X.env := by rfl) (hpl : (backTo cp2 (starEach [] X.env)).any (·.1) = false := by rfl)
    (hsw : swapsWith (.Call (.Attribute (.Call (.Attribute (.Name rn np) "setdefault" sp) [key, .List [] lp] [] cp) "append" ap) [.Name pn np2] [] cp2) none ep.line X.env = pure false := by rfl)
    (hs : ∀ x, foldedSetIterable iter X.env x = pure x := by intro _; rfl) :
    DS X (.For (.Name pn tp) iter [.Expr (.Call (.Attribute (.Call (.Attribute (.Name rn np) "setdefault" sp) [key, .List [] lp] [] cp) "append" ap) [.Name pn np2] [] cp2) ep] [] pos) (sGroup ir ip m mk) := by
  obtain ⟨w, pw, ow⟩ := hi.ex
  obtain ⟨tk, pk, ok⟩ := hk.ex
  have pvr : PE X (.Name rn np) (tVar ir) := pv ir hir hvr hdr hcr
  have pvp : PE X (.Name pn np2) (tVar ip) := pv ip hip (by rcases hxp with h | h; exact .inl h; exact .inr (.inl h)) hdp hcp
  have pb := pss_one (ps_expr (pe_bm PySem.F.plainAttrs_list PySem.F.slot_list_append PySem.F.type_list_append mt_append (pe_dsetd pvr pk (pe_lst pa_nil) hm2) (pa_cons pvp pa_nil hst) hbase hfew hline hst hpl) hsw)
  refine ⟨_, ps_for hp hc pw (pg_name (i := ip) hN hip hxp hfp) pb hs, fun c B σ H μ E r a => ?_⟩
  unfold sGroup at a
  split at a
  · rename_i ds μ1 hm
    split at a
    · rename_i hsl
      split at a
      · exact a.elim
      · rename_i hne0
        obtain ⟨hne, hle⟩ : ir ≠ ip ∧ ip < μ1.sl.length := by
          rw [not_or] at hne0
          exact ⟨hne0.1, by omega⟩
        split at a
        · rename_i gF μF hg
          refine ow c B σ H μ ds μ1 _ r hm fun B1 H1 J e1 r1 wk => ?_
          obtain ⟨p, ho, s1, s2, s3, s4, s5, r2, no⟩ := r1.hideOw hsl
          obtain ⟨kv0, rfl, rk⟩ : ∃ kvs, ho = .dK kvs ∧ RpK X.K c.st B1 (kvs.map fun q => (kkD q.1, q.2)) [] := by
            unfold ObR at s5
            split at s5
            · rename_i e; cases e
            · rename_i e; cases e
            · rename_i e; cases e; exact ⟨_, rfl, s5⟩
            · exact s5.elim
          have hk0 : kv0 = [] := by
            cases kv0 with
            | nil => rfl
            | cons q qs => cases rk
          subst hk0
          have g0 : GInv X.K c B1 ir p [] B1 σ H1 (setS μ1 ir .un) := ⟨Ext.refl _, r2, s1, ⟨s2, (fun e h => by cases h), (by simp [glA]), by simp [glA]⟩, fun b hb => by
            rw [show p :: glA ([] : GL) = [p] from rfl, List.mem_singleton] at hb
            subst hb
            exact ⟨s3, s4, no⟩⟩
          refine ⟨fun i n σ' H' => n = ds.length - i ∧ i ≤ ds.length ∧ ip < σ'.length ∧ ∃ B' μ2 L, GInv X.K c B1 ir p L B' σ' H' μ2 ∧ groupF ip mk (ds.drop i) (glG L) μ2 = some (gF, μF), ⟨ds.length, by simp, Nat.zero_le _, by rw [r1.len]; exact hle, B1, _, [], g0, by rw [List.drop_zero]; exact hg⟩, ?_⟩
          rintro i n σ2 H2 ⟨rfl, hi2, hipl, B2, μ2, L, g, hgr⟩
          have hfr := g.fr
          have hsome := g.some_
          by_cases hlt : i < ds.length
          · obtain ⟨d, hd⟩ : ∃ d, ds[i]? = some d := ⟨ds[i], by simp [hlt]⟩
            have hdr' : ds.drop i = d :: ds.drop (i + 1) := by
              rw [List.drop_eq_getElem_cons hlt]
              congr 1
              simpa [hlt] using hd
            rw [hdr'] at hgr
            obtain ⟨pl, k, μ', rfl, hmk, hl1, hl2, hgr'⟩ := groupF_step hgr
            -- the walk with what is ours pinned
            obtain ⟨w1, w2⟩ := wk (c.pinA H2 (p :: glA L)) B2 σ2 H2 μ2 rfl g.ext (g.rel.pinA hfr)
            obtain ⟨go, yl⟩ := w1 i _ hd
            refine .inr ⟨go, fun σ' H' => i + 1 ≤ ds.length ∧ ip < σ'.length ∧ ∃ B' μ2 L, GInv X.K c B1 ir p L B' σ' H' μ2 ∧ groupF ip mk (ds.drop (i + 1)) (glG L) μ2 = some (gF, μF), fun σ' H' h => ⟨ds.length - (i + 1), by omega, rfl, h.1, h.2.1, h.2.2⟩, fun x H' hy => ?_⟩
            obtain ⟨B3, e3, r3, hx⟩ := yl x H' hy
            cases hx
            obtain ⟨r4, keep⟩ := r3.unpinA (fun b hb => ⟨hsome b hb, (hfr b hb).2.1, g.rel.r0.b0.none (hfr b hb).1, g.rel.r0.noSt (hfr b hb).2.1⟩)
            have r5 := r4.putV (i := ip) (v := .int pl) (d := .int pl) (.int pl)
            have g5 : GInv X.K c B1 ir p L B3 (σ2.set ip (some (.int pl))) H' (setS μ2 ip (.val (.int pl))) := ⟨g.ext.trans e3, r5, by rw [List.getElem?_set_ne (fun z => hne z.symm)]; exact g.at_, ⟨by rw [(keep p List.mem_cons_self).1]; exact g.ok.d, fun e he => by
              rw [(keep _ (List.mem_cons_of_mem _ (List.mem_map.mpr ⟨e, he, rfl⟩))).1]
              exact g.ok.l e he, g.ok.np, g.ok.nd⟩, fun b hb => ⟨(keep b hb).2.1, (hfr b hb).2.1, noOwn_put (keep b hb).2.2⟩⟩
            show tDrop _ _ _ _
            refine g_turn ok g5 (by rw [List.getElem?_set_self hipl]) hmk ?_ ?_ fun B' H'' L' e' g' hL' => ?_
            · rw [sizeLine_eq]
              simp [glG] at hl1
              omega
            · intro e he
              rw [sizeLine_eq]
              have := hl2 (e.1, e.2.2) (List.mem_map.mpr ⟨e, he, rfl⟩)
              simp only at this
              omega
            · exact ⟨hlt, by rw [List.length_set]; exact hipl, B', μ', L', g', by rw [hL']; exact hgr'⟩
          · have hi3 : i = ds.length := by omega
            subst hi3
            rw [List.drop_length] at hgr
            unfold groupF at hgr
            cases hgr
            obtain ⟨w1, w2⟩ := wk c B2 σ2 H2 μF rfl g.ext g.rel
            refine .inl ⟨w2, ?_⟩
            obtain ⟨B3, e3, r3, f3, _⟩ := g.rel.freezeL (p :: glA L) (List.nodup_cons.mpr ⟨g.ok.np, g.ok.nd⟩) fun b hb => ⟨hsome b hb, (hfr b hb).1, (hfr b hb).2.1, (hfr b hb).2.2⟩
            have rp : Rp X.K c.st B3 (.ref p) (grD (glG L)) := grp_rp (by rw [f3 p List.mem_cons_self]; exact g.ok.d) fun e he => by
              rw [f3 _ (List.mem_cons_of_mem _ (List.mem_map.mpr ⟨e, he, rfl⟩))]
              exact g.ok.l e he
            exact a B3 σ2 H2 ((e1.trans g.ext).trans e3) (r3.same (fun _ => ⟨_, g.at_, rp⟩) fun _ z => by cases z)
        · exact a.elim
    · exact a.elim
  · exact a.elim
end
end Mi
/-! Mi, twentieth part: {} and get(k, []). -/
namespace Mi
open PySem PySem.Spec PyProof.Rows L2
def sNewK (i : Nat) : MT := fun μ => .nx (setS μ i (.ow (.d false [])))
def lookI (ks : List (D × D)) (k : Int) : Option D := (ks.find? fun q => match q.1 with | .int i => decide (i = k) | _ => false).map (·.2)
theorem lookI_rp {K : PySem.W.Frag} {st : Option (Addr × Addr)} {B : Hp} {k : Int} : ∀ {kvs : List (Key × V)} {ks : List (D × D)}, RpK K st B (kvs.map fun q => (kkD q.1, q.2)) ks →
    (∀ d, lookI ks k = some d → ∃ v, valV kvs (.inl k) = some v ∧ Rp K st B v d) ∧ (lookI ks k = none → valV kvs (.inl k) = none)
  | [], _, h => by
    cases h
    exact ⟨(fun d h => by cases h), fun _ => rfl⟩
  | (kk, v) :: kvs, _, h => by
    cases h with
    | @cons _ d _ _ ks h1 h2 =>
      obtain ⟨i1, i2⟩ := lookI_rp (k := k) h2
      have e1 : lookI ((kkD kk, d) :: ks) k = if kk = .inl k then some d else lookI ks k := by
        unfold lookI
        rw [List.find?_cons]
        cases kk with
        | inl i =>
          by_cases hi : i = k
          · simp [kkD, hi]
          · simp [kkD, hi]
        | inr x => simp [kkD]
      have e2 : valV ((kk, v) :: kvs) (.inl k) = if kk = .inl k then some v else valV kvs (.inl k) := by
        unfold valV
        rw [List.find?_cons]
        by_cases hi : kk = .inl k <;> simp [hi]
      show (∀ d', lookI ((kkD kk, d) :: ks) k = some d' → _) ∧ (lookI ((kkD kk, d) :: ks) k = none → _)
      rw [e1, e2]
      split
      · exact ⟨(fun d' hd => by cases hd; exact ⟨v, rfl, h1⟩), (fun h => by cases h)⟩
      · exact ⟨i1, i2⟩
/-- rows.get(key, []) -/
def mGet (mo : M O) (me : M D) (mf : M (List D)) : M D := fun μ => (mo μ).bind fun a => match look a.1 a.2 with
  | some (.dict ((.bool false, .none) :: _)) => (me a.2).bind fun b => (mf b.2).bind fun f => match look a.1 f.2, b.1 with
    | some (.dict ((.bool false, .none) :: ks)), .int k => some ((lookI ks k).getD (.list f.1), f.2)
    | _, _ => none
  | _ => none
section
variable {X : Cx} {o e f : Expr} {ap cp : Pos} {mo : M O} {me : M D} {mf : M (List D)}
theorem s_newK {i : Nat} {x : Str} {dp p pos : Pos} (hN : X.N.Nodup) (hi : X.N[i]? = some x := by rfl) (hx : Loc X.env.scope x := by first | exact Or.inl rfl | exact Or.inr rfl) (hs : swapsWith (.Dict [] [] dp) (some (.Name x p)) pos.line X.env = pure false := by rfl)
    (hf : X.fn x = true ∨ X.env.scope.names.lookup x = some .local := by first | exact .inl rfl | exact .inr rfl | assumption) : DS X (.Assign [.Name x p] (.Dict [] [] dp) pos) (sNewK i) := by
  refine ⟨_, ps_set (i := i) hN hi hx pe_dnewK hs hf, fun c B σ H μ E r a => ?_⟩
  intro q hq
  obtain ⟨f0, fb⟩ := r.r0.fresh hq
  exact a B _ _ (Ext.refl _) ((r.hide hq).putOw upd_same fb f0 (by show RpK X.K c.st B [] []; exact .nil) (r.noOwn hq))
theorem isD_of {K : PySem.W.Frag} {st : Option (Addr × Addr)} {B H : Hp} {x : V} {ks : List (D × D)} (h : Lk K st B H x (.dict ((.bool false, .none) :: ks))) (e : Ext B H) : ∃ p kvs, x = .ref p ∧ H p = some (.dK kvs) ∧ RpK K st B (kvs.map fun q => (kkD q.1, q.2)) ks := by
  obtain ⟨p, ho, rfl, h1, h2⟩ := h.dict e
  unfold ObR at h2
  split at h2
  · rename_i e; cases e
  · rename_i e; cases e
  · rename_i e; cases e; exact ⟨p, _, rfl, h1, h2⟩
  · exact h2.elim
theorem e_get2 (hu : X.A.units + 1 < cLine) (ho : DO X o mo) (he : DE X e me) (hf : DF X f mf) (m : M2 X o "get" ap e f cp := by exact ⟨rfl, rfl, rfl, rfl⟩) : DE X (.Call (.Attribute o "get" ap) [e, f] [] cp) (mGet mo me mf) := by
  obtain ⟨to, po, oo⟩ := ho.ex
  obtain ⟨te, pe, oe⟩ := he.ex
  obtain ⟨tf, pf, of⟩ := hf.ex
  refine ⟨_, pe_dget2 hu po pe pf m, fun c B σ H μ d μ' Q rel hm k => ?_⟩
  unfold mGet at hm
  rw [Option.bind_eq_some_iff] at hm
  obtain ⟨⟨o1, μ1⟩, h1, hm⟩ := hm
  simp only at hm
  split at hm
  · rename_i ks0 hl1
    rw [Option.bind_eq_some_iff] at hm
    obtain ⟨⟨kd, μ2⟩, h2, hm⟩ := hm
    rw [Option.bind_eq_some_iff] at hm
    obtain ⟨⟨ds, μ3⟩, h3, hm⟩ := hm
    simp only at hm
    split at hm
    · rename_i ks kk hl3
      cases hm
      refine oo c B σ H μ o1 μ1 _ rel h1 fun B1 H1 x e1 r1 x1 => ?_
      obtain ⟨p, kvs0, rfl, q1, _⟩ := isD_of (look_ok r1 x1 hl1) r1.r0.ext
      refine ⟨p, rfl, .inl ⟨_, .inl q1⟩, oe c B1 σ H1 μ1 _ μ2 _ r1 h2 fun B2 H2 y e2 r2 y2 => ?_⟩
      cases y2
      refine of c B2 σ H2 μ2 ds _ _ r2 h3 fun B3 H3 z vs e3 r3 z1 z2 z3 z4 z5 => ?_
      obtain ⟨p', kvs, hp', q3, q4⟩ := isD_of (look_ok r3 ((x1.mono e2).mono e3) hl3) r3.r0.ext
      cases hp'
      obtain ⟨l1, l2⟩ := lookI_rp (k := kk) q4
      refine ⟨valV kvs (.inl kk), .inl ⟨kvs, .inl kk, .inl q3, rfl, rfl⟩, ?_⟩
      cases hlk : lookI ks kk with
      | some d' =>
        rw [hlk] at k
        obtain ⟨v, hv, hr⟩ := l1 d' hlk
        rw [hv]
        exact k B3 H3 v ((e1.trans e2).trans e3) r3 hr
      | none =>
        rw [hlk] at k
        rw [l2 hlk]
        have ex := Ext.new (o := HO.lst vs) z2
        exact k (upd B3 z (.lst vs)) H3 (.ref z) (((e1.trans e2).trans e3).trans ex) (r3.freeze z1 z3 z2 z4) (.lst upd_same (RpA.mono ex _ _ z5))
    · cases hm
  · cases hm
end
end Mi
/-! Mi, twenty-first part: what a dict of lists, list(range(n)), come to. -/
namespace Mi
open PySem PySem.Spec PyProof.Rows L2
section
variable {N : MS → Prop} {R : D → Dr → Prop} {Bk Ct : MS → Prop} {μ : MS}
theorem w0_newK {i : Nat} : W0 (sNewK i μ) N R Bk Ct = N (setS μ i (.ow (.d false []))) := rfl
@[simp ↓] theorem w_newK {i : Nat} : @Eq Prop (W (sNewK i μ) N R Bk Ct) (WS (setS μ i (.ow (.d false []))) N) := by with_unfolding_all exact w0_newK
theorem wm0_rg {ma : M O} {Q : List D → MS → Prop} : WM0 (mRg ma μ) Q = WM0 (ma μ) fun o1 μ1 => WO0 (look o1 μ1) fun d => WO0 (rgD d) fun z => Q z μ1 := by
  unfold mRg
  cases ma μ with
  | none => rfl
  | some p =>
    obtain ⟨o, μ1⟩ := p
    simp only [Option.bind_some]
    show _ = WO0 (look o μ1) _
    cases look o μ1 with
    | none => rfl
    | some d =>
      simp only [Option.bind_some]
      show _ = WO0 (rgD d) _
      cases rgD d <;> rfl
@[simp ↓] theorem wm_rg {ma : M O} {Q : List D → MS → Prop} : @Eq Prop (WM (mRg ma μ) Q) (WM (ma μ) fun o1 μ1 => WO (look o1 μ1) fun d => WO (rgD d) fun z => Q z μ1) := by with_unfolding_all exact wm0_rg
theorem W_of_nx {r : SR} {μ' : MS} (h : r = .nx μ') (q : Go (N μ')) : Go (W r N R Bk Ct) := by
  subst h
  simp -dsimp
  exact q
theorem WM_of {α : Type} {o : Option (α × MS)} {a : α} {μ' : MS} {Q : α → MS → Prop} (h : o = some (a, μ')) (q : Go (Q a μ')) : Go (WM o Q) := by
  subst h
  simp -dsimp
  exact q
end
theorem mGet_of {i j : Nat} {l : List Sl} {dr : Dr} {ks : List (D × D)} {k : Int} (hi : l[i]? = some (.val (.dict ((.bool false, .none) :: ks)))) (hj : l[j]? = some (.val (.int k))) (hs : l.set j (.val (.int k)) = l) :
    mGet (oName i) (mVar j) (mLst (mDs [])) ⟨l, dr⟩ = some ((lookI ks k).getD (.list []), ⟨l, dr⟩) := by
  have h1 : oName i ⟨l, dr⟩ = some (.s i, ⟨l, dr⟩) := by
    unfold oName look
    simp only [hi, Option.bind_some]
  have h2 : look (.s i) ⟨l, dr⟩ = some (.dict ((.bool false, .none) :: ks)) := by
    unfold look
    simp only [hi]
  have h3 : mVar j ⟨l, dr⟩ = some (.int k, ⟨l, dr⟩) := by
    have hv : Go (WM (mVar j ⟨l, dr⟩) fun d μ => d = .int k ∧ μ = ⟨l, dr⟩) := by
      simp -dsimp [hj]
      exact hs
    cases h : mVar j ⟨l, dr⟩ with
    | none => rw [h] at hv; simp -dsimp at hv
    | some q =>
      rw [h] at hv
      obtain ⟨d, μ⟩ := q
      simp -dsimp at hv
      obtain ⟨rfl, rfl⟩ := un_go hv
      rfl
  have h4 : mLst (mDs []) ⟨l, dr⟩ = some ([], ⟨l, dr⟩) := rfl
  unfold mGet
  rw [h1, Option.bind_some]
  simp only [h2, h3, h4, Option.bind_some]
/-! ### the groups -/
def lkG (g : Grp) (k : Int) : List Int := ((g.find? fun e => decide (e.1 = k)).map (·.2)).getD []
theorem lkG_add {k k' x : Int} : ∀ {g : Grp}, lkG (addG g k x) k' = if k = k' then lkG g k' ++ [x] else lkG g k'
  | [] => by
    unfold lkG addG
    by_cases h : k = k' <;> simp [h]
  | (a, xs) :: g => by
    unfold addG
    by_cases h : a = k
    · rw [if_pos h]
      subst h
      unfold lkG
      by_cases h2 : a = k' <;> simp [h2]
    · rw [if_neg h]
      by_cases h2 : a = k'
      · subst h2
        have : ¬ k = a := fun z => h z.symm
        unfold lkG
        simp [this]
      · have e1 : ∀ r : Grp, lkG ((a, xs) :: r) k' = lkG r k' := fun r => by unfold lkG; simp [h2]
        rw [e1, e1]
        exact lkG_add
def gfold (key : Int → Int) (pls : List Int) (g : Grp) : Grp := pls.foldl (fun g p => addG g (key p) p) g
theorem lkG_fold {key : Int → Int} {k : Int} : ∀ {pls : List Int} {g : Grp}, lkG (gfold key pls g) k = lkG g k ++ pls.filter fun p => decide (key p = k)
  | [], g => by simp [gfold]
  | p :: pls, g => by
    show lkG (gfold key pls (addG g (key p) p)) k = _
    rw [lkG_fold, lkG_add]
    by_cases h : key p = k
    · simp [h]
    · simp [h]
theorem lookI_gr {k : Int} : ∀ {g : Grp}, (lookI (g.map fun p => (PyData.int p.1, PyData.list (p.2.map .int))) k).getD (.list []) = .list ((lkG g k).map .int)
  | [] => rfl
  | (a, xs) :: g => by
    by_cases h : a = k
    · subst h
      unfold lookI lkG
      simp
    · have e1 : lookI (((a, xs) :: g).map fun p => (PyData.int p.1, PyData.list (p.2.map .int))) k = lookI (g.map fun p => (PyData.int p.1, PyData.list (p.2.map .int))) k := by
        unfold lookI
        simp [h]
      have e2 : lkG ((a, xs) :: g) k = lkG g k := by unfold lkG; simp [h]
      rw [e1, e2]
      exact lookI_gr
/-- how great the groups are -/
theorem addG_len {k x : Int} : ∀ {g : Grp}, (addG g k x).length ≤ g.length + 1
  | [] => by simp [addG]
  | (a, xs) :: g => by
    unfold addG
    split
    · simp
    · have := addG_len (k := k) (x := x) (g := g)
      simp only [List.length_cons]
      omega
theorem addG_each {k x : Int} {m : Nat} : ∀ {g : Grp}, (∀ e ∈ g, e.2.length ≤ m) → ∀ e ∈ addG g k x, e.2.length ≤ m + 1
  | [], _, e, he => by
    simp only [addG, List.mem_singleton] at he
    subst he
    simp
  | (a, xs) :: g, h, e, he => by
    unfold addG at he
    split at he
    · rcases List.mem_cons.mp he with z | z
      · subst z
        have := h (a, xs) List.mem_cons_self
        simp at this ⊢
        omega
      · have := h e (List.mem_cons_of_mem _ z)
        omega
    · rcases List.mem_cons.mp he with z | z
      · subst z
        have := h (a, xs) List.mem_cons_self
        omega
      · exact addG_each (fun e he => h e (List.mem_cons_of_mem _ he)) e z
theorem groupF_ev {ip : Nat} {mk : M D} {key : Int → Int} {l : List Sl} {dr : Dr} : ∀ (pls : List Int) (g : Grp) (s6 : Sl) (m : Nat), (∀ p ∈ pls, ∀ s6 : Sl, mk ⟨(l.set ip s6).set ip (.val (.int p)), dr⟩ = some (.int (key p), ⟨(l.set ip s6).set ip (.val (.int p)), dr⟩)) →
    g.length ≤ m → (∀ e ∈ g, e.2.length ≤ m) → m + pls.length < 1000000 → ∃ s6', groupF ip mk (pls.map .int) g ⟨l.set ip s6, dr⟩ = some (gfold key pls g, ⟨l.set ip s6', dr⟩)
  | [], g, s6, m, _, _, _, _ => ⟨s6, rfl⟩
  | p :: pls, g, s6, m, hk, h1, h2, h3 => by
    simp only [List.length_cons] at h3
    have e1 := hk p List.mem_cons_self s6
    have hset : (l.set ip s6).set ip (.val (.int p)) = l.set ip (.val (.int p)) := List.set_set ..
    rw [hset] at e1
    obtain ⟨s6', e2⟩ := groupF_ev pls (addG g (key p) p) (.val (.int p)) (m + 1) (fun q hq => hk q (List.mem_cons_of_mem _ hq)) (by have := addG_len (k := key p) (x := p) (g := g); omega) (addG_each h2) (by omega)
    refine ⟨s6', ?_⟩
    rw [List.map_cons]
    unfold groupF
    rw [show setS ⟨l.set ip s6, dr⟩ ip (.val (.int p)) = ⟨l.set ip (.val (.int p)), dr⟩ by unfold setS; rw [List.set_set], e1, Option.bind_some]
    simp only
    rw [if_pos ⟨by omega, fun e he => by have := h2 e he; omega⟩]
    exact e2
theorem sGroup_ev {ir ip : Nat} {m : M (List D)} {mk : M D} {key : Int → Int} {l : List Sl} {dr : Dr} {pls : List Int} {s0 : Sl} (hm : m ⟨l, dr⟩ = some (pls.map .int, ⟨l, dr⟩)) (hs : l[ir]? = some (.ow (.d false []))) (hne : ir ≠ ip) (hle : ip < l.length) (hl : pls.length < 900000)
    (h0 : (l.set ir .un).set ip s0 = l.set ir .un)
    (hk : ∀ p ∈ pls, ∀ s6 : Sl, mk ⟨((l.set ir .un).set ip s6).set ip (.val (.int p)), dr⟩ = some (.int (key p), ⟨((l.set ir .un).set ip s6).set ip (.val (.int p)), dr⟩)) :
    ∃ s6, sGroup ir ip m mk ⟨l, dr⟩ = .nx ⟨((l.set ir .un).set ip s6).set ir (.val (grD (gfold key pls []))), dr⟩ := by
  obtain ⟨s6, h⟩ := groupF_ev pls [] s0 0 hk (Nat.le_refl _) (fun e he => by cases he) (by omega)
  rw [h0] at h
  refine ⟨s6, ?_⟩
  unfold sGroup
  rw [hm]
  simp only [hs]
  rw [if_neg (by rw [not_or]; exact ⟨hne, by omega⟩), show setS ⟨l, dr⟩ ir .un = ⟨l.set ir .un, dr⟩ from rfl, h]
  rfl
end Mi
namespace Wk
open PySem PySem.Spec PyProof.Rows L2 Mi
def topS (i : Nat) : Stmt := PySem.Challenge.pw_plaintraining_k20_rows_drawn.main.body.getD i (.Pass ⟨0, 0, 0, 0⟩)
def d_MIX_MODULUS : D := (.int (2305843009213693951))
def d_ROUNDS : D := (.int (4))
structure T (K : PySem.W.Frag) (mg : Str → Option Value) (a : Nat → Addr) (d : Nat → FuncData) : Prop where
  z_abs : mg "abs" = none
  z_all : mg "all" = none
  z_int : mg "int" = none
  z_len : mg "len" = none
  z_list : mg "list" = none
  z_range : mg "range" = none
  z_sorted : mg "sorted" = none
  F2 : Fun K "mixed_row" "mixed_row" (topS 2) (a 2) (d 2)
  m2 : mg "mixed_row" = some (.ref (a 2))
  b2 : Binds K (d 2) ["row", "modulus"] []
  F5 : Fun K "side_of" "side_of" (topS 5) (a 5) (d 5)
  m5 : mg "side_of" = some (.ref (a 5))
  b5 : Binds K (d 5) ["n"] []
  F6 : Fun K "stirred" "stirred" (topS 6) (a 6) (d 6)
  m6 : mg "stirred" = some (.ref (a 6))
  b6 : Binds K (d 6) ["key", "side", "x"] []
  F7 : Fun K "stirred_back" "stirred_back" (topS 7) (a 7) (d 7)
  m7 : mg "stirred_back" = some (.ref (a 7))
  b7 : Binds K (d 7) ["key", "side", "x"] []
  F8 : Fun K "shuffled" "shuffled" (topS 8) (a 8) (d 8)
  m8 : mg "shuffled" = some (.ref (a 8))
  b8 : Binds K (d 8) ["seed", "epoch", "n", "index"] []
  F9 : Fun K "unshuffled" "unshuffled" (topS 9) (a 9) (d 9)
  m9 : mg "unshuffled" = some (.ref (a 9))
  b9 : Binds K (d 9) ["seed", "epoch", "n", "row"] []
  F10 : Fun K "row_at" "row_at" (topS 10) (a 10) (d 10)
  m10 : mg "row_at" = some (.ref (a 10))
  b10 : Binds K (d 10) ["seed", "n", "place"] []
  F11 : Fun K "places_of_row" "places_of_row" (topS 11) (a 11) (d 11)
  m11 : mg "places_of_row" = some (.ref (a 11))
  b11 : Binds K (d 11) ["seed", "n", "row", "first", "behind"] []
  F13 : Fun K "_law_state" "_law_state" (topS 13) (a 13) (d 13)
  m13 : mg "_law_state" = some (.ref (a 13))
  b13 : Binds K (d 13) ["script"] []
  F14 : Fun K "_law_draw" "_law_draw" (topS 14) (a 14) (d 14)
  m14 : mg "_law_draw" = some (.ref (a 14))
  b14 : Binds K (d 14) ["state", "many"] []
  F15 : Fun K "_law_mix" "_law_mix" (topS 15) (a 15) (d 15)
  m15 : mg "_law_mix" = some (.ref (a 15))
  b15 : Binds K (d 15) ["row"] []
  F16 : Fun K "_law_walk" "_law_walk" (topS 16) (a 16) (d 16)
  m16 : mg "_law_walk" = some (.ref (a 16))
  b16 : Binds K (d 16) ["seed", "epoch", "n", "x"] []
  F17 : Fun K "_law_seed" "_law_seed" (topS 17) (a 17) (d 17)
  m17 : mg "_law_seed" = some (.ref (a 17))
  b17 : Binds K (d 17) ["state"] []
  F18 : Fun K "_law_epoch" "_law_epoch" (topS 18) (a 18) (d 18)
  m18 : mg "_law_epoch" = some (.ref (a 18))
  b18 : Binds K (d 18) ["state"] []
  F19 : Fun K "_law_places" "_law_places" (topS 19) (a 19) (d 19)
  m19 : mg "_law_places" = some (.ref (a 19))
  b19 : Binds K (d 19) ["state"] []
  F20 : Fun K "_law_large" "_law_large" (topS 20) (a 20) (d 20)
  m20 : mg "_law_large" = some (.ref (a 20))
  b20 : Binds K (d 20) ["state"] []
  F21 : Fun K "law" "law" (topS 21) (a 21) (d 21)
  m21 : mg "law" = some (.ref (a 21))
  b21 : Binds K (d 21) ["script"] []
  k_MIX_MODULUS : ∃ (u : Value) (v : V), mg "MIX_MODULUS" = some u ∧ RelV v u ∧ ∀ st B, Rp K st B v d_MIX_MODULUS
  k_ROUNDS : ∃ (u : Value) (v : V), mg "ROUNDS" = some u ∧ RelV v u ∧ ∀ st B, Rp K st B v d_ROUNDS
section
variable {P : Program} {w : World} {K : PySem.W.Frag} {mg : Str → Option Value} {base : Heap} {a : Nat → Addr} {d : Nat → FuncData}
/-! ### the draws, by hand -/
abbrev m_law_draw : FM := drawF
theorem sc_law_state : FnScope ["script", "seed", "cell"] ["script"] (defScope (topS 13)) := ⟨rfl, rfl, rfl, by decide +kernel, rfl, by decide +kernel, by decide +kernel⟩
theorem seed_bd : ∀ (ns : List Int) (z : Int), 0 ≤ z ∧ z < 1000003 → 0 ≤ ns.foldl (fun s c => (s * 31 + c) % 1000003) z ∧ ns.foldl (fun s c => (s * 31 + c) % 1000003) z < 1000003
  | [], z, h => h
  | n :: ns, z, h => seed_bd ns ((z * 31 + n) % 1000003) ⟨by omega, by omega⟩
theorem ok_law_state (T : T K mg a d) : FnOk P w K mg base CX0 1 (a 13) (d 13) ["script"] (spState K) := by
  have nd := sc_law_state.nd
  refine T.F13.ok sc_law_state (fun vs H Q E h => ?_) (fun cdv A outer s H vs Q E hr h => ?_)
  · obtain ⟨aa, ns, rfl, _⟩ := h
    rfl
  · obtain ⟨aa, ns, rfl, hS, hlen, k⟩ := h
    refine ⟨_, pss_cons (ps_set (i := 1) nd rfl (Or.inl rfl) pe_int)
      (pss_cons (ps_for PassesOwn.never rfl (pi_list (pv 0)) (pg_name (i := 2) nd rfl (Or.inl rfl))
        (pss_one (ps_set (i := 1) nd rfl (Or.inl rfl) (pe_op op_mod (pe_callTy call_int1 (by rfl) T.z_int (by decide +kernel) (pa_cons (pe_op op_add (pe_op op_mul (pv 1) pe_int) (pv 2)) pa_nil)) pe_int))))
      (pss_one (ps_ret (pe_lst (pa_cons (pe_lc (own := [("cell", 2)]) (g := gName 2) (tt := tYes) rfl nd (pi_list (pv 0)) (blkOk_by (N := ["script", "seed", "cell"]) (sc := defScope (topS 13)) (by decide +kernel)) (fun _ _ _ _ _ => pg_name (i := 2) nd rfl (Or.inl rfl)) (fun _ _ _ _ _ => pts_nil)
        (fun _ _ _ _ _ => pe_callB call_abs (by rfl) T.z_abs (by decide +kernel) (pa_cons (pv 2) pa_nil))) (pa_cons (pe_op op_add (pv 1) pe_int) pa_nil)))))), ?_⟩
    refine ⟨_, rfl, aa, rfl, ⟨_, hS⟩, for_list (K := K) (a := aa) (xs := ns.map V.int) (fun i σ H' => ∃ v, σ = [some (.ref aa), some (.int ((ns.take i).foldl (fun s c => (s * 31 + c) % 1000003) 7)), v] ∧ H' = H) ⟨none, rfl, rfl⟩ (fun i σ H' _ ⟨_, _, e⟩ => by rw [e]; exact hS) ?_ ?_⟩
    · rintro i y σ H' hi ⟨v, rfl, rfl⟩
      rw [List.getElem?_map] at hi
      obtain ⟨n, hn, rfl⟩ := Option.map_eq_some_iff.mp hi
      have hb := seed_bd (ns.take i) 7 (by decide)
      refine ⟨_, rfl, _, _, rfl, rfl, .inl ⟨by omega, by omega⟩, _, rfl, _, _, rfl, rfl, .inl ⟨_, rfl, _, _, rfl, rfl, (show (0 : Int) < 1000003 by decide), ?_⟩⟩
      refine ⟨some (.int n), ?_, rfl⟩
      have ht : ns.take (i + 1) = ns.take i ++ [n] := by rw [List.take_add_one, hn]; rfl
      show [_, _, _] = _
      rw [ht, List.foldl_append]
      rfl
    · rintro σ H' ⟨v, rfl, rfl⟩
      rw [List.length_map, List.take_length]
      refine ⟨_, rfl, aa, rfl, ⟨_, hS⟩, fun D hD => lc_list (K := K) (a := aa) (xs := ns.map V.int) (fun i H2 => Ext H' H2 ∧ H2 D = some (.lst (((ns.take i).map fun n => if n < 0 then -n else n).map V.int))) ⟨Ext.new hD, upd_same⟩ (fun i H2 _ h => (show SqL K H2 aa (ns.map V.int) from by
        rcases hS with hS | hS
        · exact .inl (h.1.rd hS)
        · exact .inr hS)) ?_ ?_⟩
      · rintro i y H2 hi ⟨e2, h2⟩
        rw [List.getElem?_map] at hi
        obtain ⟨n, hn, rfl⟩ := Option.map_eq_some_iff.mp hi
        refine ⟨rfl, _, rfl, _, rfl, _, h2, ?_, ?_⟩
        · rw [List.length_map, List.length_map, List.length_take]
          exact Nat.lt_of_le_of_lt (Nat.le_trans (Nat.min_le_right _ _) hlen) (by decide)
        · refine ⟨fun b o e => ?_, ?_⟩
          · rw [upd_ne (fun z => by rw [z, hD] at e; cases e)]
            exact e2 b o e
          · rw [upd_same]
            have ht : ns.take (i + 1) = ns.take i ++ [n] := by rw [List.take_add_one, hn]; rfl
            rw [ht, List.map_append, List.map_append]
            rfl
      · rintro H2 ⟨e2, h2⟩
        rw [List.length_map, List.take_length] at h2
        refine ⟨_, rfl, _, _, rfl, rfl, (by show 2 ≤ sizeLine; decide), fun p hp => ?_⟩
        have npD : p ≠ D := fun z => by rw [z, h2] at hp; cases hp
        refine k _ p D (e2.none hp) hD npD (e2.trans (Ext.new hp)) ?_ ?_
        · rw [upd_same]; rfl
        · rw [upd_ne (Ne.symm npD)]; exact h2
theorem sc_law_draw : FnScope ["state", "many", "cells", "value", "mixed"] ["state", "many"] (defScope (topS 14)) := ⟨rfl, rfl, rfl, by decide +kernel, rfl, by decide +kernel, by decide +kernel⟩
theorem ok_law_draw (T : T K mg a d) : FnOk P w K mg base CX0 1 (a 14) (d 14) ["state", "many"] (spM K 2 drawF) := by
  have nd := sc_law_draw.nd
  refine T.F14.ok sc_law_draw (fun vs H Q E h => h.1) (fun cdv A outer s H vs Q E hr h => ?_)
  obtain ⟨x, y, m, dr, rfl, hm0, hm1, nxy, h1, h2, k⟩ := draw_open h
  refine ⟨_, pss_cons (ps_set (i := 2) nd rfl (Or.inl rfl) (pe_ix ix_list (pv 0) pe_int (fun _ _ => rfl)))
    (pss_cons (ps_while PassesOwn.never (PW.pt (pw_and (pt_cmpR op_gt (pe_callB call_len_seq (by rfl) T.z_len PySem.boot_len (pa_cons (pv 2) pa_nil)) pe_int (nomark _)) (pw_and1 (pt_cmpR op_eq (pe_ix ix_list (pv 2) pe_int (fun _ _ => rfl)) pe_int (nomark _)))))
      (pss_one (ps_expr (pe_bm PySem.F.plainAttrs_list PySem.F.slot_list_pop PySem.F.type_list_pop mt_popAt (pv 2) (pa_cons pe_int pa_nil)))))
    (pss_cons (ps_if (pt_cmpR op_gt (pe_callB call_len_seq (by rfl) T.z_len PySem.boot_len (pa_cons (pv 2) pa_nil)) pe_int (nomark _))
      (pss_cons (ps_set (i := 3) nd rfl (Or.inl rfl) (pe_ix ix_list (pv 2) pe_int (fun _ _ => rfl)))
        (pss_cons (ps_asg (pe_op op_fdivW (pv 3) (pv 1)) (pg_sub (pv 2) pe_int set_list))
          (pss_one (ps_ret (pe_op op_mod (pe_callTy call_int1 (by rfl) T.z_int (by decide +kernel) (pa_cons (pv 3) pa_nil)) (pv 1)))))) pss_nil)
    (pss_cons (ps_set (i := 4) nd rfl (Or.inl rfl) (pe_op op_mod (pe_callTy call_int1 (by rfl) T.z_int (by decide +kernel) (pa_cons (pe_op op_add (pe_op op_mul (pe_ix ix_list (pv 0) pe_int (fun _ _ => rfl)) pe_int) pe_int) pa_nil)) pe_int))
    (pss_cons (ps_asg (pv 4) (pg_sub (pv 0) pe_int set_list))
    (pss_one (ps_ret (pe_op op_mod (pe_callTy call_int1 (by rfl) T.z_int (by decide +kernel) (pa_cons (pe_op op_fdivW (pv 4) pe_int) pa_nil)) (pv 1)))))))), ?_⟩
  refine ⟨_, rfl, x, _, _, _, rfl, rfl, SqL.of h1, rfl, ?_⟩
  refine ⟨fun n σ H' => ∃ cs : List Int, n = cs.length ∧ σ = [some (.ref x), some (.int m), some (.ref y), none, none] ∧ H' y = some (.lst (cs.map V.int)) ∧ H' x = some (.lst [.ref y, .int dr.2]) ∧ (∀ b, b ≠ x → b ≠ y → H' b = H b) ∧ cs.dropWhile (fun n => n == 0) = dr.1.dropWhile (fun n => n == 0),
    ⟨_, dr.1, rfl, rfl, h2, h1, fun _ _ _ => rfl, rfl⟩, ?_⟩
  rintro n σ1 H1 ⟨cs, rfl, rfl, hy, hx, hk, hdw⟩
  refine ⟨_, rfl, y, _, rfl, .inl (SqL.of hy), _, _, rfl, rfl, _, rfl, ?_⟩
  cases cs with
  | nil =>
    have e0 : decide ((0 : Int) < (((([] : List Int).map V.int).length : Nat) : Int)) = false := by decide
    rw [e0]
    refine iteF ?_
    refine iteF ?_
    refine ⟨_, rfl, y, _, rfl, .inl (SqL.of hy), _, _, rfl, rfl, _, rfl, ?_⟩
    rw [e0]
    refine iteF ?_
    refine ⟨_, rfl, x, _, _, _, rfl, rfl, SqL.of hx, rfl, _, _, rfl, rfl, .inr ⟨by decide, by decide⟩, _, _, rfl, rfl, .inl ⟨_, rfl, _, _, rfl, rfl, (show (0 : Int) < 2147483647 by decide), ?_⟩⟩
    refine ⟨_, rfl, _, rfl, x, _, _, 1, rfl, rfl, hx, rfl, ?_⟩
    refine ⟨_, rfl, _, _, rfl, rfl, ⟨by decide, by decide⟩, .inl ⟨_, rfl, _, rfl, _, _, rfl, rfl, hm0, ?_⟩⟩
    have hd : drawM m dr = ((((dr.2 * 48271 + 12345) % 2147483647) / 64) % m, ([], (dr.2 * 48271 + 12345) % 2147483647)) := by
      unfold drawM
      rw [← hdw]
      rfl
    have q := k (upd H1 x (.lst [.ref y, .int ((dr.2 * 48271 + 12345) % 2147483647)])) (fun b hb hb2 => by rw [upd_ne hb]; exact hk b hb hb2) (by rw [hd]; exact upd_same) (by rw [hd, upd_ne (Ne.symm nxy)]; exact hy)
    rw [hd] at q
    exact q
  | cons c cs =>
    have e0 : decide ((0 : Int) < ((((c :: cs : List Int).map V.int).length : Nat) : Int)) = true := decide_eq_true (by rw [List.length_map, List.length_cons]; omega)
    rw [e0]
    refine iteT ?_
    refine ⟨_, rfl, y, _, _, _, rfl, rfl, SqL.of hy, atI_nat (j := 0) rfl, rfl, _, rfl, ?_⟩
    by_cases hc : c = 0
    · subst hc
      rw [decide_eq_true rfl]
      refine iteT ?_
      refine ⟨fun σ' H' => ∃ cs' : List Int, cs'.length < (0 :: cs).length ∧ σ' = [some (.ref x), some (.int m), some (.ref y), none, none] ∧ H' y = some (.lst (cs'.map V.int)) ∧ H' x = some (.lst [.ref y, .int dr.2]) ∧ (∀ b, b ≠ x → b ≠ y → H' b = H b) ∧ cs'.dropWhile (fun n => n == 0) = dr.1.dropWhile (fun n => n == 0),
        fun σ' H' ⟨cs', g1, g2⟩ => ⟨cs'.length, g1, cs', rfl, g2⟩, ?_⟩
      refine ⟨_, rfl, .inl ⟨rfl, _, SqL.of hy⟩, y, _, 0, 0, _, rfl, rfl, hy, by decide, by decide, seq0, rfl, ?_⟩
      refine ⟨cs, Nat.lt_succ_self _, rfl, upd_same, by rw [upd_ne nxy]; exact hx, fun b hb hb2 => by rw [upd_ne hb2]; exact hk b hb hb2, ?_⟩
      rw [← hdw]
      rfl
    · have nc : decide (V.int c = V.int 0) = false := decide_eq_false fun e => hc (by cases e; rfl)
      rw [nc]
      refine iteF ?_
      refine ⟨_, rfl, y, _, rfl, .inl (SqL.of hy), _, _, rfl, rfl, _, rfl, ?_⟩
      rw [e0]
      refine iteT ?_
      refine ⟨_, rfl, y, _, _, _, rfl, rfl, SqL.of hy, atI_nat (j := 0) rfl, ?_⟩
      refine ⟨_, rfl, _, rfl, _, _, rfl, rfl, ⟨hm0, hm1⟩, _, rfl, y, _, _, 0, rfl, rfl, hy, ixN0, ?_⟩
      refine ⟨_, rfl, .inl ⟨_, rfl, _, rfl, _, _, rfl, rfl, hm0, ?_⟩⟩
      have hb : (c == 0) = false := by rw [beq_eq_false_iff_ne]; exact hc
      have hd : drawM m dr = (c % m, (c / m :: cs, dr.2)) := by
        unfold drawM
        rw [← hdw, List.dropWhile_cons, hb]
        rfl
      have q := k (upd H1 y (.lst ((c / m :: cs).map V.int))) (fun b hb hb2 => by rw [upd_ne hb2]; exact hk b hb hb2) (by rw [hd, upd_ne nxy]; exact hx) (by rw [hd]; exact upd_same)
      rw [hd] at q
      exact q

/-! ### mixed_row(row, modulus): 0 row 1 modulus 2 told 3 one 4 here -/
def b_mixed_row : MT :=
  (sSeq (sSet 2 (m2 modD (oVal (m2 addD (oVal (m2 mulD (oVal (mC (.int 7))) (oVal (mCall lenD (aCons (oName 0) aNil))))) (oVal (mC (.int 1))))) (oName 1)))
  (sSeq (sFor (mSeq (mVar 0)) (gN 3) (sSeq (sSet 4 (m2 modD (oVal (m2 addD (oName 2) (oName 3))) (oName 1)))
  (sSet 2 (m2 modD (oVal (m2 addD (oVal (m2 addD (oVal (m2 addD (oVal (m2 mulD (oVal (m2 mulD (oName 4) (oName 4))) (oName 4))) (oVal (m2 mulD (oVal (m2 mulD (oVal (mC (.int 3))) (oName 4))) (oName 4))))) (oVal (m2 mulD (oVal (mC (.int 1000003))) (oName 4))))) (oVal (mC (.int 12345))))) (oName 1)))))
  (sRet (mVar 2))))
def m_mixed_row : FM := fnM 5 b_mixed_row
theorem sc_mixed_row : FnScope ["row", "modulus", "told", "one", "here"] ["row", "modulus"] (defScope (topS 2)) := ⟨rfl, rfl, rfl, by decide +kernel, rfl, by decide +kernel, by decide +kernel⟩
theorem ok_mixed_row (T : T K mg a d) : FnOk P w K mg base CX0 1 (a 2) (d 2) ["row", "modulus"] (spM K 2 m_mixed_row) := by
  have nd := sc_mixed_row.nd
  refine fn_ok (N := ["row", "modulus", "told", "one", "here"]) (body := b_mixed_row) T.F2 sc_mixed_row (by decide) fun cdv A outer s H E hr => ?_
  have hu : (A.deeper (envOfC "mixed_row" (defScope (topS 2)) s.heap.objs.size (a 2) cdv)).units + 65 < cLine := by have := hr.un; omega
  have hu64 : (A.deeper (envOfC "mixed_row" (defScope (topS 2)) s.heap.objs.size (a 2) cdv)).units + 64 < cLine := by have := hr.un; omega
  unfold b_mixed_row
  exact (ss_cons (s_set (i := 2) nd (e_mod (o_of (e_add (o_of (e_mul (o_of e_int) (o_of (e_len T.z_len (a_cons (o_name 0) a_nil))))) (o_of e_int))) (o_name 1)))
  (ss_cons (s_for PassesOwn.never rfl (i_seq (e_of (o_name 0))) (g_name 3 nd) (ss_cons (s_set (i := 4) nd (e_mod (o_of (e_add (o_name 2) (o_name 3))) (o_name 1)))
  (ss_one (s_set (i := 2) nd (e_mod (o_of (e_add (o_of (e_add (o_of (e_add (o_of (e_mul (o_of (e_mul (o_name 4) (o_name 4))) (o_name 4))) (o_of (e_mul (o_of (e_mul (o_of e_int) (o_name 4))) (o_name 4))))) (o_of (e_mul (o_of e_int) (o_name 4))))) (o_of e_int))) (o_name 1))))))
  (ss_one (s_ret (e_of (o_name 2))))))
/-! ### side_of(n): 0 n 1 side -/
def b_side_of : MT :=
  (sSeq (sSet 1 (mC (.int 1)))
  (sSeq (sWhile (mB (m2 ltD (oVal (m2 mulD (oName 1) (oName 1))) (oName 0))) (sSet 1 (m2 mulD (oVal (mC (.int 2))) (oName 1))))
  (sRet (mVar 1))))
def m_side_of : FM := fnM 2 b_side_of
theorem sc_side_of : FnScope ["n", "side"] ["n"] (defScope (topS 5)) := ⟨rfl, rfl, rfl, by decide +kernel, rfl, by decide +kernel, by decide +kernel⟩
theorem ok_side_of (T : T K mg a d) : FnOk P w K mg base CX0 1 (a 5) (d 5) ["n"] (spM K 1 m_side_of) := by
  have nd := sc_side_of.nd
  refine fn_ok (N := ["n", "side"]) (body := b_side_of) T.F5 sc_side_of (by decide) fun cdv A outer s H E hr => ?_
  have hu : (A.deeper (envOfC "side_of" (defScope (topS 5)) s.heap.objs.size (a 5) cdv)).units + 65 < cLine := by have := hr.un; omega
  have hu64 : (A.deeper (envOfC "side_of" (defScope (topS 5)) s.heap.objs.size (a 5) cdv)).units + 64 < cLine := by have := hr.un; omega
  unfold b_side_of
  exact (ss_cons (s_set (i := 1) nd e_int)
  (ss_cons (s_while PassesOwn.never (t_cm c_lt (o_of (e_mul (o_name 1) (o_name 1))) (o_name 0)) (ss_one (s_set (i := 1) nd (e_mul (o_of e_int) (o_name 1)))))
  (ss_one (s_ret (e_of (o_name 1))))))
/-! ### _law_mix(row): 0 row 1 m 2 c 3 h -/
def b_law_mix : MT :=
  (sSeq (sSet 1 (m2 modD (oVal (mCall intD (aCons (oVal (m2 addD (oVal (m2 mulD (oVal (mC (.int 7))) (oVal (mCall lenD (aCons (oName 0) aNil))))) (oVal (mC (.int 1))))) aNil))) (oVal (mC (.int 2305843009213693951)))))
  (sSeq (sFor (mSeq (mVar 0)) (gN 2) (sSeq (sSet 3 (m2 modD (oVal (mCall intD (aCons (oVal (m2 addD (oName 1) (oName 2))) aNil))) (oVal (mC (.int 2305843009213693951)))))
  (sSet 1 (m2 modD (oVal (mCall intD (aCons (oVal (m2 addD (oVal (m2 addD (oVal (m2 addD (oVal (m2 mulD (oVal (m2 mulD (oName 3) (oName 3))) (oName 3))) (oVal (m2 mulD (oVal (m2 mulD (oVal (mC (.int 3))) (oName 3))) (oName 3))))) (oVal (m2 mulD (oVal (mC (.int 1000003))) (oName 3))))) (oVal (mC (.int 12345))))) aNil))) (oVal (mC (.int 2305843009213693951)))))))
  (sRet (mVar 1))))
def m_law_mix : FM := fnM 4 b_law_mix
theorem sc_law_mix : FnScope ["row", "m", "c", "h"] ["row"] (defScope (topS 15)) := ⟨rfl, rfl, rfl, by decide +kernel, rfl, by decide +kernel, by decide +kernel⟩
theorem ok_law_mix (T : T K mg a d) : FnOk P w K mg base CX0 1 (a 15) (d 15) ["row"] (spM K 1 m_law_mix) := by
  have nd := sc_law_mix.nd
  refine fn_ok (N := ["row", "m", "c", "h"]) (body := b_law_mix) T.F15 sc_law_mix (by decide) fun cdv A outer s H E hr => ?_
  have hu : (A.deeper (envOfC "_law_mix" (defScope (topS 15)) s.heap.objs.size (a 15) cdv)).units + 65 < cLine := by have := hr.un; omega
  have hu64 : (A.deeper (envOfC "_law_mix" (defScope (topS 15)) s.heap.objs.size (a 15) cdv)).units + 64 < cLine := by have := hr.un; omega
  unfold b_law_mix
  exact (ss_cons (s_set (i := 1) nd (e_mod (o_of (e_intc T.z_int (a_cons (o_of (e_add (o_of (e_mul (o_of e_int) (o_of (e_len T.z_len (a_cons (o_name 0) a_nil))))) (o_of e_int))) a_nil))) (o_of e_int)))
  (ss_cons (s_for PassesOwn.never rfl (i_seq (e_of (o_name 0))) (g_name 2 nd) (ss_cons (s_set (i := 3) nd (e_mod (o_of (e_intc T.z_int (a_cons (o_of (e_add (o_name 1) (o_name 2))) a_nil))) (o_of e_int)))
  (ss_one (s_set (i := 1) nd (e_mod (o_of (e_intc T.z_int (a_cons (o_of (e_add (o_of (e_add (o_of (e_add (o_of (e_mul (o_of (e_mul (o_name 3) (o_name 3))) (o_name 3))) (o_of (e_mul (o_of (e_mul (o_of e_int) (o_name 3))) (o_name 3))))) (o_of (e_mul (o_of e_int) (o_name 3))))) (o_of e_int))) a_nil))) (o_of e_int))))))
  (ss_one (s_ret (e_of (o_name 1))))))
/-! ### stirred(key, side, x): 0 key 1 side 2 x 3 a 4 b 5 k -/
def b_stirred : MT :=
  (sSeq (sPar [3, 4] (xVal (m2 fdivD (oName 2) (oName 1)) (xVal (m2 modD (oName 2) (oName 1)) xNil)))
  (sSeq (sFor (mCall rng1 (aCons (oVal (mC d_ROUNDS)) aNil)) (gN 5) (sPar [3, 4] (xVal (mVar 4) (xVal (m2 modD (oVal (m2 addD (oName 3) (oVal (mCallU m_mixed_row (aCons (oVal (m2 addD (oName 0) (oVal (mTup (mDs [(mVar 5), (mVar 4)]))))) (aCons (oVal (mC d_MIX_MODULUS)) aNil)))))) (oName 1)) xNil))))
  (sRet (m2 addD (oVal (m2 mulD (oName 3) (oName 1))) (oName 4)))))
def m_stirred : FM := fnM 6 b_stirred
theorem sc_stirred : FnScope ["key", "side", "x", "a", "b", "k"] ["key", "side", "x"] (defScope (topS 6)) := ⟨rfl, rfl, rfl, by decide +kernel, rfl, by decide +kernel, by decide +kernel⟩
theorem ok_stirred (T : T K mg a d) : FnOk P w K mg base CX0 2 (a 6) (d 6) ["key", "side", "x"] (spM K 3 m_stirred) := by
  have G_mixed_row := ok_mixed_row (P := P) (w := w) (base := base) T
  obtain ⟨u_MIX_MODULUS, v_MIX_MODULUS, c_MIX_MODULUS⟩ := T.k_MIX_MODULUS
  obtain ⟨u_ROUNDS, v_ROUNDS, c_ROUNDS⟩ := T.k_ROUNDS
  have nd := sc_stirred.nd
  refine fn_ok (N := ["key", "side", "x", "a", "b", "k"]) (body := b_stirred) T.F6 sc_stirred (by decide) fun cdv A outer s H E hr => ?_
  have hu : (A.deeper (envOfC "stirred" (defScope (topS 6)) s.heap.objs.size (a 6) cdv)).units + 65 < cLine := by have := hr.un; omega
  have hu64 : (A.deeper (envOfC "stirred" (defScope (topS 6)) s.heap.objs.size (a 6) cdv)).units + 64 < cLine := by have := hr.un; omega
  unfold b_stirred
  exact (ss_cons (s_par2 (i := 3) (j := 4) rfl nd (by decide) (x_val (e_fdiv (o_name 2) (o_name 1)) (x_val (e_mod (o_name 2) (o_name 1)) x_nil)))
  (ss_cons (s_for PassesOwn.never rfl (i_range1 T.z_range (a_cons (o_of (e_glob rfl c_ROUNDS.1 c_ROUNDS.2.1 c_ROUNDS.2.2)) a_nil)) (g_name 5 nd) (ss_one (s_par2 (i := 3) (j := 4) rfl nd (by decide) (x_val (e_of (o_name 4)) (x_val (e_mod (o_of (e_add (o_name 3) (o_of (e_callU G_mixed_row (hr.mono (by decide)) T.m2 T.F2.kp T.b2 pass0 (a_cons (o_of (e_add (o_name 0) (o_of (e_tup (v_cons (e_of (o_name 5)) (v_cons (e_of (o_name 4)) v_nil)))))) (a_cons (o_of (e_glob rfl c_MIX_MODULUS.1 c_MIX_MODULUS.2.1 c_MIX_MODULUS.2.2)) a_nil)) (aCons_len (aCons_len aNil_len)))))) (o_name 1)) x_nil)))))
  (ss_one (s_ret (e_add (o_of (e_mul (o_name 3) (o_name 1))) (o_name 4))))))
/-! ### stirred_back(key, side, x): 0 key 1 side 2 x 3 a 4 b 5 k -/
def b_stirred_back : MT :=
  (sSeq (sPar [3, 4] (xVal (m2 fdivD (oName 2) (oName 1)) (xVal (m2 modD (oName 2) (oName 1)) xNil)))
  (sSeq (sFor (mCall rng3 (aCons (oVal (m2 subD (oVal (mC d_ROUNDS)) (oVal (mC (.int 1))))) (aCons (oVal (m1 negD (oVal (mC (.int 1))))) (aCons (oVal (m1 negD (oVal (mC (.int 1))))) aNil)))) (gN 5) (sPar [3, 4] (xVal (m2 modD (oVal (m2 subD (oName 4) (oVal (mCallU m_mixed_row (aCons (oVal (m2 addD (oName 0) (oVal (mTup (mDs [(mVar 5), (mVar 3)]))))) (aCons (oVal (mC d_MIX_MODULUS)) aNil)))))) (oName 1)) (xVal (mVar 3) xNil))))
  (sRet (m2 addD (oVal (m2 mulD (oName 3) (oName 1))) (oName 4)))))
def m_stirred_back : FM := fnM 6 b_stirred_back
theorem sc_stirred_back : FnScope ["key", "side", "x", "a", "b", "k"] ["key", "side", "x"] (defScope (topS 7)) := ⟨rfl, rfl, rfl, by decide +kernel, rfl, by decide +kernel, by decide +kernel⟩
theorem ok_stirred_back (T : T K mg a d) : FnOk P w K mg base CX0 2 (a 7) (d 7) ["key", "side", "x"] (spM K 3 m_stirred_back) := by
  have G_mixed_row := ok_mixed_row (P := P) (w := w) (base := base) T
  obtain ⟨u_MIX_MODULUS, v_MIX_MODULUS, c_MIX_MODULUS⟩ := T.k_MIX_MODULUS
  obtain ⟨u_ROUNDS, v_ROUNDS, c_ROUNDS⟩ := T.k_ROUNDS
  have nd := sc_stirred_back.nd
  refine fn_ok (N := ["key", "side", "x", "a", "b", "k"]) (body := b_stirred_back) T.F7 sc_stirred_back (by decide) fun cdv A outer s H E hr => ?_
  have hu : (A.deeper (envOfC "stirred_back" (defScope (topS 7)) s.heap.objs.size (a 7) cdv)).units + 65 < cLine := by have := hr.un; omega
  have hu64 : (A.deeper (envOfC "stirred_back" (defScope (topS 7)) s.heap.objs.size (a 7) cdv)).units + 64 < cLine := by have := hr.un; omega
  unfold b_stirred_back
  exact (ss_cons (s_par2 (i := 3) (j := 4) rfl nd (by decide) (x_val (e_fdiv (o_name 2) (o_name 1)) (x_val (e_mod (o_name 2) (o_name 1)) x_nil)))
  (ss_cons (s_for PassesOwn.never rfl (i_range3 T.z_range (a_cons (o_of (e_sub (o_of (e_glob rfl c_ROUNDS.1 c_ROUNDS.2.1 c_ROUNDS.2.2)) (o_of e_int))) (a_cons (o_of (e_neg (o_of e_int))) (a_cons (o_of (e_neg (o_of e_int))) a_nil)))) (g_name 5 nd) (ss_one (s_par2 (i := 3) (j := 4) rfl nd (by decide) (x_val (e_mod (o_of (e_sub (o_name 4) (o_of (e_callU G_mixed_row (hr.mono (by decide)) T.m2 T.F2.kp T.b2 pass0 (a_cons (o_of (e_add (o_name 0) (o_of (e_tup (v_cons (e_of (o_name 5)) (v_cons (e_of (o_name 3)) v_nil)))))) (a_cons (o_of (e_glob rfl c_MIX_MODULUS.1 c_MIX_MODULUS.2.1 c_MIX_MODULUS.2.2)) a_nil)) (aCons_len (aCons_len aNil_len)))))) (o_name 1)) (x_val (e_of (o_name 3)) x_nil)))))
  (ss_one (s_ret (e_add (o_of (e_mul (o_name 3) (o_name 1))) (o_name 4))))))
/-! ### _law_walk(seed, epoch, n, x): 0 seed 1 epoch 2 n 3 x 4 g 5 a 6 b 7 r -/
def b_law_walk : MT :=
  (sSeq (sSet 4 (mC (.int 1)))
  (sSeq (sWhile (mB (m2 ltD (oVal (m2 mulD (oName 4) (oName 4))) (oName 2))) (sSet 4 (m2 mulD (oVal (mC (.int 2))) (oName 4))))
  (sWhile (mTruth (oVal (mC (.bool true)))) (sSeq (sPar [5, 6] (xVal (mCall intD (aCons (oVal (m2 fdivD (oName 3) (oName 4))) aNil)) (xVal (mCall intD (aCons (oVal (m2 modD (oName 3) (oName 4))) aNil)) xNil)))
  (sSeq (sFor (mCall rng1 (aCons (oVal (mC (.int 4))) aNil)) (gN 7) (sPar [5, 6] (xVal (mVar 6) (xVal (m2 modD (oVal (mCall intD (aCons (oVal (m2 addD (oName 5) (oVal (mCallU m_law_mix (aCons (oVal (eNew (mLst (mDs [(mVar 0), (mVar 1), (mVar 2), (mVar 7), (mVar 6)])))) aNil))))) aNil))) (oName 4)) xNil))))
  (sSeq (sSet 3 (m2 addD (oVal (m2 mulD (oName 5) (oName 4))) (oName 6)))
  (sIf (mB (m2 ltD (oName 3) (oName 2))) (sRet (mVar 3)) sNil)))))))
def m_law_walk : FM := fnM 8 b_law_walk
theorem sc_law_walk : FnScope ["seed", "epoch", "n", "x", "g", "a", "b", "r"] ["seed", "epoch", "n", "x"] (defScope (topS 16)) := ⟨rfl, rfl, rfl, by decide +kernel, rfl, by decide +kernel, by decide +kernel⟩
theorem ok_law_walk (T : T K mg a d) : FnOk P w K mg base CX0 2 (a 16) (d 16) ["seed", "epoch", "n", "x"] (spM K 4 m_law_walk) := by
  have G_law_mix := ok_law_mix (P := P) (w := w) (base := base) T
  have nd := sc_law_walk.nd
  refine fn_ok (N := ["seed", "epoch", "n", "x", "g", "a", "b", "r"]) (body := b_law_walk) T.F16 sc_law_walk (by decide) fun cdv A outer s H E hr => ?_
  have hu : (A.deeper (envOfC "_law_walk" (defScope (topS 16)) s.heap.objs.size (a 16) cdv)).units + 65 < cLine := by have := hr.un; omega
  have hu64 : (A.deeper (envOfC "_law_walk" (defScope (topS 16)) s.heap.objs.size (a 16) cdv)).units + 64 < cLine := by have := hr.un; omega
  unfold b_law_walk
  exact (ss_cons (s_set (i := 4) nd e_int)
  (ss_cons (s_while PassesOwn.never (t_cm c_lt (o_of (e_mul (o_name 4) (o_name 4))) (o_name 2)) (ss_one (s_set (i := 4) nd (e_mul (o_of e_int) (o_name 4)))))
  (ss_one (s_while PassesOwn.never (t_of (o_of e_bl)) (ss_cons (s_par2 (i := 5) (j := 6) rfl nd (by decide) (x_val (e_intc T.z_int (a_cons (o_of (e_fdiv (o_name 3) (o_name 4))) a_nil)) (x_val (e_intc T.z_int (a_cons (o_of (e_mod (o_name 3) (o_name 4))) a_nil)) x_nil)))
  (ss_cons (s_for PassesOwn.never rfl (i_range1 T.z_range (a_cons (o_of e_int) a_nil)) (g_name 7 nd) (ss_one (s_par2 (i := 5) (j := 6) rfl nd (by decide) (x_val (e_of (o_name 6)) (x_val (e_mod (o_of (e_intc T.z_int (a_cons (o_of (e_add (o_name 5) (o_of (e_callU G_law_mix (hr.mono (by decide)) T.m15 T.F15.kp T.b15 pass0 (a_cons (o_of (e_new (f_lst (v_cons (e_of (o_name 0)) (v_cons (e_of (o_name 1)) (v_cons (e_of (o_name 2)) (v_cons (e_of (o_name 7)) (v_cons (e_of (o_name 6)) v_nil)))))))) a_nil) (aCons_len aNil_len))))) a_nil))) (o_name 4)) x_nil)))))
  (ss_cons (s_set (i := 3) nd (e_add (o_of (e_mul (o_name 5) (o_name 4))) (o_name 6)))
  (ss_one (s_if (t_cm c_lt (o_name 3) (o_name 2)) (ss_one (s_ret (e_of (o_name 3)))) ss_nil)))))))))
/-! ### _law_seed(state): 0 state -/
def b_law_seed : MT :=
  (sRet (m2 ixD (oVal (eNew (mLst (mDs [(mC (.int 0)), (mC (.int 1)), (mCallU m_law_draw (aCons (oName 0) (aCons (oVal (mC (.int 1000))) aNil))), (m2 addD (oVal (m2 powD (oVal (mC (.int 10))) (oVal (mC (.int 20))))) (oVal (mCallU m_law_draw (aCons (oName 0) (aCons (oVal (mC (.int 1000))) aNil)))))])))) (oVal (mCallU m_law_draw (aCons (oName 0) (aCons (oVal (mC (.int 4))) aNil))))))
def m_law_seed : FM := fnM 1 b_law_seed
theorem sc_law_seed : FnScope ["state"] ["state"] (defScope (topS 17)) := ⟨rfl, rfl, rfl, by decide +kernel, rfl, by decide +kernel, by decide +kernel⟩
theorem ok_law_seed (T : T K mg a d) : FnOk P w K mg base CX0 2 (a 17) (d 17) ["state"] (spM K 1 m_law_seed) := by
  have G_law_draw := ok_law_draw (P := P) (w := w) (base := base) T
  have nd := sc_law_seed.nd
  refine fn_ok (N := ["state"]) (body := b_law_seed) T.F17 sc_law_seed (by decide) fun cdv A outer s H E hr => ?_
  have hu : (A.deeper (envOfC "_law_seed" (defScope (topS 17)) s.heap.objs.size (a 17) cdv)).units + 65 < cLine := by have := hr.un; omega
  have hu64 : (A.deeper (envOfC "_law_seed" (defScope (topS 17)) s.heap.objs.size (a 17) cdv)).units + 64 < cLine := by have := hr.un; omega
  unfold b_law_seed
  exact (ss_one (s_ret (e_at (o_of (e_new (f_lst (v_cons e_int (v_cons e_int (v_cons (e_callU G_law_draw (hr.mono (by decide)) T.m14 T.F14.kp T.b14 pass0 (a_cons (o_name 0) (a_cons (o_of e_int) a_nil)) (aCons_len (aCons_len aNil_len))) (v_cons (e_add (o_of (e_pow (o_of e_int) (o_of e_int))) (o_of (e_callU G_law_draw (hr.mono (by decide)) T.m14 T.F14.kp T.b14 pass0 (a_cons (o_name 0) (a_cons (o_of e_int) a_nil)) (aCons_len (aCons_len aNil_len))))) v_nil))))))) (o_of (e_callU G_law_draw (hr.mono (by decide)) T.m14 T.F14.kp T.b14 pass0 (a_cons (o_name 0) (a_cons (o_of e_int) a_nil)) (aCons_len (aCons_len aNil_len)))))))
/-! ### shuffled(seed, epoch, n, index): 0 seed 1 epoch 2 n 3 index 4 side 5 x -/
def b_shuffled : MT :=
  (sSeq (sSet 4 (mCallU m_side_of (aCons (oName 2) aNil)))
  (sSeq (sSet 5 (mCallU m_stirred (aCons (oVal (mTup (mDs [(mVar 0), (mVar 1), (mVar 2)]))) (aCons (oName 4) (aCons (oName 3) aNil)))))
  (sSeq (sWhile (mB (m2 geD (oName 5) (oName 2))) (sSet 5 (mCallU m_stirred (aCons (oVal (mTup (mDs [(mVar 0), (mVar 1), (mVar 2)]))) (aCons (oName 4) (aCons (oName 5) aNil))))))
  (sRet (mVar 5)))))
def m_shuffled : FM := fnM 6 b_shuffled
theorem sc_shuffled : FnScope ["seed", "epoch", "n", "index", "side", "x"] ["seed", "epoch", "n", "index"] (defScope (topS 8)) := ⟨rfl, rfl, rfl, by decide +kernel, rfl, by decide +kernel, by decide +kernel⟩
theorem ok_shuffled (T : T K mg a d) : FnOk P w K mg base CX0 3 (a 8) (d 8) ["seed", "epoch", "n", "index"] (spM K 4 m_shuffled) := by
  have G_side_of := ok_side_of (P := P) (w := w) (base := base) T
  have G_stirred := ok_stirred (P := P) (w := w) (base := base) T
  have nd := sc_shuffled.nd
  refine fn_ok (N := ["seed", "epoch", "n", "index", "side", "x"]) (body := b_shuffled) T.F8 sc_shuffled (by decide) fun cdv A outer s H E hr => ?_
  have hu : (A.deeper (envOfC "shuffled" (defScope (topS 8)) s.heap.objs.size (a 8) cdv)).units + 65 < cLine := by have := hr.un; omega
  have hu64 : (A.deeper (envOfC "shuffled" (defScope (topS 8)) s.heap.objs.size (a 8) cdv)).units + 64 < cLine := by have := hr.un; omega
  unfold b_shuffled
  exact (ss_cons (s_set (i := 4) nd (e_callU G_side_of (hr.mono (by decide)) T.m5 T.F5.kp T.b5 pass0 (a_cons (o_name 2) a_nil) (aCons_len aNil_len)))
  (ss_cons (s_set (i := 5) nd (e_callU G_stirred (hr.mono (by decide)) T.m6 T.F6.kp T.b6 pass0 (a_cons (o_of (e_tup (v_cons (e_of (o_name 0)) (v_cons (e_of (o_name 1)) (v_cons (e_of (o_name 2)) v_nil))))) (a_cons (o_name 4) (a_cons (o_name 3) a_nil))) (aCons_len (aCons_len (aCons_len aNil_len)))))
  (ss_cons (s_while PassesOwn.never (t_cm c_ge (o_name 5) (o_name 2)) (ss_one (s_set (i := 5) nd (e_callU G_stirred (hr.mono (by decide)) T.m6 T.F6.kp T.b6 pass0 (a_cons (o_of (e_tup (v_cons (e_of (o_name 0)) (v_cons (e_of (o_name 1)) (v_cons (e_of (o_name 2)) v_nil))))) (a_cons (o_name 4) (a_cons (o_name 5) a_nil))) (aCons_len (aCons_len (aCons_len aNil_len)))))))
  (ss_one (s_ret (e_of (o_name 5)))))))
/-! ### unshuffled(seed, epoch, n, row): 0 seed 1 epoch 2 n 3 row 4 side 5 x -/
def b_unshuffled : MT :=
  (sSeq (sSet 4 (mCallU m_side_of (aCons (oName 2) aNil)))
  (sSeq (sSet 5 (mCallU m_stirred_back (aCons (oVal (mTup (mDs [(mVar 0), (mVar 1), (mVar 2)]))) (aCons (oName 4) (aCons (oName 3) aNil)))))
  (sSeq (sWhile (mB (m2 geD (oName 5) (oName 2))) (sSet 5 (mCallU m_stirred_back (aCons (oVal (mTup (mDs [(mVar 0), (mVar 1), (mVar 2)]))) (aCons (oName 4) (aCons (oName 5) aNil))))))
  (sRet (mVar 5)))))
def m_unshuffled : FM := fnM 6 b_unshuffled
theorem sc_unshuffled : FnScope ["seed", "epoch", "n", "row", "side", "x"] ["seed", "epoch", "n", "row"] (defScope (topS 9)) := ⟨rfl, rfl, rfl, by decide +kernel, rfl, by decide +kernel, by decide +kernel⟩
theorem ok_unshuffled (T : T K mg a d) : FnOk P w K mg base CX0 3 (a 9) (d 9) ["seed", "epoch", "n", "row"] (spM K 4 m_unshuffled) := by
  have G_side_of := ok_side_of (P := P) (w := w) (base := base) T
  have G_stirred_back := ok_stirred_back (P := P) (w := w) (base := base) T
  have nd := sc_unshuffled.nd
  refine fn_ok (N := ["seed", "epoch", "n", "row", "side", "x"]) (body := b_unshuffled) T.F9 sc_unshuffled (by decide) fun cdv A outer s H E hr => ?_
  have hu : (A.deeper (envOfC "unshuffled" (defScope (topS 9)) s.heap.objs.size (a 9) cdv)).units + 65 < cLine := by have := hr.un; omega
  have hu64 : (A.deeper (envOfC "unshuffled" (defScope (topS 9)) s.heap.objs.size (a 9) cdv)).units + 64 < cLine := by have := hr.un; omega
  unfold b_unshuffled
  exact (ss_cons (s_set (i := 4) nd (e_callU G_side_of (hr.mono (by decide)) T.m5 T.F5.kp T.b5 pass0 (a_cons (o_name 2) a_nil) (aCons_len aNil_len)))
  (ss_cons (s_set (i := 5) nd (e_callU G_stirred_back (hr.mono (by decide)) T.m7 T.F7.kp T.b7 pass0 (a_cons (o_of (e_tup (v_cons (e_of (o_name 0)) (v_cons (e_of (o_name 1)) (v_cons (e_of (o_name 2)) v_nil))))) (a_cons (o_name 4) (a_cons (o_name 3) a_nil))) (aCons_len (aCons_len (aCons_len aNil_len)))))
  (ss_cons (s_while PassesOwn.never (t_cm c_ge (o_name 5) (o_name 2)) (ss_one (s_set (i := 5) nd (e_callU G_stirred_back (hr.mono (by decide)) T.m7 T.F7.kp T.b7 pass0 (a_cons (o_of (e_tup (v_cons (e_of (o_name 0)) (v_cons (e_of (o_name 1)) (v_cons (e_of (o_name 2)) v_nil))))) (a_cons (o_name 4) (a_cons (o_name 5) a_nil))) (aCons_len (aCons_len (aCons_len aNil_len)))))))
  (ss_one (s_ret (e_of (o_name 5)))))))
/-! ### row_at(seed, n, place): 0 seed 1 n 2 place -/
def b_row_at : MT :=
  (sRet (mCallU m_shuffled (aCons (oName 0) (aCons (oVal (m2 fdivD (oName 2) (oName 1))) (aCons (oName 1) (aCons (oVal (m2 modD (oName 2) (oName 1))) aNil))))))
def m_row_at : FM := fnM 3 b_row_at
theorem sc_row_at : FnScope ["seed", "n", "place"] ["seed", "n", "place"] (defScope (topS 10)) := ⟨rfl, rfl, rfl, by decide +kernel, rfl, by decide +kernel, by decide +kernel⟩
theorem ok_row_at (T : T K mg a d) : FnOk P w K mg base CX0 4 (a 10) (d 10) ["seed", "n", "place"] (spM K 3 m_row_at) := by
  have G_shuffled := ok_shuffled (P := P) (w := w) (base := base) T
  have nd := sc_row_at.nd
  refine fn_ok (N := ["seed", "n", "place"]) (body := b_row_at) T.F10 sc_row_at (by decide) fun cdv A outer s H E hr => ?_
  have hu : (A.deeper (envOfC "row_at" (defScope (topS 10)) s.heap.objs.size (a 10) cdv)).units + 65 < cLine := by have := hr.un; omega
  have hu64 : (A.deeper (envOfC "row_at" (defScope (topS 10)) s.heap.objs.size (a 10) cdv)).units + 64 < cLine := by have := hr.un; omega
  unfold b_row_at
  exact (ss_one (s_ret (e_callU G_shuffled (hr.mono (by decide)) T.m8 T.F8.kp T.b8 pass0 (a_cons (o_name 0) (a_cons (o_of (e_fdiv (o_name 2) (o_name 1))) (a_cons (o_name 1) (a_cons (o_of (e_mod (o_name 2) (o_name 1))) a_nil)))) (aCons_len (aCons_len (aCons_len (aCons_len aNil_len)))))))
/-! ### places_of_row(seed, n, row, first, behind): 0 seed 1 n 2 row 3 first 4 behind 5 told 6 epoch 7 place -/
def b_places_of_row : MT :=
  (sSeq (sNew 5 (mLst (mDs [])))
  (sSeq (sFor (mCall rng2 (aCons (oVal (m2 fdivD (oName 3) (oName 1))) (aCons (oVal (m2 addD (oVal (m2 fdivD (oName 4) (oName 1))) (oVal (mC (.int 1))))) aNil))) (gN 6) (sSeq (sSet 7 (m2 addD (oVal (m2 mulD (oName 6) (oName 1))) (oVal (mCallU m_unshuffled (aCons (oName 0) (aCons (oName 6) (aCons (oName 1) (aCons (oName 2) aNil))))))))
  (sIf (mB (mChain leD ltD (oName 3) (oName 7) (oName 4))) (sDrop (mApp 5 (mVar 7))) sNil)))
  (sRet (mVar 5))))
def m_places_of_row : FM := fnM 8 b_places_of_row
theorem sc_places_of_row : FnScope ["seed", "n", "row", "first", "behind", "told", "epoch", "place"] ["seed", "n", "row", "first", "behind"] (defScope (topS 11)) := ⟨rfl, rfl, rfl, by decide +kernel, rfl, by decide +kernel, by decide +kernel⟩
theorem ok_places_of_row (T : T K mg a d) : FnOk P w K mg base CX0 4 (a 11) (d 11) ["seed", "n", "row", "first", "behind"] (spM K 5 m_places_of_row) := by
  have G_unshuffled := ok_unshuffled (P := P) (w := w) (base := base) T
  have nd := sc_places_of_row.nd
  refine fn_ok (N := ["seed", "n", "row", "first", "behind", "told", "epoch", "place"]) (body := b_places_of_row) T.F11 sc_places_of_row (by decide) fun cdv A outer s H E hr => ?_
  have hu : (A.deeper (envOfC "places_of_row" (defScope (topS 11)) s.heap.objs.size (a 11) cdv)).units + 65 < cLine := by have := hr.un; omega
  have hu64 : (A.deeper (envOfC "places_of_row" (defScope (topS 11)) s.heap.objs.size (a 11) cdv)).units + 64 < cLine := by have := hr.un; omega
  unfold b_places_of_row
  exact (ss_cons (s_new (i := 5) nd (f_lst v_nil))
  (ss_cons (s_for PassesOwn.never rfl (i_range2 T.z_range (a_cons (o_of (e_fdiv (o_name 3) (o_name 1))) (a_cons (o_of (e_add (o_of (e_fdiv (o_name 4) (o_name 1))) (o_of e_int))) a_nil))) (g_name 6 nd) (ss_cons (s_set (i := 7) nd (e_add (o_of (e_mul (o_name 6) (o_name 1))) (o_of (e_callU G_unshuffled (hr.mono (by decide)) T.m9 T.F9.kp T.b9 pass0 (a_cons (o_name 0) (a_cons (o_name 6) (a_cons (o_name 1) (a_cons (o_name 2) a_nil)))) (aCons_len (aCons_len (aCons_len (aCons_len aNil_len))))))))
  (ss_one (s_if (t_cm2 c_le c_lt (o_name 3) (o_name 7) (o_name 4)) (ss_one (s_expr (e_append 5 (e_of (o_name 7))))) ss_nil))))
  (ss_one (s_ret (e_of (o_name 5))))))
/-! ### _law_epoch(state): 0 state 1 seed 2 epoch 3 n 4 due 5 x 6 row -/
def b_law_epoch : MT :=
  (sSeq (sPar [1, 2, 3] (xVal (mCallU m_law_seed (aCons (oName 0) aNil)) (xVal (m2 ixD (oVal (eNew (mLst (mDs [(mC (.int 0)), (mCallU m_law_draw (aCons (oName 0) (aCons (oVal (mC (.int 9))) aNil))), (m2 addD (oVal (m2 powD (oVal (mC (.int 10))) (oVal (mC (.int 12))))) (oVal (mCallU m_law_draw (aCons (oName 0) (aCons (oVal (mC (.int 9))) aNil)))))])))) (oVal (mCallU m_law_draw (aCons (oName 0) (aCons (oVal (mC (.int 3))) aNil))))) (xVal (m2 addD (oVal (mC (.int 1))) (oVal (mCallU m_law_draw (aCons (oName 0) (aCons (oVal (mC (.int 70))) aNil))))) xNil))))
  (sSeq (sNew 4 (mLc (mCall rng1 (aCons (oName 3) aNil)) (gN 5) tYesM (mCallU m_law_walk (aCons (oName 1) (aCons (oName 2) (aCons (oName 3) (aCons (oName 5) aNil))))) [5]))
  (sSeq (sIf (bOr (mB (m2 neD (oVal (eNew (m1F sortF (oName 4)))) (oVal (eNew (mRg (oName 3)))))) (mB (m2 neD (oVal (eNew (mLc (mCall rng1 (aCons (oName 3) aNil)) (gN 5) tYesM (mCallU m_shuffled (aCons (oName 1) (aCons (oName 2) (aCons (oName 3) (aCons (oName 5) aNil))))) [5]))) (oName 4)))) (sRet (mC (.bool false))) sNil)
  (sSeq (sIf (mB (m2 neD (oVal (eNew (mLc (mSeq (mVar 4)) (gN 6) tYesM (mCallU m_unshuffled (aCons (oName 1) (aCons (oName 2) (aCons (oName 3) (aCons (oName 6) aNil))))) [6]))) (oVal (eNew (mRg (oName 3)))))) (sRet (mC (.bool false))) sNil)
  (sRet (m2 eqD (oVal (eNew (mLc (mCall rng1 (aCons (oName 3) aNil)) (gN 5) tYesM (mCallU m_row_at (aCons (oName 1) (aCons (oName 3) (aCons (oVal (m2 addD (oVal (m2 mulD (oName 2) (oName 3))) (oName 5))) aNil)))) [5]))) (oName 4)))))))
def m_law_epoch : FM := fnM 7 b_law_epoch
theorem sc_law_epoch : FnScope ["state", "seed", "epoch", "n", "due", "x", "row"] ["state"] (defScope (topS 18)) := ⟨rfl, rfl, rfl, by decide +kernel, rfl, by decide +kernel, by decide +kernel⟩
theorem ok_law_epoch (T : T K mg a d) : FnOk P w K mg base CX0 5 (a 18) (d 18) ["state"] (spM K 1 m_law_epoch) := by
  have G_law_seed := ok_law_seed (P := P) (w := w) (base := base) T
  have G_law_walk := ok_law_walk (P := P) (w := w) (base := base) T
  have G_law_draw := ok_law_draw (P := P) (w := w) (base := base) T
  have G_unshuffled := ok_unshuffled (P := P) (w := w) (base := base) T
  have G_row_at := ok_row_at (P := P) (w := w) (base := base) T
  have G_shuffled := ok_shuffled (P := P) (w := w) (base := base) T
  have nd := sc_law_epoch.nd
  refine fn_ok (N := ["state", "seed", "epoch", "n", "due", "x", "row"]) (body := b_law_epoch) T.F18 sc_law_epoch (by decide) fun cdv A outer s H E hr => ?_
  have hu : (A.deeper (envOfC "_law_epoch" (defScope (topS 18)) s.heap.objs.size (a 18) cdv)).units + 65 < cLine := by have := hr.un; omega
  have hu64 : (A.deeper (envOfC "_law_epoch" (defScope (topS 18)) s.heap.objs.size (a 18) cdv)).units + 64 < cLine := by have := hr.un; omega
  unfold b_law_epoch
  exact (ss_cons (s_parT rfl (x_val (e_callU G_law_seed (hr.mono (by decide)) T.m17 T.F17.kp T.b17 pass0 (a_cons (o_name 0) a_nil) (aCons_len aNil_len)) (x_val (e_at (o_of (e_new (f_lst (v_cons e_int (v_cons (e_callU G_law_draw (hr.mono (by decide)) T.m14 T.F14.kp T.b14 pass0 (a_cons (o_name 0) (a_cons (o_of e_int) a_nil)) (aCons_len (aCons_len aNil_len))) (v_cons (e_add (o_of (e_pow (o_of e_int) (o_of e_int))) (o_of (e_callU G_law_draw (hr.mono (by decide)) T.m14 T.F14.kp T.b14 pass0 (a_cons (o_name 0) (a_cons (o_of e_int) a_nil)) (aCons_len (aCons_len aNil_len))))) v_nil)))))) (o_of (e_callU G_law_draw (hr.mono (by decide)) T.m14 T.F14.kp T.b14 pass0 (a_cons (o_name 0) (a_cons (o_of e_int) a_nil)) (aCons_len (aCons_len aNil_len))))) (x_val (e_add (o_of e_int) (o_of (e_callU G_law_draw (hr.mono (by decide)) T.m14 T.F14.kp T.b14 pass0 (a_cons (o_name 0) (a_cons (o_of e_int) a_nil)) (aCons_len (aCons_len aNil_len))))) x_nil))) (n_cons 1 nd (n_cons 2 nd (n_cons 3 nd n_nil))))
  (ss_cons (s_lc (own := [("x", 5)]) rfl nd (i_range1 T.z_range (a_cons (o_name 3) a_nil)) (blkOk_by (N := ["state", "seed", "epoch", "n", "due", "x", "row"]) (sc := defScope (topS 18)) (by decide +kernel)) (by decide) (fun _ _ _ _ _ => (g_name 5 nd)) (fun _ _ _ _ _ => ts_nil) (fun _ _ _ _ _ => (e_callU G_law_walk (hr.mono (by decide)) T.m16 T.F16.kp T.b16 pass0 (a_cons (o_name 1) (a_cons (o_name 2) (a_cons (o_name 3) (a_cons (o_name 5) a_nil)))) (aCons_len (aCons_len (aCons_len (aCons_len aNil_len)))))))
  (ss_cons (s_if (t_w (w_or (t_cm (c_ne hu64) (o_of (e_new (f_sortI T.z_sorted (o_name 4)))) (o_of (e_new (f_listRg rfl T.z_list T.z_range (o_name 3))))) (w_or1 (t_cm (c_ne hu64) (o_of (e_new (f_lc (own := [("x", 5)]) rfl nd (i_range1 T.z_range (a_cons (o_name 3) a_nil)) (blkOk_by (N := ["state", "seed", "epoch", "n", "due", "x", "row"]) (sc := defScope (topS 18)) (by decide +kernel)) (by decide) (fun _ _ _ _ _ => (g_name 5 nd)) (fun _ _ _ _ _ => ts_nil) (fun _ _ _ _ _ => (e_callU G_shuffled (hr.mono (by decide)) T.m8 T.F8.kp T.b8 pass0 (a_cons (o_name 1) (a_cons (o_name 2) (a_cons (o_name 3) (a_cons (o_name 5) a_nil)))) (aCons_len (aCons_len (aCons_len (aCons_len aNil_len))))))))) (o_name 4))))) (ss_one (s_ret e_bl)) ss_nil)
  (ss_cons (s_if (t_cm (c_ne hu64) (o_of (e_new (f_lc (own := [("row", 6)]) rfl nd (i_seq (e_of (o_name 4))) (blkOk_by (N := ["state", "seed", "epoch", "n", "due", "x", "row"]) (sc := defScope (topS 18)) (by decide +kernel)) (by decide) (fun _ _ _ _ _ => (g_name 6 nd)) (fun _ _ _ _ _ => ts_nil) (fun _ _ _ _ _ => (e_callU G_unshuffled (hr.mono (by decide)) T.m9 T.F9.kp T.b9 pass0 (a_cons (o_name 1) (a_cons (o_name 2) (a_cons (o_name 3) (a_cons (o_name 6) a_nil)))) (aCons_len (aCons_len (aCons_len (aCons_len aNil_len))))))))) (o_of (e_new (f_listRg rfl T.z_list T.z_range (o_name 3))))) (ss_one (s_ret e_bl)) ss_nil)
  (ss_one (s_ret (e_cm (c_eq hu64) (o_of (e_new (f_lc (own := [("x", 5)]) rfl nd (i_range1 T.z_range (a_cons (o_name 3) a_nil)) (blkOk_by (N := ["state", "seed", "epoch", "n", "due", "x", "row"]) (sc := defScope (topS 18)) (by decide +kernel)) (by decide) (fun _ _ _ _ _ => (g_name 5 nd)) (fun _ _ _ _ _ => ts_nil) (fun _ _ _ _ _ => (e_callU G_row_at (hr.mono (by decide)) T.m10 T.F10.kp T.b10 pass0 (a_cons (o_name 1) (a_cons (o_name 3) (a_cons (o_of (e_add (o_of (e_mul (o_name 2) (o_name 3))) (o_name 5))) a_nil))) (aCons_len (aCons_len (aCons_len aNil_len)))))))) (o_name 4))))))))
/-! ### _law_places(state): 0 state 1 seed 2 n 3 first 4 behind 5 rows 6 place 7 row -/
def b_law_places : MT :=
  (sSeq (sPar [1, 2] (xVal (mCallU m_law_seed (aCons (oName 0) aNil)) (xVal (m2 addD (oVal (mC (.int 1))) (oVal (mCallU m_law_draw (aCons (oName 0) (aCons (oVal (mC (.int 12))) aNil))))) xNil)))
  (sSeq (sSet 3 (m2 ixD (oVal (eNew (mLst (mDs [(mC (.int 0)), (mCallU m_law_draw (aCons (oName 0) (aCons (oVal (mC (.int 40))) aNil))), (m2 addD (oVal (m2 mulD (oName 2) (oVal (m2 powD (oVal (mC (.int 10))) (oVal (mC (.int 9))))))) (oVal (mCallU m_law_draw (aCons (oName 0) (aCons (oVal (mC (.int 40))) aNil)))))])))) (oVal (mCallU m_law_draw (aCons (oName 0) (aCons (oVal (mC (.int 3))) aNil))))))
  (sSeq (sSet 4 (m2 addD (oName 3) (oVal (mCallU m_law_draw (aCons (oName 0) (aCons (oVal (mC (.int 60))) aNil))))))
  (sSeq (sNewK 5)
  (sSeq (sGroup 5 6 (mCall rng2 (aCons (oName 3) (aCons (oName 4) aNil))) (mCallU m_law_walk (aCons (oName 1) (aCons (oVal (mCall intD (aCons (oVal (m2 fdivD (oName 6) (oName 2))) aNil))) (aCons (oName 2) (aCons (oVal (mCall intD (aCons (oVal (m2 modD (oName 6) (oName 2))) aNil))) aNil))))))
  (sRet (mCall allD (aCons (oVal (eNew (mLc (mCall rng1 (aCons (oName 2) aNil)) (gN 7) tYesM (m2 eqD (oVal (mCallU m_places_of_row (aCons (oName 1) (aCons (oName 2) (aCons (oName 7) (aCons (oName 3) (aCons (oName 4) aNil))))))) (oVal (mGet (oName 5) (mVar 7) (mLst (mDs []))))) [7]))) aNil))))))))
def m_law_places : FM := fnM 8 b_law_places
theorem sc_law_places : FnScope ["state", "seed", "n", "first", "behind", "rows", "place", "row"] ["state"] (defScope (topS 19)) := ⟨rfl, rfl, rfl, by decide +kernel, rfl, by decide +kernel, by decide +kernel⟩
theorem ok_law_places (T : T K mg a d) : FnOk P w K mg base CX0 5 (a 19) (d 19) ["state"] (spM K 1 m_law_places) := by
  have G_law_seed := ok_law_seed (P := P) (w := w) (base := base) T
  have G_law_draw := ok_law_draw (P := P) (w := w) (base := base) T
  have G_places_of_row := ok_places_of_row (P := P) (w := w) (base := base) T
  have G_law_walk := ok_law_walk (P := P) (w := w) (base := base) T
  have nd := sc_law_places.nd
  refine fn_ok (N := ["state", "seed", "n", "first", "behind", "rows", "place", "row"]) (body := b_law_places) T.F19 sc_law_places (by decide) fun cdv A outer s H E hr => ?_
  have hu : (A.deeper (envOfC "_law_places" (defScope (topS 19)) s.heap.objs.size (a 19) cdv)).units + 65 < cLine := by have := hr.un; omega
  have hu64 : (A.deeper (envOfC "_law_places" (defScope (topS 19)) s.heap.objs.size (a 19) cdv)).units + 64 < cLine := by have := hr.un; omega
  have hu1 : (A.deeper (envOfC "_law_places" (defScope (topS 19)) s.heap.objs.size (a 19) cdv)).units + 1 < cLine := by omega
  unfold b_law_places
  exact (ss_cons (s_parT rfl (x_val (e_callU G_law_seed (hr.mono (by decide)) T.m17 T.F17.kp T.b17 pass0 (a_cons (o_name 0) a_nil) (aCons_len aNil_len)) (x_val (e_add (o_of e_int) (o_of (e_callU G_law_draw (hr.mono (by decide)) T.m14 T.F14.kp T.b14 pass0 (a_cons (o_name 0) (a_cons (o_of e_int) a_nil)) (aCons_len (aCons_len aNil_len))))) x_nil)) (n_cons 1 nd (n_cons 2 nd n_nil)))
  (ss_cons (s_set (i := 3) nd (e_at (o_of (e_new (f_lst (v_cons e_int (v_cons (e_callU G_law_draw (hr.mono (by decide)) T.m14 T.F14.kp T.b14 pass0 (a_cons (o_name 0) (a_cons (o_of e_int) a_nil)) (aCons_len (aCons_len aNil_len))) (v_cons (e_add (o_of (e_mul (o_name 2) (o_of (e_pow (o_of e_int) (o_of e_int))))) (o_of (e_callU G_law_draw (hr.mono (by decide)) T.m14 T.F14.kp T.b14 pass0 (a_cons (o_name 0) (a_cons (o_of e_int) a_nil)) (aCons_len (aCons_len aNil_len))))) v_nil)))))) (o_of (e_callU G_law_draw (hr.mono (by decide)) T.m14 T.F14.kp T.b14 pass0 (a_cons (o_name 0) (a_cons (o_of e_int) a_nil)) (aCons_len (aCons_len aNil_len))))))
  (ss_cons (s_set (i := 4) nd (e_add (o_name 3) (o_of (e_callU G_law_draw (hr.mono (by decide)) T.m14 T.F14.kp T.b14 pass0 (a_cons (o_name 0) (a_cons (o_of e_int) a_nil)) (aCons_len (aCons_len aNil_len))))))
  (ss_cons (s_newK (i := 5) nd)
  (ss_cons (s_group 5 6 PassesOwn.never rfl nd (i_range2 T.z_range (a_cons (o_name 3) (a_cons (o_name 4) a_nil))) (e_callU G_law_walk (hr.mono (by decide)) T.m16 T.F16.kp T.b16 pass0 (a_cons (o_name 1) (a_cons (o_of (e_intc T.z_int (a_cons (o_of (e_fdiv (o_name 6) (o_name 2))) a_nil))) (a_cons (o_name 2) (a_cons (o_of (e_intc T.z_int (a_cons (o_of (e_mod (o_name 6) (o_name 2))) a_nil))) a_nil)))) (aCons_len (aCons_len (aCons_len (aCons_len aNil_len))))))
  (ss_one (s_ret (e_all rfl T.z_all (a_cons (o_of (e_new (f_lc (own := [("row", 7)]) rfl nd (i_range1 T.z_range (a_cons (o_name 2) a_nil)) (blkOk_by (N := ["state", "seed", "n", "first", "behind", "rows", "place", "row"]) (sc := defScope (topS 19)) (by decide +kernel)) (by decide) (fun _ _ _ _ _ => (g_name 7 nd)) (fun _ _ _ _ _ => ts_nil) (fun _ _ _ _ _ => (e_cm (c_eq hu64) (o_of (e_callU G_places_of_row (hr.mono (by decide)) T.m11 T.F11.kp T.b11 pass0 (a_cons (o_name 1) (a_cons (o_name 2) (a_cons (o_name 7) (a_cons (o_name 3) (a_cons (o_name 4) a_nil))))) (aCons_len (aCons_len (aCons_len (aCons_len (aCons_len aNil_len))))))) (o_of (e_get2 hu1 (o_name 5) (e_of (o_name 7)) (f_lst v_nil)))))))) a_nil)))))))))
/-! ### _law_large(state): 0 state 1 seed 2 n 3 _ 4 epoch 5 x 6 due -/
def b_law_large : MT :=
  (sSeq (sPar [1, 2] (xVal (mCallU m_law_seed (aCons (oName 0) aNil)) (xVal (m2 addD (oVal (mC (.int 1000))) (oVal (mCallU m_law_draw (aCons (oName 0) (aCons (oVal (mC (.int 300000))) aNil))))) xNil)))
  (sSeq (sFor (mCall rng1 (aCons (oVal (mC (.int 3))) aNil)) (gN 3) (sSeq (sPar [4, 5] (xVal (mCallU m_law_draw (aCons (oName 0) (aCons (oVal (m2 powD (oVal (mC (.int 10))) (oVal (mC (.int 9))))) aNil))) (xVal (mCallU m_law_draw (aCons (oName 0) (aCons (oName 2) aNil))) xNil)))
  (sSeq (sSet 6 (mCallU m_law_walk (aCons (oName 1) (aCons (oName 4) (aCons (oName 2) (aCons (oName 5) aNil))))))
  (sIf (bOr (mB (m2 neD (oVal (mCallU m_shuffled (aCons (oName 1) (aCons (oName 4) (aCons (oName 2) (aCons (oName 5) aNil)))))) (oName 6))) (bOr (mB (m2 neD (oVal (mCallU m_unshuffled (aCons (oName 1) (aCons (oName 4) (aCons (oName 2) (aCons (oName 6) aNil)))))) (oName 5))) (mB (m2 neD (oVal (mCallU m_row_at (aCons (oName 1) (aCons (oName 2) (aCons (oVal (m2 addD (oVal (m2 mulD (oName 4) (oName 2))) (oName 5))) aNil))))) (oName 6))))) (sRet (mC (.bool false))) sNil))))
  (sRet (mC (.bool true)))))
def m_law_large : FM := fnM 7 b_law_large
theorem sc_law_large : FnScope ["state", "seed", "n", "_", "epoch", "x", "due"] ["state"] (defScope (topS 20)) := ⟨rfl, rfl, rfl, by decide +kernel, rfl, by decide +kernel, by decide +kernel⟩
theorem ok_law_large (T : T K mg a d) : FnOk P w K mg base CX0 5 (a 20) (d 20) ["state"] (spM K 1 m_law_large) := by
  have G_law_seed := ok_law_seed (P := P) (w := w) (base := base) T
  have G_law_walk := ok_law_walk (P := P) (w := w) (base := base) T
  have G_law_draw := ok_law_draw (P := P) (w := w) (base := base) T
  have G_shuffled := ok_shuffled (P := P) (w := w) (base := base) T
  have G_unshuffled := ok_unshuffled (P := P) (w := w) (base := base) T
  have G_row_at := ok_row_at (P := P) (w := w) (base := base) T
  have nd := sc_law_large.nd
  refine fn_ok (N := ["state", "seed", "n", "_", "epoch", "x", "due"]) (body := b_law_large) T.F20 sc_law_large (by decide) fun cdv A outer s H E hr => ?_
  have hu : (A.deeper (envOfC "_law_large" (defScope (topS 20)) s.heap.objs.size (a 20) cdv)).units + 65 < cLine := by have := hr.un; omega
  have hu64 : (A.deeper (envOfC "_law_large" (defScope (topS 20)) s.heap.objs.size (a 20) cdv)).units + 64 < cLine := by have := hr.un; omega
  unfold b_law_large
  exact (ss_cons (s_par2 (i := 1) (j := 2) rfl nd (by decide) (x_val (e_callU G_law_seed (hr.mono (by decide)) T.m17 T.F17.kp T.b17 pass0 (a_cons (o_name 0) a_nil) (aCons_len aNil_len)) (x_val (e_add (o_of e_int) (o_of (e_callU G_law_draw (hr.mono (by decide)) T.m14 T.F14.kp T.b14 pass0 (a_cons (o_name 0) (a_cons (o_of e_int) a_nil)) (aCons_len (aCons_len aNil_len))))) x_nil)))
  (ss_cons (s_for PassesOwn.never rfl (i_range1 T.z_range (a_cons (o_of e_int) a_nil)) (g_name 3 nd) (ss_cons (s_par2 (i := 4) (j := 5) rfl nd (by decide) (x_val (e_callU G_law_draw (hr.mono (by decide)) T.m14 T.F14.kp T.b14 pass0 (a_cons (o_name 0) (a_cons (o_of (e_pow (o_of e_int) (o_of e_int))) a_nil)) (aCons_len (aCons_len aNil_len))) (x_val (e_callU G_law_draw (hr.mono (by decide)) T.m14 T.F14.kp T.b14 pass0 (a_cons (o_name 0) (a_cons (o_name 2) a_nil)) (aCons_len (aCons_len aNil_len))) x_nil)))
  (ss_cons (s_set (i := 6) nd (e_callU G_law_walk (hr.mono (by decide)) T.m16 T.F16.kp T.b16 pass0 (a_cons (o_name 1) (a_cons (o_name 4) (a_cons (o_name 2) (a_cons (o_name 5) a_nil)))) (aCons_len (aCons_len (aCons_len (aCons_len aNil_len))))))
  (ss_one (s_if (t_w (w_or (t_cm (c_ne hu64) (o_of (e_callU G_shuffled (hr.mono (by decide)) T.m8 T.F8.kp T.b8 pass0 (a_cons (o_name 1) (a_cons (o_name 4) (a_cons (o_name 2) (a_cons (o_name 5) a_nil)))) (aCons_len (aCons_len (aCons_len (aCons_len aNil_len)))))) (o_name 6)) (w_or (t_cm (c_ne hu64) (o_of (e_callU G_unshuffled (hr.mono (by decide)) T.m9 T.F9.kp T.b9 pass0 (a_cons (o_name 1) (a_cons (o_name 4) (a_cons (o_name 2) (a_cons (o_name 6) a_nil)))) (aCons_len (aCons_len (aCons_len (aCons_len aNil_len)))))) (o_name 5)) (w_or1 (t_cm (c_ne hu64) (o_of (e_callU G_row_at (hr.mono (by decide)) T.m10 T.F10.kp T.b10 pass0 (a_cons (o_name 1) (a_cons (o_name 2) (a_cons (o_of (e_add (o_of (e_mul (o_name 4) (o_name 2))) (o_name 5))) a_nil))) (aCons_len (aCons_len (aCons_len aNil_len))))) (o_name 6)))))) (ss_one (s_ret e_bl)) ss_nil)))))
  (ss_one (s_ret e_bl))))
/-! ### law: 0 script 1 state 2 _ -/
def b_law : MT :=
  (sSeq (sFor (mCall rng1 (aCons (oVal (mC (.int 3))) aNil)) (gN 2) (sIf (bOr (bNot (mTruth (oVal (mCallU m_law_epoch (aCons (oName 1) aNil))))) (bNot (mTruth (oVal (mCallU m_law_places (aCons (oName 1) aNil)))))) (sRet (mC (.bool false))) sNil))
  (sRet (eAnd (mCallU m_law_large (aCons (oName 1) aNil)) (eAnd (m2 eqD (oVal (mCallU m_shuffled (aCons (oVal (mC (.int 5))) (aCons (oVal (mC (.int 3))) (aCons (oVal (mC (.int 1))) (aCons (oVal (mC (.int 0))) aNil)))))) (oVal (mC (.int 0)))) (eAnd (m2 eqD (oVal (mCallU m_unshuffled (aCons (oVal (mC (.int 5))) (aCons (oVal (mC (.int 3))) (aCons (oVal (mC (.int 1))) (aCons (oVal (mC (.int 0))) aNil)))))) (oVal (mC (.int 0)))) (m2 eqD (oVal (mCallU m_places_of_row (aCons (oVal (mC (.int 0))) (aCons (oVal (mC (.int 3))) (aCons (oVal (mC (.int 1))) (aCons (oVal (mC (.int 4))) (aCons (oVal (mC (.int 4))) aNil))))))) (oVal (eNew (mLst (mDs []))))))))))
def f_law : Dr → SR := fun dr => b_law ⟨(List.replicate 3 Sl.un).set 1 (.val (.dict [])), dr⟩
theorem sc_law : FnScope ["script", "state", "_"] ["script"] (defScope (topS 21)) := ⟨rfl, rfl, rfl, by decide +kernel, rfl, by decide +kernel, by decide +kernel⟩
theorem ok_law (T : T K mg a d) : FnOk P w K mg base CX0 6 (a 21) (d 21) ["script"] (spLaw K f_law) := by
  have G_law_state := ok_law_state (P := P) (w := w) (base := base) T
  have G_law_large := ok_law_large (P := P) (w := w) (base := base) T
  have G_shuffled := ok_shuffled (P := P) (w := w) (base := base) T
  have G_unshuffled := ok_unshuffled (P := P) (w := w) (base := base) T
  have G_places_of_row := ok_places_of_row (P := P) (w := w) (base := base) T
  have G_law_epoch := ok_law_epoch (P := P) (w := w) (base := base) T
  have G_law_places := ok_law_places (P := P) (w := w) (base := base) T
  have nd := sc_law.nd
  refine T.F21.ok sc_law (fun vs H Q E h => ?_) (fun cdv A outer s H vs Q E hr h => ?_)
  · obtain ⟨aa, ns, rfl, _⟩ := h
    rfl
  · obtain ⟨aa, ns, rfl, hS, hlen, ⟨dr1, hf⟩, k⟩ := h
    have hu : (A.deeper (envOfC "law" (defScope (topS 21)) s.heap.objs.size (a 21) cdv)).units + 65 < cLine := by have := hr.un; omega
    have hu64 : (A.deeper (envOfC "law" (defScope (topS 21)) s.heap.objs.size (a 21) cdv)).units + 64 < cLine := by have := hr.un; omega
    have hb : DSs (cxOf CX0 P w K mg base ["script", "state", "_"] "law" (defScope (topS 21)) (a 21) cdv A outer s H E).nox ((defBody (topS 21)).drop 1) b_law := by
      unfold b_law
      exact (ss_cons (s_for PassesOwn.never rfl (i_range1 T.z_range (a_cons (o_of e_int) a_nil)) (g_name 2 nd) (ss_one (s_if (t_w (w_or (t_not (t_of (o_of (e_callU G_law_epoch (hr.mono (by decide)) T.m18 T.F18.kp T.b18 pass0 (a_cons (o_name 1) a_nil) (aCons_len aNil_len))))) (w_or1 (t_not (t_of (o_of (e_callU G_law_places (hr.mono (by decide)) T.m19 T.F19.kp T.b19 pass0 (a_cons (o_name 1) a_nil) (aCons_len aNil_len)))))))) (ss_one (s_ret e_bl)) ss_nil)))
  (ss_one (s_ret (e_and (e_callU G_law_large (hr.mono (by decide)) T.m20 T.F20.kp T.b20 pass0 (a_cons (o_name 1) a_nil) (aCons_len aNil_len)) (e_and (e_cm (c_eq hu64) (o_of (e_callU G_shuffled (hr.mono (by decide)) T.m8 T.F8.kp T.b8 pass0 (a_cons (o_of e_int) (a_cons (o_of e_int) (a_cons (o_of e_int) (a_cons (o_of e_int) a_nil)))) (aCons_len (aCons_len (aCons_len (aCons_len aNil_len)))))) (o_of e_int)) (e_and (e_cm (c_eq hu64) (o_of (e_callU G_unshuffled (hr.mono (by decide)) T.m9 T.F9.kp T.b9 pass0 (a_cons (o_of e_int) (a_cons (o_of e_int) (a_cons (o_of e_int) (a_cons (o_of e_int) a_nil)))) (aCons_len (aCons_len (aCons_len (aCons_len aNil_len)))))) (o_of e_int)) (e_one (e_cm (c_eq hu64) (o_of (e_callU G_places_of_row (hr.mono (by decide)) T.m11 T.F11.kp T.b11 pass0 (a_cons (o_of e_int) (a_cons (o_of e_int) (a_cons (o_of e_int) (a_cons (o_of e_int) (a_cons (o_of e_int) a_nil))))) (aCons_len (aCons_len (aCons_len (aCons_len (aCons_len aNil_len))))))) (o_of (e_new (f_lst v_nil)))))))))))
    obtain ⟨t, pt, ok⟩ := hb.ex
    refine ⟨_, pss_cons (ps_set (i := 1) nd rfl (by first | exact Or.inl rfl | exact Or.inr rfl) (pe_call G_law_state (hr.mono (by decide)) rfl T.m13 T.F13.kp T.b13 .nil pass0 (pa_cons (pv 0) pa_nil))) pt, ?_⟩
    refine ⟨_, rfl, aa, ns, rfl, hS, hlen, fun H1 p q hp hq npq e1 h1 h2 => ?_⟩
    have r := law_start (K := K) (n := 3) (i := 1) (σ := (L2.start ["script", "state", "_"] [V.ref aa]).set 1 (some (.ref p))) h1 h2 npq rfl rfl
    refine ok _ _ _ H1 _ _ r ?_
    have hf2 : b_law ⟨(List.replicate 3 Sl.un).set 1 (.val (.dict [])), drOf ns⟩ = .rt (.bool true) dr1 := hf
    rw [hf2]
    intro B2 H2 v e2 r2 hv
    cases hv
    exact k H2
end
end Wk
/-! rows drawn: the plain part -/
namespace Sh
/-! ### a map and its way back -/
def it (f : Int → Int) : Nat → Int → Int
  | 0, x => x
  | k + 1, x => f (it f k x)
theorem it_succ' {f : Int → Int} : ∀ {k : Nat} {x : Int}, it f (k + 1) x = it f k (f x)
  | 0, x => rfl
  | k + 1, x => by
    show f (it f (k + 1) x) = f (it f k (f x))
    rw [it_succ']
theorem it_add {f : Int → Int} {j : Nat} : ∀ {k : Nat} {x : Int}, it f (j + k) x = it f j (it f k x)
  | 0, x => rfl
  | k + 1, x => by
    show it f (j + k + 1) x = it f j (it f (k + 1) x)
    rw [it_succ', it_add, ← it_succ']
structure Bij (N : Int) (f u : Int → Int) : Prop where
  f_in : ∀ x, 0 ≤ x → x < N → 0 ≤ f x ∧ f x < N
  u_in : ∀ x, 0 ≤ x → x < N → 0 ≤ u x ∧ u x < N
  uf : ∀ x, 0 ≤ x → x < N → u (f x) = x
  fu : ∀ x, 0 ≤ x → x < N → f (u x) = x
theorem Bij.swap {N : Int} {f u : Int → Int} (b : Bij N f u) : Bij N u f := ⟨b.u_in, b.f_in, b.fu, b.uf⟩
section
variable {N : Int} {f u : Int → Int}
theorem Bij.it_in (b : Bij N f u) {x : Int} (h0 : 0 ≤ x) (h1 : x < N) : ∀ k, 0 ≤ it f k x ∧ it f k x < N
  | 0 => ⟨h0, h1⟩
  | k + 1 => b.f_in _ (b.it_in h0 h1 k).1 (b.it_in h0 h1 k).2
theorem Bij.u_it (b : Bij N f u) {x : Int} (h0 : 0 ≤ x) (h1 : x < N) : ∀ j k, j ≤ k → it u j (it f k x) = it f (k - j) x
  | 0, k, _ => rfl
  | j + 1, k, h => by
    rw [it_succ']
    obtain ⟨k, rfl⟩ : ∃ k', k = k' + 1 := ⟨k - 1, by omega⟩
    show it u j (u (f (it f k x))) = _
    rw [b.uf _ (b.it_in h0 h1 k).1 (b.it_in h0 h1 k).2, b.u_it h0 h1 j k (by omega)]
    congr 1
    omega
/-- places in a row of small numbers: two of N + 1 are alike -/
theorem pigeon : ∀ (n : Nat) (g : Nat → Nat), (∀ i, i ≤ n → g i < n) → ∃ i j, i < j ∧ j ≤ n ∧ g i = g j := by
  intro n
  induction n with
  | zero =>
    intro g h
    exact absurd (h 0 (Nat.le_refl _)) (Nat.not_lt_zero _)
  | succ n ih =>
    intro g h
    by_cases hx : ∃ i, i ≤ n ∧ g i = g (n + 1)
    · obtain ⟨i, hi, e⟩ := hx
      exact ⟨i, n + 1, by omega, Nat.le_refl _, e⟩
    · have hx' : ∀ i, i ≤ n → g i ≠ g (n + 1) := fun i hi e => hx ⟨i, hi, e⟩
      obtain ⟨i, j, h1, h2, h3⟩ := ih (fun i => if g i < g (n + 1) then g i else g i - 1) (fun i hi => by
        have a := h i (by omega)
        have b := hx' i hi
        have c := h (n + 1) (Nat.le_refl _)
        show (if g i < g (n + 1) then g i else g i - 1) < n
        split <;> omega)
      refine ⟨i, j, h1, by omega, ?_⟩
      have a := hx' i (by omega)
      have b := hx' j h2
      replace h3 : (if g i < g (n + 1) then g i else g i - 1) = (if g j < g (n + 1) then g j else g j - 1) := h3
      split at h3 <;> split at h3 <;> omega
/-- it comes back -/
theorem Bij.back (b : Bij N f u) {x : Int} (h0 : 0 ≤ x) (h1 : x < N) : ∃ r : Nat, 1 ≤ r ∧ (r : Int) ≤ N ∧ it f r x = x := by
  obtain ⟨i, j, hij, hj, e⟩ := pigeon N.toNat (fun k => (it f k x).toNat) (fun i _ => by have := b.it_in h0 h1 i; omega)
  have a1 := b.it_in h0 h1 i
  have a2 := b.it_in h0 h1 j
  have e' : it f i x = it f j x := by
    have : (it f i x).toNat = (it f j x).toNat := e
    omega
  refine ⟨j - i, by omega, by omega, ?_⟩
  have := congrArg (it u i) e'
  rw [b.u_it h0 h1 i i (Nat.le_refl _), b.u_it h0 h1 i j (by omega), Nat.sub_self] at this
  exact this.symm
/-- the first return below n -/
theorem Bij.ret (b : Bij N f u) {n x : Int} (h0 : 0 ≤ x) (h1 : x < n) (hn : n ≤ N) : ∃ r : Nat, 1 ≤ r ∧ (r : Int) ≤ N ∧ it f r x < n ∧ ∀ j, 1 ≤ j → j < r → n ≤ it f j x := by
  obtain ⟨r, r1, r2, r3⟩ := b.back h0 (by omega)
  have key : ∀ m : Nat, ∀ r : Nat, r ≤ m → 1 ≤ r → it f r x < n → ∃ s : Nat, 1 ≤ s ∧ s ≤ r ∧ it f s x < n ∧ ∀ j, 1 ≤ j → j < s → n ≤ it f j x := by
    intro m
    induction m with
    | zero => intro r h h'; omega
    | succ m ih =>
      intro r hr hr1 hlt
      by_cases hx : ∃ j, 1 ≤ j ∧ j < r ∧ it f j x < n
      · obtain ⟨j, j1, j2, j3⟩ := hx
        obtain ⟨s, s1, s2, s3, s4⟩ := ih j (by omega) j1 j3
        exact ⟨s, s1, by omega, s3, s4⟩
      · refine ⟨r, hr1, Nat.le_refl _, hlt, fun j j1 j2 => ?_⟩
        rcases Int.lt_or_le (it f j x) n with h | h
        · exact absurd ⟨j, j1, j2, h⟩ hx
        · exact h
  obtain ⟨s, s1, s2, s3, s4⟩ := key r r (Nat.le_refl _) r1 (by rw [r3]; exact h1)
  exact ⟨s, s1, by omega, s3, s4⟩
end
open Classical in
noncomputable def rt (f : Int → Int) (n x : Int) : Nat := if h : ∃ r : Nat, 1 ≤ r ∧ it f r x < n ∧ ∀ j, 1 ≤ j → j < r → n ≤ it f j x then Classical.choose h else 0
/-- the walk along the cycle -/
noncomputable def wk (f : Int → Int) (n x : Int) : Int := it f (rt f n x) x
section
variable {N n : Int} {f u : Int → Int}
theorem Bij.rt_ok (b : Bij N f u) {x : Int} (h0 : 0 ≤ x) (h1 : x < n) (hn : n ≤ N) : 1 ≤ rt f n x ∧ (rt f n x : Int) ≤ N ∧ it f (rt f n x) x < n ∧ ∀ j, 1 ≤ j → j < rt f n x → n ≤ it f j x := by
  obtain ⟨r, r1, r2, r3, r4⟩ := b.ret h0 h1 hn
  have hx : ∃ r : Nat, 1 ≤ r ∧ it f r x < n ∧ ∀ j, 1 ≤ j → j < r → n ≤ it f j x := ⟨r, r1, r3, r4⟩
  have e : rt f n x = Classical.choose hx := dif_pos hx
  obtain ⟨s1, s2, s3⟩ := Classical.choose_spec hx
  rw [← e] at s1 s2 s3
  have : rt f n x ≤ r := by
    rcases Nat.lt_or_ge r (rt f n x) with h | h
    · have := s3 r r1 h; omega
    · exact h
  exact ⟨s1, by omega, s2, s3⟩
theorem Bij.wk_in (b : Bij N f u) {x : Int} (h0 : 0 ≤ x) (h1 : x < n) (hn : n ≤ N) : 0 ≤ wk f n x ∧ wk f n x < n :=
  ⟨(b.it_in h0 (by omega) _).1, (b.rt_ok h0 h1 hn).2.2.1⟩
theorem Bij.rt_back (b : Bij N f u) {x : Int} (h0 : 0 ≤ x) (h1 : x < n) (hn : n ≤ N) : rt u n (wk f n x) = rt f n x := by
  obtain ⟨r1, r2, r3, r4⟩ := b.rt_ok h0 h1 hn
  obtain ⟨w0, w1⟩ := b.wk_in h0 h1 hn
  obtain ⟨s1, s2, s3, s4⟩ := b.swap.rt_ok w0 w1 hn
  have e : ∀ j, j ≤ rt f n x → it u j (wk f n x) = it f (rt f n x - j) x := fun j hj => b.u_it h0 (by omega) j _ hj
  rcases Nat.lt_trichotomy (rt u n (wk f n x)) (rt f n x) with h | h | h
  · rw [e _ (by omega)] at s3
    have := r4 (rt f n x - rt u n (wk f n x)) (by omega) (by omega)
    omega
  · exact h
  · have := s4 (rt f n x) r1 h
    rw [e _ (Nat.le_refl _), Nat.sub_self] at this
    have h2 : it f 0 x = x := rfl
    omega
/-- the way back -/
theorem Bij.wk_back (b : Bij N f u) {x : Int} (h0 : 0 ≤ x) (h1 : x < n) (hn : n ≤ N) : wk u n (wk f n x) = x := by
  show it u (rt u n (wk f n x)) (wk f n x) = x
  rw [b.rt_back h0 h1 hn]
  show it u (rt f n x) (it f (rt f n x) x) = x
  rw [b.u_it h0 (by omega) _ _ (Nat.le_refl _), Nat.sub_self]
  rfl
end
/-! ### the four rounds -/
def rd (F : Nat → Int → Int) (g : Int) (r : Nat) (p : Int × Int) : Int × Int := (p.2, (p.1 + F r p.2) % g)
def rb (F : Nat → Int → Int) (g : Int) (r : Nat) (p : Int × Int) : Int × Int := ((p.2 - F r p.1) % g, p.1)
def fw (F : Nat → Int → Int) (g : Int) : Nat → Int × Int → Int × Int
  | 0, p => p
  | k + 1, p => rd F g k (fw F g k p)
/-- the rounds back: those with numbers below k are left -/
def bw (F : Nat → Int → Int) (g : Int) : Nat → Int × Int → Int × Int
  | 0, p => p
  | k + 1, p => bw F g k (rb F g k p)
def InG (g : Int) (p : Int × Int) : Prop := (0 ≤ p.1 ∧ p.1 < g) ∧ 0 ≤ p.2 ∧ p.2 < g
section
variable {F : Nat → Int → Int} {g : Int} (hg : 0 < g)
include hg
theorem md (x : Int) : 0 ≤ x % g ∧ x % g < g := ⟨Int.emod_nonneg _ (by omega), Int.emod_lt_of_pos _ hg⟩
theorem rd_in {r : Nat} {p : Int × Int} (h : InG g p) : InG g (rd F g r p) := ⟨h.2, md hg _⟩
theorem rb_in {r : Nat} {p : Int × Int} (h : InG g p) : InG g (rb F g r p) := ⟨md hg _, h.1⟩
theorem rb_rd {r : Nat} {p : Int × Int} (h : InG g p) : rb F g r (rd F g r p) = p := by
  obtain ⟨a, b⟩ := p
  obtain ⟨⟨h1, h2⟩, h3, h4⟩ := h
  simp only at h1 h2 h3 h4
  show (((a + F r b) % g - F r b) % g, b) = (a, b)
  rw [Int.emod_sub_emod, Int.add_sub_cancel, Int.emod_eq_of_lt h1 h2]
theorem rd_rb {r : Nat} {p : Int × Int} (h : InG g p) : rd F g r (rb F g r p) = p := by
  obtain ⟨a, b⟩ := p
  obtain ⟨⟨h1, h2⟩, h3, h4⟩ := h
  simp only at h1 h2 h3 h4
  show (a, ((b - F r a) % g + F r a) % g) = (a, b)
  rw [Int.emod_add_emod, Int.sub_add_cancel, Int.emod_eq_of_lt h3 h4]
theorem fw_in {p : Int × Int} (h : InG g p) : ∀ k, InG g (fw F g k p)
  | 0 => h
  | k + 1 => rd_in hg (fw_in h k)
theorem bw_in : ∀ k {p : Int × Int}, InG g p → InG g (bw F g k p)
  | 0, _, h => h
  | k + 1, _, h => bw_in k (rb_in hg h)
theorem bw_fw {p : Int × Int} (h : InG g p) : ∀ k, bw F g k (fw F g k p) = p
  | 0 => rfl
  | k + 1 => by
    show bw F g k (rb F g k (rd F g k (fw F g k p))) = p
    rw [rb_rd hg (fw_in hg h k), bw_fw h k]
theorem fw_bw : ∀ k {p : Int × Int}, InG g p → fw F g k (bw F g k p) = p
  | 0, _, _ => rfl
  | k + 1, p, h => by
    show rd F g k (fw F g k (bw F g k (rb F g k p))) = p
    rw [fw_bw k (rb_in hg h), rd_rb hg h]
end
def spl (g x : Int) : Int × Int := (x / g, x % g)
def jn (g : Int) (p : Int × Int) : Int := p.1 * g + p.2
def T (F : Nat → Int → Int) (g x : Int) : Int := jn g (fw F g 4 (spl g x))
def U (F : Nat → Int → Int) (g x : Int) : Int := jn g (bw F g 4 (spl g x))
section
variable {F : Nat → Int → Int} {g : Int} (hg : 0 < g)
include hg
theorem spl_in {x : Int} (h0 : 0 ≤ x) (h1 : x < g * g) : InG g (spl g x) := ⟨⟨Int.ediv_nonneg h0 (Int.le_of_lt hg), Int.ediv_lt_of_lt_mul hg h1⟩, md hg _⟩
theorem jn_in {p : Int × Int} (h : InG g p) : 0 ≤ jn g p ∧ jn g p < g * g := by
  obtain ⟨a, b⟩ := p
  obtain ⟨⟨h1, h2⟩, h3, h4⟩ := h
  simp only at h1 h2 h3 h4
  show 0 ≤ a * g + b ∧ a * g + b < g * g
  have h5 := Int.mul_nonneg h1 (Int.le_of_lt hg)
  have h6 : (a + 1) * g ≤ g * g := Int.mul_le_mul_of_nonneg_right (by omega) (Int.le_of_lt hg)
  rw [Int.add_mul, Int.one_mul] at h6
  omega
theorem spl_jn {p : Int × Int} (h : InG g p) : spl g (jn g p) = p := by
  obtain ⟨a, b⟩ := p
  obtain ⟨⟨h1, h2⟩, h3, h4⟩ := h
  simp only at h1 h2 h3 h4
  show ((a * g + b) / g, (a * g + b) % g) = (a, b)
  rw [Int.add_comm, Int.add_mul_ediv_right _ _ (by omega), Int.add_mul_emod_self_right, Int.ediv_eq_zero_of_lt h3 h4, Int.emod_eq_of_lt h3 h4, Int.zero_add]
theorem jn_spl {x : Int} : jn g (spl g x) = x := by
  show x / g * g + x % g = x
  rw [Int.mul_comm]
  exact Int.mul_ediv_add_emod x g
theorem bij : Bij (g * g) (T F g) (U F g) := ⟨
  fun x h0 h1 => jn_in hg (fw_in hg (spl_in hg h0 h1) 4),
  fun x h0 h1 => jn_in hg (bw_in hg 4 (spl_in hg h0 h1)),
  fun x h0 h1 => by
    show jn g (bw F g 4 (spl g (jn g (fw F g 4 (spl g x))))) = x
    rw [spl_jn hg (fw_in hg (spl_in hg h0 h1) 4), bw_fw hg (spl_in hg h0 h1), jn_spl hg],
  fun x h0 h1 => by
    show jn g (fw F g 4 (spl g (jn g (bw F g 4 (spl g x))))) = x
    rw [spl_jn hg (bw_in hg 4 (spl_in hg h0 h1)), fw_bw hg 4 (spl_in hg h0 h1), jn_spl hg]⟩
end
end Sh
namespace Wk
open PySem PySem.Spec PyProof.Rows L2 Mi Sh
def mixS (m t c : Int) : Int := (((t + c) % m) * ((t + c) % m) * ((t + c) % m) + 3 * ((t + c) % m) * ((t + c) % m) + 1000003 * ((t + c) % m) + 12345) % m
def mixL (row : List Int) (m : Int) : Int := row.foldl (mixS m) ((7 * row.length + 1) % m)
theorem mod_b {x m : Int} (h0 : 0 < m) (h1 : m < 2 ^ 70) : (x % m).natAbs < 2 ^ 70 := by
  have a := Int.emod_nonneg x (show m ≠ 0 by omega)
  have b := Int.emod_lt_of_pos x h0
  omega
theorem mixL_lt {row : List Int} {m : Int} (h0 : 0 < m) : 0 ≤ mixL row m ∧ mixL row m < m := by
  have key : ∀ (row : List Int) (t : Int), 0 ≤ t ∧ t < m → 0 ≤ row.foldl (mixS m) t ∧ row.foldl (mixS m) t < m := by
    intro row
    induction row with
    | nil => intro t h; exact h
    | cons c row ih => intro t h; exact ih _ ⟨Int.emod_nonneg _ (by omega), Int.emod_lt_of_pos _ h0⟩
  exact key row _ ⟨Int.emod_nonneg _ (by omega), Int.emod_lt_of_pos _ h0⟩
theorem mixed_row_ev {seq : D} {row : List Int} {m : Int} {dr : Dr} (hs : items seq = some (row.map .int)) (hn : lenD [seq] = some (.int row.length)) (h0 : 0 < m) (h1 : m < 2 ^ 70) (hl : row.length < 2 ^ 40) : m_mixed_row [seq, .int m] dr = some (.int (mixL row m), dr) := by
  refine fnM_eq ?_
  unfold b_mixed_row
  simp -dsimp [hn, mulD_of 3 40 (a := 7) (b := (row.length : Int)) (by decide) (by omega) (by decide), modD_of h0]
  refine w_forW PyData.int (fun t μ => ∃ a b, μ = ⟨[.val seq, .val (.int m), .val (.int t), a, b], dr⟩) (mixS m) row ((7 * row.length + 1) % m) ?_ ?_ ?_
  · simp -dsimp [hs]
  · rintro pre x post μ e ⟨a, b, rfl⟩
    have hh := mod_b (x := pre.foldl (mixS m) ((7 * row.length + 1) % m) + x) h0 h1
    have h2 := mulB 70 70 hh hh
    simp -dsimp [modD_of h0, mulD_of 70 70 hh hh (by decide), mulD_of 140 70 h2 hh (by decide), mulD_of 2 70 (a := 3) (by decide) hh (by decide), mulD_of 72 70 (mulB (a := 3) 2 70 (by decide) hh) hh (by decide), mulD_of 20 70 (a := 1000003) (by decide) hh (by decide), mixS]
  · rintro μ ⟨a, b, rfl⟩
    simp -dsimp [mixL]
abbrev PM : Int := 2305843009213693951
theorem law_mix_ev {row : List Int} {dr : Dr} (hl : row.length < 2 ^ 40) : m_law_mix [.list (row.map .int)] dr = some (.int (mixL row PM), dr) := by
  have h0 : (0 : Int) < 2305843009213693951 := by decide
  have h1 : (2305843009213693951 : Int) < 2 ^ 70 := by decide
  have hn : lenD [.list (row.map .int)] = some (.int row.length) := by
    show some (PyData.int ((row.map PyData.int).length : Nat)) = _
    rw [List.length_map]
  refine fnM_eq ?_
  unfold b_law_mix
  simp -dsimp [hn, mulD_of 3 40 (a := 7) (b := (row.length : Int)) (by decide) (by omega) (by decide), modD_of h0]
  refine w_forW PyData.int (fun t μ => ∃ a b, μ = ⟨[.val (.list (row.map .int)), .val (.int t), a, b], dr⟩) (mixS PM) row ((7 * row.length + 1) % PM) ?_ ?_ ?_
  · simp -dsimp
  · rintro pre x post μ e ⟨a, b, rfl⟩
    have hh := mod_b (x := pre.foldl (mixS 2305843009213693951) ((7 * row.length + 1) % 2305843009213693951) + x) h0 h1
    have h2 := mulB 70 70 hh hh
    simp -dsimp [modD_of h0, mulD_of 70 70 hh hh (by decide), mulD_of 140 70 h2 hh (by decide), mulD_of 2 70 (a := 3) (by decide) hh (by decide), mulD_of 72 70 (mulB (a := 3) 2 70 (by decide) hh) hh (by decide), mulD_of 20 70 (a := 1000003) (by decide) hh (by decide), mixS]
  · rintro μ ⟨a, b, rfl⟩
    simp -dsimp [mixL]
/-- the rounds' numbers -/
def Fk (seed epoch n : Int) (r : Nat) (b : Int) : Int := mixL [seed, epoch, n, (r : Int), b] PM
theorem mx_ev {seed epoch n : Int} {r : Nat} {b : Int} {dr : Dr} : m_mixed_row [.tuple [.int seed, .int epoch, .int n, .int (r : Int), .int b], d_MIX_MODULUS] dr = some (.int (Fk seed epoch n r b), dr) :=
  mixed_row_ev (seq := .tuple [.int seed, .int epoch, .int n, .int (r : Int), .int b]) (row := [seed, epoch, n, (r : Int), b]) rfl rfl (by decide) (by decide) (by simp)
theorem lm_ev {seed epoch n : Int} {r : Nat} {b : Int} {dr : Dr} : m_law_mix [.list [.int seed, .int epoch, .int n, .int (r : Int), .int b]] dr = some (.int (Fk seed epoch n r b), dr) :=
  law_mix_ev (row := [seed, epoch, n, (r : Int), b]) (by simp)
def key3 (seed epoch n : Int) : D := .tuple [.int seed, .int epoch, .int n]
theorem key_cat {seed epoch n : Int} {a b : D} : addD (key3 seed epoch n) (.tuple [a, b]) = some (.tuple [.int seed, .int epoch, .int n, a, b]) := rfl
theorem sm {a g : Int} (h0 : 0 ≤ a) (h1 : a < g) (hg : g ≤ 2 ^ 20) : a.natAbs < 2 ^ 20 := by omega
theorem stirred_ev {seed epoch n g x : Int} {dr : Dr} (hg : 0 < g) (hg2 : g ≤ 2 ^ 20) (h0 : 0 ≤ x) (h1 : x < g * g) : m_stirred [key3 seed epoch n, .int g, .int x] dr = some (.int (Sh.T (Fk seed epoch n) g x), dr) := by
  refine fnM_eq ?_
  unfold b_stirred
  have hi := spl_in hg h0 h1
  have e1 : fdivD (.int x) (.int g) = some (.int (x / g)) := fdivD_of hg (Nat.lt_of_lt_of_le (show g.natAbs < 2 ^ 21 by omega) (Nat.pow_le_pow_right (by decide) (by decide)))
  simp -dsimp [e1, modD_of hg]
  refine w_forN (fun i : Nat => .int i) (fun i μ => ∃ s5, μ = ⟨[.val (key3 seed epoch n), .val (.int g), .val (.int x), .val (.int (fw (Fk seed epoch n) g i (spl g x)).1), .val (.int (fw (Fk seed epoch n) g i (spl g x)).2), s5], dr⟩) (List.range 4) ?_ ?_ ?_
  · have : rng1 [d_ROUNDS] = some ((List.range 4).map fun (i : Nat) => .int (i : Int)) := rng1_nat (n := 4) (by decide)
    simp -dsimp [this, fw, spl]
  · rintro i y μ hy ⟨s5, rfl⟩
    obtain ⟨rfl, hlt⟩ := range_get hy
    simp -dsimp [key_cat, mx_ev, modD_of hg, fw, rd]
  · rintro μ ⟨s5, rfl⟩
    have h4 := fw_in (F := Fk seed epoch n) hg hi 4
    simp -dsimp [mulD_of 20 21 (sm h4.1.1 h4.1.2 hg2) (show g.natAbs < 2 ^ 21 by omega) (by decide)]
    rfl
theorem stirred_back_ev {seed epoch n g x : Int} {dr : Dr} (hg : 0 < g) (hg2 : g ≤ 2 ^ 20) (h0 : 0 ≤ x) (h1 : x < g * g) : m_stirred_back [key3 seed epoch n, .int g, .int x] dr = some (.int (Sh.U (Fk seed epoch n) g x), dr) := by
  refine fnM_eq ?_
  unfold b_stirred_back
  have hi := spl_in hg h0 h1
  have e1 : fdivD (.int x) (.int g) = some (.int (x / g)) := fdivD_of hg (Nat.lt_of_lt_of_le (show g.natAbs < 2 ^ 21 by omega) (Nat.pow_le_pow_right (by decide) (by decide)))
  have e3 : subD d_ROUNDS (.int 1) = some (.int 3) := rfl
  simp -dsimp [e1, modD_of hg, e3]
  refine w_forN (fun i : Nat => .int i) (fun i μ => ∃ s5 a b, bw (Fk seed epoch n) g (4 - i) (a, b) = bw (Fk seed epoch n) g 4 (spl g x) ∧ μ = ⟨[.val (key3 seed epoch n), .val (.int g), .val (.int x), .val (.int a), .val (.int b), s5], dr⟩) [3, 2, 1, 0] ?_ ?_ ?_
  · have : rng3 [.int 3, .int (-1), .int (-1)] = some ([3, 2, 1, 0].map fun (i : Nat) => .int (i : Int)) := rfl
    simp -dsimp [e3, this]
    exact ⟨.un, x / g, x % g, rfl, rfl, rfl, rfl⟩
  · rintro i y μ hy ⟨s5, a, b, hab, rfl⟩
    have hyi : i < 4 ∧ y = 3 - i := by
      rcases i with _ | _ | _ | _ | i
      · simp at hy; omega
      · simp at hy; omega
      · simp at hy; omega
      · simp at hy; omega
      · simp at hy
    obtain ⟨hi4, rfl⟩ := hyi
    have hk : ∀ (r : Nat) (b : Int) (dr : Dr), m_mixed_row [.tuple [.int seed, .int epoch, .int n, .int (r : Int), .int b], d_MIX_MODULUS] dr = some (.int (Fk seed epoch n r b), dr) := fun r b dr => mx_ev
    generalize hr : 3 - i = r at *
    simp -dsimp [key_cat, hk, modD_of hg]
    have h4 : 4 - i = r + 1 := by omega
    rw [h4] at hab
    refine ⟨_, _, _, ?_, rfl, rfl, rfl⟩
    rw [hr]
    exact hab
  · rintro μ ⟨s5, a, b, hab, rfl⟩
    have hab' : (a, b) = bw (Fk seed epoch n) g 4 (spl g x) := hab
    have h4 := bw_in (F := Fk seed epoch n) hg 4 hi
    rw [← hab'] at h4
    simp -dsimp [mulD_of 20 21 (sm h4.1.1 h4.1.2 hg2) (show g.natAbs < 2 ^ 21 by omega) (by decide)]
    show a * g + b = jn g (bw (Fk seed epoch n) g 4 (spl g x))
    rw [← hab']
    rfl
/-! ### the side -/
structure Side (n : Int) (k : Nat) : Prop where
  lo : ∀ j, j < k → ((2 : Int) ^ j) * 2 ^ j < n
  hi : n ≤ (2 : Int) ^ k * 2 ^ k
  le : k ≤ 10
theorem side_ex {n : Int} (h : n ≤ 1000000) : ∃ k, Side n k := by
  have key : ∀ m : Nat, ∀ k : Nat, 10 - k = m → k ≤ 10 → (∀ j, j < k → ((2 : Int) ^ j) * 2 ^ j < n) → ∃ k, Side n k := by
    intro m
    induction m with
    | zero =>
      intro k hk hk2 hl
      have : k = 10 := by omega
      subst this
      exact ⟨10, hl, by have : (2 : Int) ^ 10 * 2 ^ 10 = 1048576 := by decide
                        omega, by decide⟩
    | succ m ih =>
      intro k hk hk2 hl
      by_cases hn : n ≤ (2 : Int) ^ k * 2 ^ k
      · exact ⟨k, hl, hn, hk2⟩
      · refine ih (k + 1) (by omega) (by omega) fun j hj => ?_
        rcases Nat.lt_or_eq_of_le (Nat.le_of_lt_succ hj) with h | h
        · exact hl j h
        · subst h; omega
  exact key 10 0 (by decide) (by decide) fun j hj => absurd hj (Nat.not_lt_zero _)
theorem p2b {j : Nat} (h : j ≤ 10) : ((2 : Int) ^ j).natAbs < 2 ^ 11 ∧ 0 < (2 : Int) ^ j ∧ (2 : Int) ^ j ≤ 1024 := by
  have h1 : (2 : Nat) ^ j ≤ 2 ^ 10 := Nat.pow_le_pow_right (by decide) h
  have h2 : ((2 ^ j : Nat) : Int) = (2 : Int) ^ j := by simp
  have h3 : 0 < (2 : Nat) ^ j := Nat.two_pow_pos j
  omega
theorem side_of_ev {n : Int} {k : Nat} {dr : Dr} (s : Side n k) : m_side_of [.int n] dr = some (.int (2 ^ k), dr) := by
  refine fnM_eq ?_
  unfold b_side_of
  simp -dsimp
  refine w_while (fun m μ => ∃ j : Nat, j + m = k ∧ μ = ⟨[.val (.int n), .val (.int (2 ^ j))], dr⟩) (n := k) (by have := s.le; unfold fuel; omega) ⟨0, by omega, rfl⟩ ?_
  rintro m μ ⟨j, hj, rfl⟩
  have hb := p2b (j := j) (by have := s.le; omega)
  simp -dsimp [mulD_of 11 11 hb.1 hb.1 (by decide), mulD_of 2 11 (a := 2) (by decide) hb.1 (by decide)]
  by_cases hm : m = 0
  · have : j = k := by omega
    subst this
    rw [if_neg (by have := s.hi; omega)]
  · rw [if_pos (s.lo j (by omega))]
    exact ⟨m - 1, by omega, j + 1, by omega, by rw [Int.pow_succ, Int.mul_comm]⟩
section
variable {seed epoch n : Int} {k : Nat}
/-- the walk of an epoch -/
noncomputable def wkE (seed epoch n : Int) (k : Nat) (x : Int) : Int := Sh.wk (Sh.T (Fk seed epoch n) (2 ^ k)) n x
noncomputable def wuE (seed epoch n : Int) (k : Nat) (x : Int) : Int := Sh.wk (Sh.U (Fk seed epoch n) (2 ^ k)) n x
theorem bijE (s : Side n k) : Bij ((2 : Int) ^ k * 2 ^ k) (Sh.T (Fk seed epoch n) (2 ^ k)) (Sh.U (Fk seed epoch n) (2 ^ k)) := bij (p2b s.le).2.1
theorem N_le (s : Side n k) : (2 : Int) ^ k * 2 ^ k ≤ 1048576 := by
  have h := (p2b s.le).2
  have : (2 : Int) ^ k * 2 ^ k ≤ 1024 * 1024 := Int.mul_le_mul h.2 h.2 (by omega) (by decide)
  omega
theorem shuffled_ev {x : Int} {dr : Dr} (s : Side n k) (h0 : 0 ≤ x) (h1 : x < n) : m_shuffled [.int seed, .int epoch, .int n, .int x] dr = some (.int (wkE seed epoch n k x), dr) := by
  have b := bijE (seed := seed) (epoch := epoch) s
  have hk := p2b s.le
  have hN := N_le s
  obtain ⟨r1, r2, r3, r4⟩ := b.rt_ok h0 h1 s.hi
  have hw : wkE seed epoch n k x = it (Sh.T (Fk seed epoch n) (2 ^ k)) (rt (Sh.T (Fk seed epoch n) (2 ^ k)) n x) x := rfl
  rw [hw]
  generalize rt (Sh.T (Fk seed epoch n) (2 ^ k)) n x = r at *
  have st : ∀ (y : Int) (dr : Dr), 0 ≤ y → y < (2 : Int) ^ k * 2 ^ k → m_stirred [.tuple [.int seed, .int epoch, .int n], .int (2 ^ k), .int y] dr = some (.int (Sh.T (Fk seed epoch n) (2 ^ k) y), dr) := fun y dr y0 y1 => stirred_ev hk.2.1 (by omega) y0 y1
  refine fnM_eq ?_
  unfold b_shuffled
  simp -dsimp [side_of_ev s, st x dr h0 (by have := s.hi; omega)]
  refine w_while (fun m μ => ∃ j : Nat, 1 ≤ j ∧ j + m = r ∧ μ = ⟨[.val (.int seed), .val (.int epoch), .val (.int n), .val (.int x), .val (.int (2 ^ k)), .val (.int (it (Sh.T (Fk seed epoch n) (2 ^ k)) j x))], dr⟩) (n := r - 1) (by unfold fuel; omega) ⟨1, by omega, by omega, rfl⟩ ?_
  rintro m μ ⟨j, j1, hj, rfl⟩
  have hin := b.it_in h0 (by have := s.hi; omega) j
  simp -dsimp [st _ dr hin.1 hin.2]
  by_cases hm : m = 0
  · have : j = r := by omega
    subst this
    rw [if_neg (by omega)]
  · rw [if_pos (r4 j j1 (by omega))]
    exact ⟨m - 1, by omega, j + 1, by omega, by omega, rfl⟩
theorem unshuffled_ev {x : Int} {dr : Dr} (s : Side n k) (h0 : 0 ≤ x) (h1 : x < n) : m_unshuffled [.int seed, .int epoch, .int n, .int x] dr = some (.int (wuE seed epoch n k x), dr) := by
  have b := (bijE (seed := seed) (epoch := epoch) s).swap
  have hk := p2b s.le
  have hN := N_le s
  obtain ⟨r1, r2, r3, r4⟩ := b.rt_ok h0 h1 s.hi
  have hw : wuE seed epoch n k x = it (Sh.U (Fk seed epoch n) (2 ^ k)) (rt (Sh.U (Fk seed epoch n) (2 ^ k)) n x) x := rfl
  rw [hw]
  generalize rt (Sh.U (Fk seed epoch n) (2 ^ k)) n x = r at *
  have st : ∀ (y : Int) (dr : Dr), 0 ≤ y → y < (2 : Int) ^ k * 2 ^ k → m_stirred_back [.tuple [.int seed, .int epoch, .int n], .int (2 ^ k), .int y] dr = some (.int (Sh.U (Fk seed epoch n) (2 ^ k) y), dr) := fun y dr y0 y1 => stirred_back_ev hk.2.1 (by omega) y0 y1
  refine fnM_eq ?_
  unfold b_unshuffled
  simp -dsimp [side_of_ev s, st x dr h0 (by have := s.hi; omega)]
  refine w_while (fun m μ => ∃ j : Nat, 1 ≤ j ∧ j + m = r ∧ μ = ⟨[.val (.int seed), .val (.int epoch), .val (.int n), .val (.int x), .val (.int (2 ^ k)), .val (.int (it (Sh.U (Fk seed epoch n) (2 ^ k)) j x))], dr⟩) (n := r - 1) (by unfold fuel; omega) ⟨1, by omega, by omega, rfl⟩ ?_
  rintro m μ ⟨j, j1, hj, rfl⟩
  have hin := b.it_in h0 (by have := s.hi; omega) j
  simp -dsimp [st _ dr hin.1 hin.2]
  by_cases hm : m = 0
  · have : j = r := by omega
    subst this
    rw [if_neg (by omega)]
  · rw [if_pos (r4 j j1 (by omega))]
    exact ⟨m - 1, by omega, j + 1, by omega, by omega, rfl⟩
end
end Wk
namespace Wk
open PySem PySem.Spec PyProof.Rows L2 Mi Sh
section
variable {seed epoch n : Int} {k : Nat}
theorem law_walk_ev {x : Int} {dr : Dr} (s : Side n k) (h0 : 0 ≤ x) (h1 : x < n) : m_law_walk [.int seed, .int epoch, .int n, .int x] dr = some (.int (wkE seed epoch n k x), dr) := by
  have b := bijE (seed := seed) (epoch := epoch) s
  have hk := p2b s.le
  have hN := N_le s
  obtain ⟨r1, r2, r3, r4⟩ := b.rt_ok h0 h1 s.hi
  have hw : wkE seed epoch n k x = it (Sh.T (Fk seed epoch n) (2 ^ k)) (rt (Sh.T (Fk seed epoch n) (2 ^ k)) n x) x := rfl
  rw [hw]
  generalize rt (Sh.T (Fk seed epoch n) (2 ^ k)) n x = r at *
  refine fnM_eq ?_
  unfold b_law_walk
  simp -dsimp
  refine w_while (fun m μ => ∃ j : Nat, j + m = k ∧ μ = ⟨[.val (.int seed), .val (.int epoch), .val (.int n), .val (.int x), .val (.int (2 ^ j)), .un, .un, .un], dr⟩) (n := k) (by have := s.le; unfold fuel; omega) ⟨0, by omega, rfl⟩ ?_
  rintro m μ ⟨j, hj, rfl⟩
  have hb := p2b (j := j) (by have := s.le; omega)
  simp -dsimp [mulD_of 11 11 hb.1 hb.1 (by decide), mulD_of 2 11 (a := 2) (by decide) hb.1 (by decide)]
  by_cases hm : m = 0
  · have : j = k := by omega
    subst this
    rw [if_neg (by have := s.hi; omega)]
    refine w_while (fun m μ => ∃ (i : Nat) (a5 a6 a7 : Sl), i < r ∧ i + m = r ∧ μ = ⟨[.val (.int seed), .val (.int epoch), .val (.int n), .val (.int (it (Sh.T (Fk seed epoch n) (2 ^ j)) i x)), .val (.int (2 ^ j)), a5, a6, a7], dr⟩) (n := r) (by unfold fuel; omega) ⟨0, .un, .un, .un, by omega, by omega, rfl⟩ ?_
    rintro m μ ⟨i, a5, a6, a7, hir, him, rfl⟩
    have hin := b.it_in h0 (by have := s.hi; omega) i
    have hnext : it (Sh.T (Fk seed epoch n) (2 ^ j)) (i + 1) x = Sh.T (Fk seed epoch n) (2 ^ j) (it (Sh.T (Fk seed epoch n) (2 ^ j)) i x) := rfl
    have e1 : fdivD (.int (it (Sh.T (Fk seed epoch n) (2 ^ j)) i x)) (.int (2 ^ j)) = some (.int (it (Sh.T (Fk seed epoch n) (2 ^ j)) i x / 2 ^ j)) := fdivD_of hk.2.1 (Nat.lt_of_lt_of_le hk.1 (Nat.pow_le_pow_right (by decide) (by decide)))
    simp -dsimp [e1, modD_of hk.2.1]
    have hsp := spl_in hk.2.1 hin.1 hin.2
    generalize hy : it (Sh.T (Fk seed epoch n) (2 ^ j)) i x = y at *
    refine w_forN (fun i : Nat => .int i) (fun i μ => ∃ s7, μ = ⟨[.val (.int seed), .val (.int epoch), .val (.int n), .val (.int y), .val (.int (2 ^ j)), .val (.int (fw (Fk seed epoch n) (2 ^ j) i (spl (2 ^ j) y)).1), .val (.int (fw (Fk seed epoch n) (2 ^ j) i (spl (2 ^ j) y)).2), s7], dr⟩) (List.range 4) ?_ ?_ ?_
    · have : rng1 [.int 4] = some ((List.range 4).map fun (i : Nat) => .int (i : Int)) := rng1_nat (n := 4) (by decide)
      simp -dsimp [this, fw, spl]
    · rintro t y' μ ht ⟨s7, rfl⟩
      obtain ⟨rfl, hlt⟩ := range_get ht
      simp -dsimp [lm_ev, modD_of hk.2.1, fw, rd]
    · rintro μ ⟨s7, hμ⟩
      rw [show (List.range 4).length = 4 from rfl] at hμ
      subst hμ
      obtain ⟨⟨q1, q2⟩, q3, q4⟩ := fw_in (F := Fk seed epoch n) hk.2.1 hsp 4
      have hT : (fw (Fk seed epoch n) (2 ^ j) 4 (spl (2 ^ j) y)).1 * 2 ^ j + (fw (Fk seed epoch n) (2 ^ j) 4 (spl (2 ^ j) y)).2 = Sh.T (Fk seed epoch n) (2 ^ j) y := rfl
      have hmul := mulD_of 20 11 (a := (fw (Fk seed epoch n) (2 ^ j) 4 (spl (2 ^ j) y)).1) (b := 2 ^ j) (by omega) hk.1 (by decide)
      generalize (fw (Fk seed epoch n) (2 ^ j) 4 (spl (2 ^ j) y)) = q at *
      simp -dsimp [hmul]
      rw [hT, ← hnext]
      by_cases hl : i + 1 = r
      · rw [hl, if_pos r3]
      · have := r4 (i + 1) (by omega) (by omega)
        rw [if_neg (by omega)]
        exact ⟨m - 1, by omega, i + 1, by omega, by omega, rfl⟩
  · rw [if_pos (s.lo j (by omega))]
    exact ⟨m - 1, by omega, j + 1, by omega, by rw [Int.pow_succ, Int.mul_comm]⟩
theorem row_at_ev {p : Int} {dr : Dr} (s : Side n k) (hn : 0 < n) (h0 : 0 ≤ p) : m_row_at [.int seed, .int n, .int p] dr = some (.int (wkE seed (p / n) n k (p % n)), dr) := by
  have hn2 : n ≤ 1048576 := Int.le_trans s.hi (N_le s)
  have e1 : fdivD (.int p) (.int n) = some (.int (p / n)) := fdivD_of hn (Nat.lt_of_lt_of_le (show n.natAbs < 2 ^ 21 by omega) (Nat.pow_le_pow_right (by decide) (by decide)))
  refine fnM_eq ?_
  unfold b_row_at
  simp -dsimp [e1, modD_of hn, shuffled_ev (seed := seed) (epoch := p / n) s (Int.emod_nonneg p (by omega)) (Int.emod_lt_of_pos p hn)]
/-- the places of a row, epoch by epoch -/
noncomputable def plc (seed n : Int) (k : Nat) (row first behind : Int) : List Int :=
  ((List.range (behind / n + 1 - first / n).toNat).map fun (t : Nat) => (first / n + (t : Int)) * n + wuE seed (first / n + (t : Int)) n k row).filter fun p => decide (first ≤ p) && decide (p < behind)
theorem places_of_row_ev {row first behind : Int} {dr : Dr} (s : Side n k) (hn : 0 < n) (h0 : 0 ≤ row) (h1 : row < n) (hf : 0 ≤ first) (hb : first ≤ behind) (hb2 : behind < 2 ^ 60) (hsp : behind / n + 1 - first / n < 1000) :
    m_places_of_row [.int seed, .int n, .int row, .int first, .int behind] dr = some (.list ((plc seed n k row first behind).map .int), dr) := by
  have hn2 : n ≤ 1048576 := Int.le_trans s.hi (N_le s)
  have hnn : n.natAbs < 2 ^ 8000 := Nat.lt_of_lt_of_le (show n.natAbs < 2 ^ 21 by omega) (Nat.pow_le_pow_right (by decide) (by decide))
  have e1 : fdivD (.int first) (.int n) = some (.int (first / n)) := fdivD_of hn hnn
  have e2 : fdivD (.int behind) (.int n) = some (.int (behind / n)) := fdivD_of hn hnn
  have f0 : 0 ≤ first / n := Int.ediv_nonneg hf (by omega)
  have f1 : first / n ≤ first := Int.ediv_le_self _ hf
  have b0 : 0 ≤ behind / n := Int.ediv_nonneg (by omega) (by omega)
  have b1 : behind / n ≤ behind := Int.ediv_le_self _ (by omega)
  have hr := rng2_int (i := first / n) (j := behind / n + 1) f0 (by omega) (by omega) (by omega)
  refine fnM_eq ?_
  unfold b_places_of_row plc
  generalize hcn : (behind / n + 1 - first / n).toNat = cnt at *
  have hc : cnt < 2 ^ 61 := by omega
  simp -dsimp
  refine w_forN (fun t : Nat => .int (first / n + (t : Int))) (fun i μ => ∃ a6 a7, μ = ⟨[.val (.int seed), .val (.int n), .val (.int row), .val (.int first), .val (.int behind), .own (((((List.range cnt).take i).map fun (t : Nat) => (first / n + (t : Int)) * n + wuE seed (first / n + (t : Int)) n k row).filter fun p => decide (first ≤ p) && decide (p < behind)).map .int), a6, a7], dr⟩) (List.range cnt) ?_ ?_ ?_
  · simp -dsimp [e1, e2, hr]
  · rintro i t μ hi ⟨a6, a7, rfl⟩
    obtain ⟨rfl, hlt⟩ := range_get hi
    have hm : mulD (.int (first / n + (i : Int))) (.int n) = some (.int ((first / n + (i : Int)) * n)) := mulD_of 64 22 (by omega) (by omega) (by decide)
    have hu := unshuffled_ev (seed := seed) (epoch := first / n + (i : Int)) (dr := dr) s h0 h1
    have htk : (List.range cnt).take (i + 1) = (List.range cnt).take i ++ [i] := by rw [List.take_add_one, hi]; rfl
    rw [htk, List.map_append, List.filter_append, List.map_append]
    generalize hp : (first / n + (i : Int)) * n + wuE seed (first / n + (i : Int)) n k row = p at *
    have hlen : (((((List.range cnt).take i).map fun (t : Nat) => (first / n + (t : Int)) * n + wuE seed (first / n + (t : Int)) n k row).filter fun p => decide (first ≤ p) && decide (p < behind)).map PyData.int).length < 16777216 := by
      rw [List.length_map]
      have g1 := List.length_filter_le (fun p => decide (first ≤ p) && decide (p < behind)) (((List.range cnt).take i).map fun (t : Nat) => (first / n + (t : Int)) * n + wuE seed (first / n + (t : Int)) n k row)
      rw [List.length_map, List.length_take, List.length_range] at g1
      omega
    generalize ((((List.range cnt).take i).map fun (t : Nat) => (first / n + (t : Int)) * n + wuE seed (first / n + (t : Int)) n k row).filter fun p => decide (first ≤ p) && decide (p < behind)).map PyData.int = acc at *
    by_cases c1 : first ≤ p
    · by_cases c2 : p < behind
      · simp -dsimp [hm, hu, hp, c1, c2, hlen]
      · simp -dsimp [hm, hu, hp, c1, c2]
    · simp -dsimp [hm, hu, hp, c1]
  · rintro μ ⟨a6, a7, rfl⟩
    simp -dsimp
end
end Wk
namespace Wk
open PySem PySem.Spec PyProof.Rows L2 Mi Sh
section
variable {seed epoch n : Int} {k : Nat}
theorem wk_in (s : Side n k) {x : Int} (h0 : 0 ≤ x) (h1 : x < n) : 0 ≤ wkE seed epoch n k x ∧ wkE seed epoch n k x < n := (bijE s).wk_in h0 h1 s.hi
theorem wu_in (s : Side n k) {x : Int} (h0 : 0 ≤ x) (h1 : x < n) : 0 ≤ wuE seed epoch n k x ∧ wuE seed epoch n k x < n := (bijE s).swap.wk_in h0 h1 s.hi
theorem wu_wk (s : Side n k) {x : Int} (h0 : 0 ≤ x) (h1 : x < n) : wuE seed epoch n k (wkE seed epoch n k x) = x := (bijE s).wk_back h0 h1 s.hi
theorem wk_wu (s : Side n k) {x : Int} (h0 : 0 ≤ x) (h1 : x < n) : wkE seed epoch n k (wuE seed epoch n k x) = x := (bijE s).swap.wk_back h0 h1 s.hi
def rngI (m : Nat) : List Int := (List.range m).map fun i : Nat => (i : Int)
theorem mem_rngI {m : Nat} {x : Int} : x ∈ rngI m ↔ 0 ≤ x ∧ x < m := by
  unfold rngI
  rw [List.mem_map]
  constructor
  · rintro ⟨i, hi, rfl⟩
    rw [List.mem_range] at hi
    omega
  · intro h
    exact ⟨x.toNat, by rw [List.mem_range]; omega, by omega⟩
theorem rngI_lt {m : Nat} : (rngI m).Pairwise (· < ·) := by
  unfold rngI
  rw [List.pairwise_map]
  exact List.pairwise_lt_range.imp fun h => by omega
/-- the rows of an epoch are all rows -/
theorem due_sorted {m : Nat} (s : Side (m : Int) k) : srtI ((rngI m).map (wkE seed epoch m k)) = rngI m := by
  refine (PySem.W.os_sorted_mergeSort ?_ (rngI_lt.imp fun h => Int.le_of_lt h)).symm
  have nd1 : (rngI m).Nodup := rngI_lt.imp fun h => by omega
  have nd2 : ((rngI m).map (wkE seed epoch m k)).Nodup := by
    unfold List.Nodup
    rw [List.pairwise_map]
    refine List.Pairwise.imp_of_mem (fun {a b} ha hb hne he => ?_) nd1
    rw [mem_rngI] at ha hb
    have h1 := wu_wk (seed := seed) (epoch := epoch) s ha.1 ha.2
    have h2 := wu_wk (seed := seed) (epoch := epoch) s hb.1 hb.2
    rw [he] at h1
    exact hne (h1.symm.trans h2)
  refine (List.perm_ext_iff_of_nodup nd1 nd2).mpr fun x => ?_
  rw [mem_rngI, List.mem_map]
  constructor
  · intro h
    have h1 := wu_in (seed := seed) (epoch := epoch) s h.1 h.2
    exact ⟨wuE seed epoch m k x, mem_rngI.mpr h1, wk_wu s h.1 h.2⟩
  · rintro ⟨y, hy, rfl⟩
    rw [mem_rngI] at hy
    exact wk_in s hy.1 hy.2
/-- the row drawn at a place -/
noncomputable def rowE (seed n : Int) (k : Nat) (p : Int) : Int := wkE seed (p / n) n k (p % n)
def span (first behind : Int) : List Int := (List.range (behind - first).toNat).map fun i : Nat => first + (i : Int)
theorem mem_span {first behind x : Int} : x ∈ span first behind ↔ first ≤ x ∧ x < behind := by
  unfold span
  rw [List.mem_map]
  constructor
  · rintro ⟨i, hi, rfl⟩
    rw [List.mem_range] at hi
    omega
  · intro h
    exact ⟨(x - first).toNat, by rw [List.mem_range]; omega, by omega⟩
theorem span_lt {first behind : Int} : (span first behind).Pairwise (· < ·) := by
  unfold span
  rw [List.pairwise_map]
  exact List.pairwise_lt_range.imp fun h => by omega
theorem plc_eq {row first behind : Int} (s : Side n k) (hn : 0 < n) (h0 : 0 ≤ row) (h1 : row < n) (hf : 0 ≤ first) (hb : first ≤ behind) : plc seed n k row first behind = (span first behind).filter fun p => decide (rowE seed n k p = row) := by
  have fdiv : ∀ (e w : Int), 0 ≤ w → w < n → (e * n + w) / n = e ∧ (e * n + w) % n = w := fun e w w0 w1 => by
    constructor
    · rw [Int.add_comm, Int.add_mul_ediv_right _ _ (by omega), Int.ediv_eq_zero_of_lt w0 w1, Int.zero_add]
    · rw [Int.add_comm, Int.add_mul_emod_self_right, Int.emod_eq_of_lt w0 w1]
  refine srt_eq ?_ (span_lt.filter _) fun p => ?_
  · unfold plc
    refine List.Pairwise.filter _ ?_
    rw [List.pairwise_map]
    refine List.pairwise_lt_range.imp fun {a b} hab => ?_
    have g1 := wu_in (seed := seed) (epoch := first / n + (a : Int)) s h0 h1
    have g2 := wu_in (seed := seed) (epoch := first / n + (b : Int)) s h0 h1
    have g3 : (first / n + (a : Int) + 1) * n ≤ (first / n + (b : Int)) * n := Int.mul_le_mul_of_nonneg_right (by omega) (by omega)
    rw [Int.add_mul (first / n + (a : Int)) 1 n, Int.one_mul] at g3
    omega
  · unfold plc
    rw [List.mem_filter, List.mem_filter, mem_span, List.mem_map]
    simp only [Bool.and_eq_true, decide_eq_true_eq]
    constructor
    · rintro ⟨⟨t, ht, rfl⟩, hp⟩
      refine ⟨hp, ?_⟩
      have g1 := wu_in (seed := seed) (epoch := first / n + (t : Int)) s h0 h1
      obtain ⟨q1, q2⟩ := fdiv (first / n + (t : Int)) _ g1.1 g1.2
      unfold rowE
      rw [q1, q2]
      exact wk_wu s h0 h1
    · rintro ⟨hp, hr⟩
      refine ⟨⟨(p / n - first / n).toNat, ?_, ?_⟩, hp⟩
      · rw [List.mem_range]
        have a1 : first / n ≤ p / n := Int.ediv_le_ediv hn hp.1
        have a2 : p / n ≤ behind / n := Int.ediv_le_ediv hn (by omega)
        omega
      · have a1 : first / n ≤ p / n := Int.ediv_le_ediv hn hp.1
        rw [show first / n + ((p / n - first / n).toNat : Int) = p / n by omega]
        have m0 := Int.emod_nonneg p (show n ≠ 0 by omega)
        have m1 := Int.emod_lt_of_pos p hn
        have hw : wuE seed (p / n) n k row = p % n := by
          rw [← hr]
          exact wu_wk s m0 m1
        rw [hw, Int.mul_comm]
        exact Int.mul_ediv_add_emod p n
end
end Wk
namespace Wk
open PySem PySem.Spec PyProof.Rows L2 Mi Sh
theorem pw {b : Int} {e : Nat} (hb : b.natAbs < 2 ^ 64) (he : e ≤ 1000000) : powD (.int b) (.int (e : Int)) = some (.int (b ^ e)) := by
  unfold powD
  simp only
  rw [if_pos ⟨by omega, by omega, hb⟩, Int.toNat_natCast]
theorem pw20 : powD (.int 10) (.int 20) = some (.int (10 ^ 20)) := pw (e := 20) (by decide) (by decide)
theorem pw12 : powD (.int 10) (.int 12) = some (.int (10 ^ 12)) := pw (e := 12) (by decide) (by decide)
theorem pw9 : powD (.int 10) (.int 9) = some (.int (10 ^ 9)) := pw (e := 9) (by decide) (by decide)
theorem law_seed_ev {dr : Dr} : Go (WO (m_law_seed [.dict []] dr) fun z => ∃ s, z.1 = .int s) := by
  refine fnM_wo ?_
  unfold b_law_seed
  simp -dsimp
  refine draw_w (by decide) (by decide) fun a dr1 a0 a1 => ?_
  simp -dsimp [pw20]
  refine draw_w (by decide) (by decide) fun b dr2 b0 b1 => ?_
  simp -dsimp
  refine draw_w (by decide) (by decide) fun j dr3 j0 j1 => ?_
  have hj : j = 0 ∨ j = 1 ∨ j = 2 ∨ j = 3 := by omega
  have ix : ∀ (x0 x1 x2 x3 : D), ixD (.list [x0, x1, x2, x3]) (.int 0) = some x0 ∧ ixD (.list [x0, x1, x2, x3]) (.int 1) = some x1 ∧ ixD (.list [x0, x1, x2, x3]) (.int 2) = some x2 ∧ ixD (.list [x0, x1, x2, x3]) (.int 3) = some x3 := fun _ _ _ _ => ⟨rfl, rfl, rfl, rfl⟩
  rcases hj with rfl | rfl | rfl | rfl
  · simp -dsimp [ix]
  · simp -dsimp [ix]
  · simp -dsimp [ix]
  · simp -dsimp [ix]
theorem ix3 (x0 x1 x2 : D) : ixD (.list [x0, x1, x2]) (.int 0) = some x0 ∧ ixD (.list [x0, x1, x2]) (.int 1) = some x1 ∧ ixD (.list [x0, x1, x2]) (.int 2) = some x2 := ⟨rfl, rfl, rfl⟩
theorem rngI_D {m : Nat} : ((List.range m).map fun (i : Nat) => PyData.int (i : Int)) = (rngI m).map .int := by
  unfold rngI
  rw [List.map_map]
  rfl
theorem rgD_n {m : Nat} (h : m < 2 ^ 20) : rgD (.int (m : Int)) = some ((rngI m).map .int) := by
  unfold rgD
  simp only
  rw [if_pos (by omega)]
  congr 1
  rw [← rngI_D]
  unfold intsR
  simp
theorem sortF_I {ns : List Int} : sortF (.list (ns.map .int)) = some ((srtI ns).map .int) := by
  unfold sortF
  simp only [ints?_map, Option.bind_some]
theorem law_epoch_ev {dr : Dr} : Go (WO (m_law_epoch [.dict []] dr) fun z => z.1 = .bool true) := by
  refine fnM_wo ?_
  unfold b_law_epoch
  obtain ⟨⟨z, dr1⟩, hz, sd, hs⟩ := WO_get (law_seed_ev (dr := dr))
  simp only at hs
  subst hs
  simp -dsimp [hz]
  refine draw_w (by decide) (by decide) fun a dr2 a0 a1 => ?_
  simp -dsimp [pw12]
  refine draw_w (by decide) (by decide) fun b dr3 b0 b1 => ?_
  simp -dsimp
  refine draw_w (by decide) (by decide) fun j dr4 j0 j1 => ?_
  obtain ⟨ep, hep, e0, e1⟩ : ∃ ep : Int, ixD (.list [.int 0, .int a, .int (1000000000000 + b)]) (.int j) = some (.int ep) ∧ 0 ≤ ep ∧ ep < 2 ^ 50 := by
    have hj : j = 0 ∨ j = 1 ∨ j = 2 := by omega
    rcases hj with rfl | rfl | rfl
    · exact ⟨_, rfl, by decide, by decide⟩
    · exact ⟨_, rfl, a0, by omega⟩
    · exact ⟨_, rfl, by omega, by omega⟩
  simp -dsimp [hep]
  refine draw_w (by decide) (by decide) fun c dr5 c0 c1 => ?_
  obtain ⟨n, hn⟩ : ∃ n : Nat, 1 + c = (n : Int) := ⟨(1 + c).toNat, by omega⟩
  have hn0 : 0 < n ∧ n ≤ 70 := by omega
  obtain ⟨k, s⟩ := side_ex (n := (n : Int)) (by omega)
  have hr1 : rng1 [.int (n : Int)] = some ((rngI n).map .int) := by rw [rng1_nat (by omega), rngI_D]
  have hlen : (rngI n).length = n := by simp [rngI]
  have hlw : ∀ x ∈ rngI n, ∀ dr, m_law_walk [.int sd, .int ep, .int (n : Int), .int x] dr = some (.int (wkE sd ep n k x), dr) := fun x hx dr => by
    rw [mem_rngI] at hx
    exact law_walk_ev s hx.1 hx.2
  have hsh : ∀ x ∈ rngI n, ∀ dr, m_shuffled [.int sd, .int ep, .int (n : Int), .int x] dr = some (.int (wkE sd ep n k x), dr) := fun x hx dr => by
    rw [mem_rngI] at hx
    exact shuffled_ev s hx.1 hx.2
  have hun : ∀ x ∈ rngI n, ∀ dr, m_unshuffled [.int sd, .int ep, .int (n : Int), .int (wkE sd ep n k x)] dr = some (.int x, dr) := fun x hx dr => by
    rw [mem_rngI] at hx
    have hw := wk_in (seed := sd) (epoch := ep) s hx.1 hx.2
    rw [unshuffled_ev s hw.1 hw.2, wu_wk s hx.1 hx.2]
  have hmul : mulD (.int ep) (.int (n : Int)) = some (.int (ep * n)) := mulD_of 50 20 (by omega) (by omega) (by decide)
  have hra : ∀ x ∈ rngI n, ∀ dr, m_row_at [.int sd, .int (n : Int), .int (ep * n + x)] dr = some (.int (wkE sd ep n k x), dr) := fun x hx dr => by
    rw [mem_rngI] at hx
    have hen := Int.mul_nonneg e0 (show 0 ≤ (n : Int) by omega)
    rw [row_at_ev s (by omega) (by omega)]
    rw [Int.add_comm, Int.add_mul_ediv_right _ _ (by omega), Int.add_mul_emod_self_right, Int.ediv_eq_zero_of_lt hx.1 hx.2, Int.emod_eq_of_lt hx.1 hx.2, Int.zero_add]
  let due : List Int := (rngI n).map (wkE sd ep n k)
  have hdue : ((rngI n).map fun x => PyData.int (wkE sd ep n k x)) = due.map .int := by
    show _ = ((rngI n).map (wkE sd ep n k)).map PyData.int
    rw [List.map_map]
    rfl
  have hsrt : sortF (.list (due.map .int)) = some ((rngI n).map .int) := by rw [sortF_I, due_sorted s]
  have hself : ∀ l : List Int, neD (.list (l.map .int)) (.list (l.map .int)) = some (.bool false) := fun l => neD_self shaped_ints.2
  have hselfE : ∀ l : List Int, eqD (.list (l.map .int)) (.list (l.map .int)) = some (.bool true) := fun l => eqD_self shaped_ints.2
  simp -dsimp [hn]
  refine wm_lcmap PyData.int (fun x => .int (wkE sd ep n k x)) ⟨[.val (.dict []), .val (.int sd), .val (.int ep), .val (.int n), .un, .un, .un], dr5⟩ (rngI n) (by omega) ?_ ?_ ?_
  · simp -dsimp [hr1]
  · intro x hx
    simp -dsimp [hlw x hx]
  simp -dsimp [hdue, hsrt, rgD_n (m := n) (by omega), hself]
  refine wm_lcmap PyData.int (fun x => .int (wkE sd ep n k x)) ⟨[.val (.dict []), .val (.int sd), .val (.int ep), .val (.int n), .own (due.map .int), .un, .un], dr5⟩ (rngI n) (by omega) ?_ ?_ ?_
  · simp -dsimp [hr1]
  · intro x hx
    simp -dsimp [hsh x hx]
  simp -dsimp [hdue, hself]
  refine wm_lcmap (fun x => .int (wkE sd ep n k x)) PyData.int ⟨[.val (.dict []), .val (.int sd), .val (.int ep), .val (.int n), .val (.list (due.map .int)), .un, .un], dr5⟩ (rngI n) (by omega) ?_ ?_ ?_
  · simp -dsimp
    exact hdue.symm
  · intro x hx
    simp -dsimp [hun x hx]
  simp -dsimp [rgD_n (m := n) (by omega), hself]
  refine wm_lcmap PyData.int (fun x => .int (wkE sd ep n k x)) ⟨[.val (.dict []), .val (.int sd), .val (.int ep), .val (.int n), .val (.list (due.map .int)), .un, .un], dr5⟩ (rngI n) (by omega) ?_ ?_ ?_
  · simp -dsimp [hr1]
  · intro x hx
    simp -dsimp [hmul, hra x hx]
  simp -dsimp [hdue, hselfE]
theorem law_large_ev {dr : Dr} : Go (WO (m_law_large [.dict []] dr) fun z => z.1 = .bool true) := by
  refine fnM_wo ?_
  unfold b_law_large
  obtain ⟨⟨z, dr1⟩, hz, sd, hs⟩ := WO_get (law_seed_ev (dr := dr))
  simp only at hs
  subst hs
  simp -dsimp [hz]
  refine draw_w (by decide) (by decide) fun c dr2 c0 c1 => ?_
  obtain ⟨n, hn⟩ : ∃ n : Nat, 1000 + c = (n : Int) := ⟨(1000 + c).toNat, by omega⟩
  obtain ⟨k, s⟩ := side_ex (n := (n : Int)) (by omega)
  simp -dsimp [hn]
  refine w_forN (fun i : Nat => .int i) (fun i μ => ∃ a3 a4 a5 a6 dr', μ = ⟨[.val (.dict []), .val (.int sd), .val (.int n), a3, a4, a5, a6], dr'⟩) (List.range 3) ?_ ?_ ?_
  · simp -dsimp [show rng1 [.int 3] = some ((List.range 3).map fun (i : Nat) => .int (i : Int)) from rng1_nat (n := 3) (by decide)]
  · rintro i y μ hi ⟨a3, a4, a5, a6, dr', rfl⟩
    simp -dsimp [pw9]
    refine draw_w (by decide) (by decide) fun ep dr3 e0 e1 => ?_
    simp -dsimp
    refine draw_w (by omega) (by omega) fun x dr4 x0 x1 => ?_
    have hw := wk_in (seed := sd) (epoch := ep) s x0 x1
    have q1 := law_walk_ev (seed := sd) (epoch := ep) (dr := dr4) s x0 x1
    have q2 := shuffled_ev (seed := sd) (epoch := ep) (dr := dr4) s x0 x1
    have q3 := unshuffled_ev (seed := sd) (epoch := ep) (dr := dr4) s hw.1 hw.2
    rw [wu_wk s x0 x1] at q3
    have hmul : mulD (.int ep) (.int (n : Int)) = some (.int (ep * n)) := mulD_of 50 20 (by omega) (by omega) (by decide)
    have hen := Int.mul_nonneg e0 (show 0 ≤ (n : Int) by omega)
    have q4 := row_at_ev (seed := sd) (p := ep * n + x) (dr := dr4) s (by omega) (by omega)
    rw [Int.add_comm, Int.add_mul_ediv_right _ _ (by omega), Int.add_mul_emod_self_right, Int.ediv_eq_zero_of_lt x0 x1, Int.emod_eq_of_lt x0 x1, Int.zero_add, Int.add_comm] at q4
    simp -dsimp [q1, q2, q3, hmul, q4]
  · rintro μ ⟨a3, a4, a5, a6, dr', rfl⟩
    simp -dsimp
end Wk
namespace Wk
open PySem PySem.Spec PyProof.Rows L2 Mi Sh
theorem rng2_span {a b : Int} (h0 : 0 ≤ a) (h1 : a ≤ b) (h2 : b < 2 ^ 60) : rng2 [.int a, .int b] = some ((span a b).map .int) := by
  rw [rng2_int h0 (by omega) (by omega) (by omega)]
  unfold span
  rw [List.map_map]
  rfl
theorem law_places_ev {dr : Dr} : Go (WO (m_law_places [.dict []] dr) fun z => z.1 = .bool true) := by
  refine fnM_wo ?_
  unfold b_law_places
  obtain ⟨⟨z, dr1⟩, hz, sd, hs⟩ := WO_get (law_seed_ev (dr := dr))
  simp only at hs
  subst hs
  simp -dsimp [hz]
  refine draw_w (by decide) (by decide) fun c dr2 c0 c1 => ?_
  obtain ⟨n, hn⟩ : ∃ n : Nat, 1 + c = (n : Int) := ⟨(1 + c).toNat, by omega⟩
  have hn0 : 0 < n ∧ n ≤ 12 := by omega
  obtain ⟨k, s⟩ := side_ex (n := (n : Int)) (by omega)
  have hm9 : mulD (.int (n : Int)) (.int 1000000000) = some (.int (n * 1000000000)) := mulD_of 10 40 (by omega) (by decide) (by decide)
  simp -dsimp [hn]
  refine draw_w (by decide) (by decide) fun a dr3 a0 a1 => ?_
  simp -dsimp [pw9, hm9]
  refine draw_w (by decide) (by decide) fun b dr4 b0 b1 => ?_
  simp -dsimp
  refine draw_w (by decide) (by decide) fun j dr5 j0 j1 => ?_
  obtain ⟨first, hfi, f0, f1⟩ : ∃ first : Int, ixD (.list [.int 0, .int a, .int ((n : Int) * 1000000000 + b)]) (.int j) = some (.int first) ∧ 0 ≤ first ∧ first < 2 ^ 50 := by
    have hj : j = 0 ∨ j = 1 ∨ j = 2 := by omega
    rcases hj with rfl | rfl | rfl
    · exact ⟨_, (ix3 _ _ _).1, by decide, by decide⟩
    · exact ⟨_, (ix3 _ _ _).2.1, a0, by omega⟩
    · exact ⟨_, (ix3 _ _ _).2.2, by omega, by omega⟩
  simp -dsimp [hfi]
  refine draw_w (by decide) (by decide) fun d dr6 d0 d1 => ?_
  generalize hbe : first + d = behind at *
  have hb0 : first ≤ behind ∧ behind < 2 ^ 51 ∧ behind < first + 60 := by omega
  simp -dsimp [hbe]
  -- the loop that groups
  have hm : mCall rng2 (aCons (oName 3) (aCons (oName 4) aNil)) ⟨[.val (.dict []), .val (.int sd), .val (.int n), .val (.int first), .val (.int behind), .ow (.d false []), .un, .un], dr6⟩ = some ((span first behind).map .int, ⟨[.val (.dict []), .val (.int sd), .val (.int n), .val (.int first), .val (.int behind), .ow (.d false []), .un, .un], dr6⟩) := by
    have hv : Go (WM (mCall rng2 (aCons (oName 3) (aCons (oName 4) aNil)) ⟨[.val (.dict []), .val (.int sd), .val (.int n), .val (.int first), .val (.int behind), .ow (.d false []), .un, .un], dr6⟩) fun d μ => d = (span first behind).map .int ∧ μ = ⟨[.val (.dict []), .val (.int sd), .val (.int n), .val (.int first), .val (.int behind), .ow (.d false []), .un, .un], dr6⟩) := by
      simp -dsimp [rng2_span f0 hb0.1 (show behind < 2 ^ 60 by omega)]
    obtain ⟨d, μ, h1, rfl, rfl⟩ := wm_ex hv
    exact h1
  have hl : (span first behind).length < 900000 := by
    unfold span
    simp
    omega
  have hk : ∀ p ∈ span first behind, ∀ s6 : Sl, mCallU m_law_walk (aCons (oName 1) (aCons (oVal (mCall intD (aCons (oVal (m2 fdivD (oName 6) (oName 2))) aNil))) (aCons (oName 2) (aCons (oVal (mCall intD (aCons (oVal (m2 modD (oName 6) (oName 2))) aNil))) aNil))))
      ⟨(([.val (.dict []), .val (.int sd), .val (.int n), .val (.int first), .val (.int behind), .ow (.d false []), .un, .un].set 5 .un).set 6 s6).set 6 (.val (.int p)), dr6⟩ = some (.int (rowE sd n k p), ⟨(([.val (.dict []), .val (.int sd), .val (.int n), .val (.int first), .val (.int behind), .ow (.d false []), .un, .un].set 5 .un).set 6 s6).set 6 (.val (.int p)), dr6⟩) := fun p hp s6 => by
    rw [mem_span] at hp
    have q := law_walk_ev (seed := sd) (epoch := p / n) (dr := dr6) s (Int.emod_nonneg p (by omega)) (Int.emod_lt_of_pos p (show 0 < (n : Int) by omega))
    have e1 : fdivD (.int p) (.int (n : Int)) = some (.int (p / n)) := fdivD_of (by omega) (Nat.lt_of_lt_of_le (show (n : Int).natAbs < 2 ^ 21 by omega) (Nat.pow_le_pow_right (by decide) (by decide)))
    have hv : Go (WM (mCallU m_law_walk (aCons (oName 1) (aCons (oVal (mCall intD (aCons (oVal (m2 fdivD (oName 6) (oName 2))) aNil))) (aCons (oName 2) (aCons (oVal (mCall intD (aCons (oVal (m2 modD (oName 6) (oName 2))) aNil))) aNil))))
      ⟨[.val (.dict []), .val (.int sd), .val (.int n), .val (.int first), .val (.int behind), .un, .val (.int p), .un], dr6⟩) fun d μ => d = .int (rowE sd n k p) ∧ μ = ⟨[.val (.dict []), .val (.int sd), .val (.int n), .val (.int first), .val (.int behind), .un, .val (.int p), .un], dr6⟩) := by
      simp -dsimp [e1, modD_of (show 0 < (n : Int) by omega), q]
      rfl
    obtain ⟨d, μ, h1, rfl, rfl⟩ := wm_ex hv
    exact h1
  obtain ⟨s6, hg⟩ := sGroup_ev (ir := 5) (ip := 6) (s0 := .un) hm rfl (by decide) (by simp) hl rfl hk
  refine W_of_nx hg ?_
  simp -dsimp
  have hr1 : rng1 [.int (n : Int)] = some ((rngI n).map .int) := by rw [rng1_nat (by omega), rngI_D]
  have hlen : (rngI n).length = n := by simp [rngI]
  refine wm_lcmap PyData.int (fun _ => .bool true) ⟨[.val (.dict []), .val (.int sd), .val (.int n), .val (.int first), .val (.int behind), .val (grD (gfold (rowE sd n k) (span first behind) [])), s6, .un], dr6⟩ (rngI n) (by omega) ?_ ?_ ?_
  · simp -dsimp [hr1]
  · intro row hrow
    rw [mem_rngI] at hrow
    have hsp : behind / (n : Int) + 1 - first / n < 1000 := by
      have h1 : behind / (n : Int) ≤ first / n + 60 := by
        have h2 : (first + 60 * n) / (n : Int) = first / n + 60 := Int.add_mul_ediv_right _ _ (by omega)
        rw [← h2]
        exact Int.ediv_le_ediv (by omega) (by omega)
      omega
    have q := places_of_row_ev (seed := sd) (dr := dr6) s (by omega) hrow.1 hrow.2 f0 hb0.1 (by omega) hsp
    rw [plc_eq s (by omega) hrow.1 hrow.2 f0 hb0.1] at q
    have hgt : mGet (oName 5) (mVar 7) (mLst (mDs [])) ⟨[.val (.dict []), .val (.int sd), .val (.int n), .val (.int first), .val (.int behind), .val (grD (gfold (rowE sd n k) (span first behind) [])), s6, .val (.int row)], dr6⟩ = _ := mGet_of rfl rfl rfl
    rw [lookI_gr, lkG_fold] at hgt
    have hnil : lkG [] row = [] := rfl
    rw [hnil, List.nil_append] at hgt
    have hself : ∀ l : List Int, eqD (.list (l.map .int)) (.list (l.map .int)) = some (.bool true) := fun l => eqD_self shaped_ints.2
    simp -dsimp [q]
    refine WM_of hgt ?_
    simp -dsimp [hself]
  · have ha : allD [.list ((rngI n).map fun _ => .bool true)] = some (.bool true) := allD_true
    simp -dsimp [ha]
theorem law_true (ns : List Int) (_ : ns.length ≤ 63) : ∃ dr, f_law (drOf ns) = .rt (.bool true) dr := by
  refine of_W ?_
  unfold f_law b_law
  simp -dsimp
  refine w_forN (fun i : Nat => .int i) (fun i μ => ∃ a2 dr', μ = ⟨[.un, .val (.dict []), a2], dr'⟩) (List.range 3) ?_ ?_ ?_
  · simp -dsimp [show rng1 [.int 3] = some ((List.range 3).map fun (i : Nat) => .int (i : Int)) from rng1_nat (n := 3) (by decide)]
  · rintro i y μ hi ⟨a2, dr', rfl⟩
    obtain ⟨⟨z, dr1⟩, h1, hz1⟩ := WO_get (law_epoch_ev (dr := dr'))
    simp only at hz1
    subst hz1
    obtain ⟨⟨z, dr2⟩, h2, hz2⟩ := WO_get (law_places_ev (dr := dr1))
    simp only at hz2
    subst hz2
    simp -dsimp [h1, h2]
  · rintro μ ⟨a2, dr', rfl⟩
    obtain ⟨⟨z, dr1⟩, h1, hz1⟩ := WO_get (law_large_ev (dr := dr'))
    simp only at hz1
    subst hz1
    have s1 : Side 1 0 := ⟨fun j hj => absurd hj (Nat.not_lt_zero _), by decide, by decide⟩
    have q1 := shuffled_ev (seed := 5) (epoch := 3) (x := 0) (dr := dr1) s1 (by decide) (by decide)
    have q2 := unshuffled_ev (seed := 5) (epoch := 3) (x := 0) (dr := dr1) s1 (by decide) (by decide)
    have e1 : wkE 5 3 1 0 0 = 0 := by have := wk_in (seed := 5) (epoch := 3) (x := 0) s1 (by decide) (by decide); omega
    have e2 : wuE 5 3 1 0 0 = 0 := by have := wu_in (seed := 5) (epoch := 3) (x := 0) s1 (by decide) (by decide); omega
    rw [e1] at q1
    rw [e2] at q2
    obtain ⟨k3, s3⟩ := side_ex (n := 3) (by decide)
    have q3 := places_of_row_ev (seed := 0) (row := 1) (first := 4) (behind := 4) (dr := dr1) s3 (by decide) (by decide) (by decide) (by decide) (by decide) (by decide) (by decide)
    rw [plc_eq s3 (by decide) (by decide) (by decide) (by decide) (by decide)] at q3
    have e3 : span 4 4 = [] := rfl
    rw [e3] at q3
    have q4 : eqD (.list []) (.list []) = some (.bool true) := eqD_self (shaped_ints (ns := [])).2
    simp -dsimp [h1, q1, q2, q3, q4]
end Wk
namespace Wk
open PySem PySem.Spec PyProof.Rows L2 Mi
theorem all_mk {l : PySem.W.OpenLaw} {w : World} {K : PySem.W.Frag} {h : Heap} {mg : Str → Option Value} {fa : Addr} (X : K.In h) (G : h.Ns mainGlobals mg) (hfa : mg "law" = some (.ref fa))
    {od2 an2 : Option Addr} {sl2 : Array (Option Value)} {oc2 kV2 dc2 pm2 cd2 ct2 : Value} {f2 : Addr}
    {od5 an5 : Option Addr} {sl5 : Array (Option Value)} {oc5 kV5 dc5 pm5 cd5 ct5 : Value} {f5 : Addr}
    {od6 an6 : Option Addr} {sl6 : Array (Option Value)} {oc6 kV6 dc6 pm6 cd6 ct6 : Value} {f6 : Addr}
    {od7 an7 : Option Addr} {sl7 : Array (Option Value)} {oc7 kV7 dc7 pm7 cd7 ct7 : Value} {f7 : Addr}
    {od8 an8 : Option Addr} {sl8 : Array (Option Value)} {oc8 kV8 dc8 pm8 cd8 ct8 : Value} {f8 : Addr}
    {od9 an9 : Option Addr} {sl9 : Array (Option Value)} {oc9 kV9 dc9 pm9 cd9 ct9 : Value} {f9 : Addr}
    {od10 an10 : Option Addr} {sl10 : Array (Option Value)} {oc10 kV10 dc10 pm10 cd10 ct10 : Value} {f10 : Addr}
    {od11 an11 : Option Addr} {sl11 : Array (Option Value)} {oc11 kV11 dc11 pm11 cd11 ct11 : Value} {f11 : Addr}
    {od13 an13 : Option Addr} {sl13 : Array (Option Value)} {oc13 kV13 dc13 pm13 cd13 ct13 : Value} {f13 : Addr}
    {od14 an14 : Option Addr} {sl14 : Array (Option Value)} {oc14 kV14 dc14 pm14 cd14 ct14 : Value} {f14 : Addr}
    {od15 an15 : Option Addr} {sl15 : Array (Option Value)} {oc15 kV15 dc15 pm15 cd15 ct15 : Value} {f15 : Addr}
    {od16 an16 : Option Addr} {sl16 : Array (Option Value)} {oc16 kV16 dc16 pm16 cd16 ct16 : Value} {f16 : Addr}
    {od17 an17 : Option Addr} {sl17 : Array (Option Value)} {oc17 kV17 dc17 pm17 cd17 ct17 : Value} {f17 : Addr}
    {od18 an18 : Option Addr} {sl18 : Array (Option Value)} {oc18 kV18 dc18 pm18 cd18 ct18 : Value} {f18 : Addr}
    {od19 an19 : Option Addr} {sl19 : Array (Option Value)} {oc19 kV19 dc19 pm19 cd19 ct19 : Value} {f19 : Addr}
    {od20 an20 : Option Addr} {sl20 : Array (Option Value)} {oc20 kV20 dc20 pm20 cd20 ct20 : Value} {f20 : Addr}
    {od21 an21 : Option Addr} {sl21 : Array (Option Value)} {oc21 kV21 dc21 pm21 cd21 ct21 : Value} {f21 : Addr}
    {tk_MIX_MODULUS : Tok}
    {tk_ROUNDS : Tok}
    (a2 : PySem.W.nsIn K mainGlobals "mixed_row" = some (some (.ref f2))) (l2 : K.lookup f2 = some ⟨oc2, od2, .func (PySem.W.fnOf "mixed_row" "mixed_row" (defArgs (topS 2)) (defBody (topS 2)) (defScope (topS 2)) .none kV2 dc2 pm2 an2 cd2 ct2), sl2⟩) (c2 : PySem.W.codeIn K cd2 "mixed_row" = true) (k2 : PySem.W.keepIn K (.ref f2) = true)
    (a5 : PySem.W.nsIn K mainGlobals "side_of" = some (some (.ref f5))) (l5 : K.lookup f5 = some ⟨oc5, od5, .func (PySem.W.fnOf "side_of" "side_of" (defArgs (topS 5)) (defBody (topS 5)) (defScope (topS 5)) .none kV5 dc5 pm5 an5 cd5 ct5), sl5⟩) (c5 : PySem.W.codeIn K cd5 "side_of" = true) (k5 : PySem.W.keepIn K (.ref f5) = true)
    (a6 : PySem.W.nsIn K mainGlobals "stirred" = some (some (.ref f6))) (l6 : K.lookup f6 = some ⟨oc6, od6, .func (PySem.W.fnOf "stirred" "stirred" (defArgs (topS 6)) (defBody (topS 6)) (defScope (topS 6)) .none kV6 dc6 pm6 an6 cd6 ct6), sl6⟩) (c6 : PySem.W.codeIn K cd6 "stirred" = true) (k6 : PySem.W.keepIn K (.ref f6) = true)
    (a7 : PySem.W.nsIn K mainGlobals "stirred_back" = some (some (.ref f7))) (l7 : K.lookup f7 = some ⟨oc7, od7, .func (PySem.W.fnOf "stirred_back" "stirred_back" (defArgs (topS 7)) (defBody (topS 7)) (defScope (topS 7)) .none kV7 dc7 pm7 an7 cd7 ct7), sl7⟩) (c7 : PySem.W.codeIn K cd7 "stirred_back" = true) (k7 : PySem.W.keepIn K (.ref f7) = true)
    (a8 : PySem.W.nsIn K mainGlobals "shuffled" = some (some (.ref f8))) (l8 : K.lookup f8 = some ⟨oc8, od8, .func (PySem.W.fnOf "shuffled" "shuffled" (defArgs (topS 8)) (defBody (topS 8)) (defScope (topS 8)) .none kV8 dc8 pm8 an8 cd8 ct8), sl8⟩) (c8 : PySem.W.codeIn K cd8 "shuffled" = true) (k8 : PySem.W.keepIn K (.ref f8) = true)
    (a9 : PySem.W.nsIn K mainGlobals "unshuffled" = some (some (.ref f9))) (l9 : K.lookup f9 = some ⟨oc9, od9, .func (PySem.W.fnOf "unshuffled" "unshuffled" (defArgs (topS 9)) (defBody (topS 9)) (defScope (topS 9)) .none kV9 dc9 pm9 an9 cd9 ct9), sl9⟩) (c9 : PySem.W.codeIn K cd9 "unshuffled" = true) (k9 : PySem.W.keepIn K (.ref f9) = true)
    (a10 : PySem.W.nsIn K mainGlobals "row_at" = some (some (.ref f10))) (l10 : K.lookup f10 = some ⟨oc10, od10, .func (PySem.W.fnOf "row_at" "row_at" (defArgs (topS 10)) (defBody (topS 10)) (defScope (topS 10)) .none kV10 dc10 pm10 an10 cd10 ct10), sl10⟩) (c10 : PySem.W.codeIn K cd10 "row_at" = true) (k10 : PySem.W.keepIn K (.ref f10) = true)
    (a11 : PySem.W.nsIn K mainGlobals "places_of_row" = some (some (.ref f11))) (l11 : K.lookup f11 = some ⟨oc11, od11, .func (PySem.W.fnOf "places_of_row" "places_of_row" (defArgs (topS 11)) (defBody (topS 11)) (defScope (topS 11)) .none kV11 dc11 pm11 an11 cd11 ct11), sl11⟩) (c11 : PySem.W.codeIn K cd11 "places_of_row" = true) (k11 : PySem.W.keepIn K (.ref f11) = true)
    (a13 : PySem.W.nsIn K mainGlobals "_law_state" = some (some (.ref f13))) (l13 : K.lookup f13 = some ⟨oc13, od13, .func (PySem.W.fnOf "_law_state" "_law_state" (defArgs (topS 13)) (defBody (topS 13)) (defScope (topS 13)) .none kV13 dc13 pm13 an13 cd13 ct13), sl13⟩) (c13 : PySem.W.codeIn K cd13 "_law_state" = true) (k13 : PySem.W.keepIn K (.ref f13) = true)
    (a14 : PySem.W.nsIn K mainGlobals "_law_draw" = some (some (.ref f14))) (l14 : K.lookup f14 = some ⟨oc14, od14, .func (PySem.W.fnOf "_law_draw" "_law_draw" (defArgs (topS 14)) (defBody (topS 14)) (defScope (topS 14)) .none kV14 dc14 pm14 an14 cd14 ct14), sl14⟩) (c14 : PySem.W.codeIn K cd14 "_law_draw" = true) (k14 : PySem.W.keepIn K (.ref f14) = true)
    (a15 : PySem.W.nsIn K mainGlobals "_law_mix" = some (some (.ref f15))) (l15 : K.lookup f15 = some ⟨oc15, od15, .func (PySem.W.fnOf "_law_mix" "_law_mix" (defArgs (topS 15)) (defBody (topS 15)) (defScope (topS 15)) .none kV15 dc15 pm15 an15 cd15 ct15), sl15⟩) (c15 : PySem.W.codeIn K cd15 "_law_mix" = true) (k15 : PySem.W.keepIn K (.ref f15) = true)
    (a16 : PySem.W.nsIn K mainGlobals "_law_walk" = some (some (.ref f16))) (l16 : K.lookup f16 = some ⟨oc16, od16, .func (PySem.W.fnOf "_law_walk" "_law_walk" (defArgs (topS 16)) (defBody (topS 16)) (defScope (topS 16)) .none kV16 dc16 pm16 an16 cd16 ct16), sl16⟩) (c16 : PySem.W.codeIn K cd16 "_law_walk" = true) (k16 : PySem.W.keepIn K (.ref f16) = true)
    (a17 : PySem.W.nsIn K mainGlobals "_law_seed" = some (some (.ref f17))) (l17 : K.lookup f17 = some ⟨oc17, od17, .func (PySem.W.fnOf "_law_seed" "_law_seed" (defArgs (topS 17)) (defBody (topS 17)) (defScope (topS 17)) .none kV17 dc17 pm17 an17 cd17 ct17), sl17⟩) (c17 : PySem.W.codeIn K cd17 "_law_seed" = true) (k17 : PySem.W.keepIn K (.ref f17) = true)
    (a18 : PySem.W.nsIn K mainGlobals "_law_epoch" = some (some (.ref f18))) (l18 : K.lookup f18 = some ⟨oc18, od18, .func (PySem.W.fnOf "_law_epoch" "_law_epoch" (defArgs (topS 18)) (defBody (topS 18)) (defScope (topS 18)) .none kV18 dc18 pm18 an18 cd18 ct18), sl18⟩) (c18 : PySem.W.codeIn K cd18 "_law_epoch" = true) (k18 : PySem.W.keepIn K (.ref f18) = true)
    (a19 : PySem.W.nsIn K mainGlobals "_law_places" = some (some (.ref f19))) (l19 : K.lookup f19 = some ⟨oc19, od19, .func (PySem.W.fnOf "_law_places" "_law_places" (defArgs (topS 19)) (defBody (topS 19)) (defScope (topS 19)) .none kV19 dc19 pm19 an19 cd19 ct19), sl19⟩) (c19 : PySem.W.codeIn K cd19 "_law_places" = true) (k19 : PySem.W.keepIn K (.ref f19) = true)
    (a20 : PySem.W.nsIn K mainGlobals "_law_large" = some (some (.ref f20))) (l20 : K.lookup f20 = some ⟨oc20, od20, .func (PySem.W.fnOf "_law_large" "_law_large" (defArgs (topS 20)) (defBody (topS 20)) (defScope (topS 20)) .none kV20 dc20 pm20 an20 cd20 ct20), sl20⟩) (c20 : PySem.W.codeIn K cd20 "_law_large" = true) (k20 : PySem.W.keepIn K (.ref f20) = true)
    (a21 : PySem.W.nsIn K mainGlobals "law" = some (some (.ref f21))) (l21 : K.lookup f21 = some ⟨oc21, od21, .func (PySem.W.fnOf "law" "law" (defArgs (topS 21)) (defBody (topS 21)) (defScope (topS 21)) .none kV21 dc21 pm21 an21 cd21 ct21), sl21⟩) (c21 : PySem.W.codeIn K cd21 "law" = true) (k21 : PySem.W.keepIn K (.ref f21) = true)
    (z_abs : PySem.W.nsIn K mainGlobals "abs" = some none)
    (z_all : PySem.W.nsIn K mainGlobals "all" = some none)
    (z_int : PySem.W.nsIn K mainGlobals "int" = some none)
    (z_len : PySem.W.nsIn K mainGlobals "len" = some none)
    (z_list : PySem.W.nsIn K mainGlobals "list" = some none)
    (z_range : PySem.W.nsIn K mainGlobals "range" = some none)
    (z_sorted : PySem.W.nsIn K mainGlobals "sorted" = some none)
    (x_MIX_MODULUS : PySem.W.nsIn K mainGlobals "MIX_MODULUS" = some (some (.int 2305843009213693951 tk_MIX_MODULUS)))
    (x_ROUNDS : PySem.W.nsIn K mainGlobals "ROUNDS" = some (some (.int 4 tk_ROUNDS))) :
    ∃ fd : FuncData, (∀ (s : Shared) (v : Value), BindsTo s fd ⟨[v], []⟩ [("script", v)]) ∧ ∀ base : Heap, K.In base → base.Ns mainGlobals mg → FnOk l.prog w K mg base CX0 6 fa fd ["script"] (spLaw K f_law) := by
  have e := hfa.symm.trans (PySem.W.mg_of X G a21)
  cases e
  have F2 := fun_mk (st := topS 2) l2 c2 k2
  have b2 := F2.binds (ps := ["row", "modulus"]) fun _ _ _ _ _ _ us hl => match us, hl with | [_, _], _ => rfl
  have F5 := fun_mk (st := topS 5) l5 c5 k5
  have b5 := F5.binds (ps := ["n"]) fun _ _ _ _ _ _ us hl => match us, hl with | [_], _ => rfl
  have F6 := fun_mk (st := topS 6) l6 c6 k6
  have b6 := F6.binds (ps := ["key", "side", "x"]) fun _ _ _ _ _ _ us hl => match us, hl with | [_, _, _], _ => rfl
  have F7 := fun_mk (st := topS 7) l7 c7 k7
  have b7 := F7.binds (ps := ["key", "side", "x"]) fun _ _ _ _ _ _ us hl => match us, hl with | [_, _, _], _ => rfl
  have F8 := fun_mk (st := topS 8) l8 c8 k8
  have b8 := F8.binds (ps := ["seed", "epoch", "n", "index"]) fun _ _ _ _ _ _ us hl => match us, hl with | [_, _, _, _], _ => rfl
  have F9 := fun_mk (st := topS 9) l9 c9 k9
  have b9 := F9.binds (ps := ["seed", "epoch", "n", "row"]) fun _ _ _ _ _ _ us hl => match us, hl with | [_, _, _, _], _ => rfl
  have F10 := fun_mk (st := topS 10) l10 c10 k10
  have b10 := F10.binds (ps := ["seed", "n", "place"]) fun _ _ _ _ _ _ us hl => match us, hl with | [_, _, _], _ => rfl
  have F11 := fun_mk (st := topS 11) l11 c11 k11
  have b11 := F11.binds (ps := ["seed", "n", "row", "first", "behind"]) fun _ _ _ _ _ _ us hl => match us, hl with | [_, _, _, _, _], _ => rfl
  have F13 := fun_mk (st := topS 13) l13 c13 k13
  have b13 := F13.binds (ps := ["script"]) fun _ _ _ _ _ _ us hl => match us, hl with | [_], _ => rfl
  have F14 := fun_mk (st := topS 14) l14 c14 k14
  have b14 := F14.binds (ps := ["state", "many"]) fun _ _ _ _ _ _ us hl => match us, hl with | [_, _], _ => rfl
  have F15 := fun_mk (st := topS 15) l15 c15 k15
  have b15 := F15.binds (ps := ["row"]) fun _ _ _ _ _ _ us hl => match us, hl with | [_], _ => rfl
  have F16 := fun_mk (st := topS 16) l16 c16 k16
  have b16 := F16.binds (ps := ["seed", "epoch", "n", "x"]) fun _ _ _ _ _ _ us hl => match us, hl with | [_, _, _, _], _ => rfl
  have F17 := fun_mk (st := topS 17) l17 c17 k17
  have b17 := F17.binds (ps := ["state"]) fun _ _ _ _ _ _ us hl => match us, hl with | [_], _ => rfl
  have F18 := fun_mk (st := topS 18) l18 c18 k18
  have b18 := F18.binds (ps := ["state"]) fun _ _ _ _ _ _ us hl => match us, hl with | [_], _ => rfl
  have F19 := fun_mk (st := topS 19) l19 c19 k19
  have b19 := F19.binds (ps := ["state"]) fun _ _ _ _ _ _ us hl => match us, hl with | [_], _ => rfl
  have F20 := fun_mk (st := topS 20) l20 c20 k20
  have b20 := F20.binds (ps := ["state"]) fun _ _ _ _ _ _ us hl => match us, hl with | [_], _ => rfl
  have F21 := fun_mk (st := topS 21) l21 c21 k21
  have b21 := F21.binds (ps := ["script"]) fun _ _ _ _ _ _ us hl => match us, hl with | [_], _ => rfl
  let aa : Nat → Addr := fun n => match n with
    | 2 => f2
    | 5 => f5
    | 6 => f6
    | 7 => f7
    | 8 => f8
    | 9 => f9
    | 10 => f10
    | 11 => f11
    | 13 => f13
    | 14 => f14
    | 15 => f15
    | 16 => f16
    | 17 => f17
    | 18 => f18
    | 19 => f19
    | 20 => f20
    | 21 => fa
    | _ => 0
  let dd : Nat → FuncData := fun n => match n with
    | 2 => PySem.W.fnOf "mixed_row" "mixed_row" (defArgs (topS 2)) (defBody (topS 2)) (defScope (topS 2)) .none kV2 dc2 pm2 an2 cd2 ct2
    | 5 => PySem.W.fnOf "side_of" "side_of" (defArgs (topS 5)) (defBody (topS 5)) (defScope (topS 5)) .none kV5 dc5 pm5 an5 cd5 ct5
    | 6 => PySem.W.fnOf "stirred" "stirred" (defArgs (topS 6)) (defBody (topS 6)) (defScope (topS 6)) .none kV6 dc6 pm6 an6 cd6 ct6
    | 7 => PySem.W.fnOf "stirred_back" "stirred_back" (defArgs (topS 7)) (defBody (topS 7)) (defScope (topS 7)) .none kV7 dc7 pm7 an7 cd7 ct7
    | 8 => PySem.W.fnOf "shuffled" "shuffled" (defArgs (topS 8)) (defBody (topS 8)) (defScope (topS 8)) .none kV8 dc8 pm8 an8 cd8 ct8
    | 9 => PySem.W.fnOf "unshuffled" "unshuffled" (defArgs (topS 9)) (defBody (topS 9)) (defScope (topS 9)) .none kV9 dc9 pm9 an9 cd9 ct9
    | 10 => PySem.W.fnOf "row_at" "row_at" (defArgs (topS 10)) (defBody (topS 10)) (defScope (topS 10)) .none kV10 dc10 pm10 an10 cd10 ct10
    | 11 => PySem.W.fnOf "places_of_row" "places_of_row" (defArgs (topS 11)) (defBody (topS 11)) (defScope (topS 11)) .none kV11 dc11 pm11 an11 cd11 ct11
    | 13 => PySem.W.fnOf "_law_state" "_law_state" (defArgs (topS 13)) (defBody (topS 13)) (defScope (topS 13)) .none kV13 dc13 pm13 an13 cd13 ct13
    | 14 => PySem.W.fnOf "_law_draw" "_law_draw" (defArgs (topS 14)) (defBody (topS 14)) (defScope (topS 14)) .none kV14 dc14 pm14 an14 cd14 ct14
    | 15 => PySem.W.fnOf "_law_mix" "_law_mix" (defArgs (topS 15)) (defBody (topS 15)) (defScope (topS 15)) .none kV15 dc15 pm15 an15 cd15 ct15
    | 16 => PySem.W.fnOf "_law_walk" "_law_walk" (defArgs (topS 16)) (defBody (topS 16)) (defScope (topS 16)) .none kV16 dc16 pm16 an16 cd16 ct16
    | 17 => PySem.W.fnOf "_law_seed" "_law_seed" (defArgs (topS 17)) (defBody (topS 17)) (defScope (topS 17)) .none kV17 dc17 pm17 an17 cd17 ct17
    | 18 => PySem.W.fnOf "_law_epoch" "_law_epoch" (defArgs (topS 18)) (defBody (topS 18)) (defScope (topS 18)) .none kV18 dc18 pm18 an18 cd18 ct18
    | 19 => PySem.W.fnOf "_law_places" "_law_places" (defArgs (topS 19)) (defBody (topS 19)) (defScope (topS 19)) .none kV19 dc19 pm19 an19 cd19 ct19
    | 20 => PySem.W.fnOf "_law_large" "_law_large" (defArgs (topS 20)) (defBody (topS 20)) (defScope (topS 20)) .none kV20 dc20 pm20 an20 cd20 ct20
    | 21 => PySem.W.fnOf "law" "law" (defArgs (topS 21)) (defBody (topS 21)) (defScope (topS 21)) .none kV21 dc21 pm21 an21 cd21 ct21
    | _ => PySem.W.fnOf "law" "law" (defArgs (topS 21)) (defBody (topS 21)) (defScope (topS 21)) .none kV21 dc21 pm21 an21 cd21 ct21
  have TT : T K mg aa dd := {
    z_abs := PySem.W.mg_none_of X G z_abs
    z_all := PySem.W.mg_none_of X G z_all
    z_int := PySem.W.mg_none_of X G z_int
    z_len := PySem.W.mg_none_of X G z_len
    z_list := PySem.W.mg_none_of X G z_list
    z_range := PySem.W.mg_none_of X G z_range
    z_sorted := PySem.W.mg_none_of X G z_sorted
    F2 := F2
    m2 := PySem.W.mg_of X G a2
    b2 := b2
    F5 := F5
    m5 := PySem.W.mg_of X G a5
    b5 := b5
    F6 := F6
    m6 := PySem.W.mg_of X G a6
    b6 := b6
    F7 := F7
    m7 := PySem.W.mg_of X G a7
    b7 := b7
    F8 := F8
    m8 := PySem.W.mg_of X G a8
    b8 := b8
    F9 := F9
    m9 := PySem.W.mg_of X G a9
    b9 := b9
    F10 := F10
    m10 := PySem.W.mg_of X G a10
    b10 := b10
    F11 := F11
    m11 := PySem.W.mg_of X G a11
    b11 := b11
    F13 := F13
    m13 := PySem.W.mg_of X G a13
    b13 := b13
    F14 := F14
    m14 := PySem.W.mg_of X G a14
    b14 := b14
    F15 := F15
    m15 := PySem.W.mg_of X G a15
    b15 := b15
    F16 := F16
    m16 := PySem.W.mg_of X G a16
    b16 := b16
    F17 := F17
    m17 := PySem.W.mg_of X G a17
    b17 := b17
    F18 := F18
    m18 := PySem.W.mg_of X G a18
    b18 := b18
    F19 := F19
    m19 := PySem.W.mg_of X G a19
    b19 := b19
    F20 := F20
    m20 := PySem.W.mg_of X G a20
    b20 := b20
    F21 := F21
    m21 := PySem.W.mg_of X G a21
    b21 := b21
    k_MIX_MODULUS := ⟨_, .int _, PySem.W.mg_of X G x_MIX_MODULUS, ⟨_, rfl⟩, fun st B => .int _⟩
    k_ROUNDS := ⟨_, .int _, PySem.W.mg_of X G x_ROUNDS, ⟨_, rfl⟩, fun st B => .int _⟩
  }
  exact ⟨PySem.W.fnOf "law" "law" (defArgs (topS 21)) (defBody (topS 21)) (defScope (topS 21)) .none kV21 dc21 pm21 an21 cd21 ct21, fun s v => .of_eq rfl, fun base _ _ => ok_law TT⟩
theorem walk {l : PySem.W.OpenLaw} {q : Program} {loose : List Str} {XP : (Str → Option Value) → Heap → Prop} {YP : World → Heap → Prop} {d : DefRec} {K : Params → PySem.W.Frag} (hf : ∀ ns : List Int, ns.length ≤ 63 → ∃ dr, f_law (drOf ns) = .rt (.bool true) dr) (hn : l.most = some 63) (hdf : d.params.defaults = [])
    (hY : ∀ (w : World) (h : Heap), YP w h → (K w.params).In h)
    (F : ∀ (w : World) (mg : Str → Option Value) (fa : Addr) (h : Heap), (K w.params).In h → h.Ns mainGlobals mg → mg d.name = some (.ref fa) →
      ∃ fd : FuncData, (∀ (s : Shared) (u : Value), BindsTo s fd ⟨[u], []⟩ [("script", u)]) ∧ ∀ base : Heap, (K w.params).In base → base.Ns mainGlobals mg → FnOk l.prog w (K w.params) mg base CX0 6 fa fd ["script"] (spLaw (K w.params) f_law)) :
    PySem.W.WalkO q loose XP YP l.row.toRowW d [] (fun f vs => PySem.call f vs) :=
  L2.walk_of (n := 63) (k := 6) (x := "script") (CX := fun _ => CX0) (sp := fun w => spLaw (K w.params) f_law) hn (by decide) hdf ⟨rfl, by decide, by decide⟩ hY F (fun _ _ a ns hl _ hS => ⟨a, ns, rfl, hS, hl, hf ns hl, fun _ => rfl⟩) fun _ _ _ _ _ z => z
end Wk

open PySem PySem.W PyProof.Rows in
set_option maxHeartbeats 0 in
theorem PySem.Challenge.cw_plaintraining_k20_rows_drawn_holds : PySem.Challenge.rw_plaintraining_k20_rows_drawn.Holds := by
  w_on; o_law; k_head; (case hw => w_witness2)
  k_fill
  refine Wk.walk (l := PySem.Challenge.rw_plaintraining_k20_rows_drawn) Wk.law_true rfl rfl (fun w h Y => PySem.W.kIn_of Y) ?F
  case F =>
    intro w mg fa h KX G hmg
    refine' Wk.all_mk KX G hmg ?a2 ?l2 ?c2 ?k2 ?a5 ?l5 ?c5 ?k5 ?a6 ?l6 ?c6 ?k6 ?a7 ?l7 ?c7 ?k7 ?a8 ?l8 ?c8 ?k8 ?a9 ?l9 ?c9 ?k9 ?a10 ?l10 ?c10 ?k10 ?a11 ?l11 ?c11 ?k11 ?a13 ?l13 ?c13 ?k13 ?a14 ?l14 ?c14 ?k14 ?a15 ?l15 ?c15 ?k15 ?a16 ?l16 ?c16 ?k16 ?a17 ?l17 ?c17 ?k17 ?a18 ?l18 ?c18 ?k18 ?a19 ?l19 ?c19 ?k19 ?a20 ?l20 ?c20 ?k20 ?a21 ?l21 ?c21 ?k21 ?z_abs ?z_all ?z_int ?z_len ?z_list ?z_range ?z_sorted ?x_MIX_MODULUS ?x_ROUNDS
    (case a2 => k_is)
    (case l2 => k_is)
    (case c2 => k_is)
    (case k2 => k_is)
    (case a5 => k_is)
    (case l5 => k_is)
    (case c5 => k_is)
    (case k5 => k_is)
    (case a6 => k_is)
    (case l6 => k_is)
    (case c6 => k_is)
    (case k6 => k_is)
    (case a7 => k_is)
    (case l7 => k_is)
    (case c7 => k_is)
    (case k7 => k_is)
    (case a8 => k_is)
    (case l8 => k_is)
    (case c8 => k_is)
    (case k8 => k_is)
    (case a9 => k_is)
    (case l9 => k_is)
    (case c9 => k_is)
    (case k9 => k_is)
    (case a10 => k_is)
    (case l10 => k_is)
    (case c10 => k_is)
    (case k10 => k_is)
    (case a11 => k_is)
    (case l11 => k_is)
    (case c11 => k_is)
    (case k11 => k_is)
    (case a13 => k_is)
    (case l13 => k_is)
    (case c13 => k_is)
    (case k13 => k_is)
    (case a14 => k_is)
    (case l14 => k_is)
    (case c14 => k_is)
    (case k14 => k_is)
    (case a15 => k_is)
    (case l15 => k_is)
    (case c15 => k_is)
    (case k15 => k_is)
    (case a16 => k_is)
    (case l16 => k_is)
    (case c16 => k_is)
    (case k16 => k_is)
    (case a17 => k_is)
    (case l17 => k_is)
    (case c17 => k_is)
    (case k17 => k_is)
    (case a18 => k_is)
    (case l18 => k_is)
    (case c18 => k_is)
    (case k18 => k_is)
    (case a19 => k_is)
    (case l19 => k_is)
    (case c19 => k_is)
    (case k19 => k_is)
    (case a20 => k_is)
    (case l20 => k_is)
    (case c20 => k_is)
    (case k20 => k_is)
    (case a21 => k_is)
    (case l21 => k_is)
    (case c21 => k_is)
    (case k21 => k_is)
    (case z_abs => k_is)
    (case z_all => k_is)
    (case z_int => k_is)
    (case z_len => k_is)
    (case z_list => k_is)
    (case z_range => k_is)
    (case z_sorted => k_is)
    (case x_MIX_MODULUS => k_is)
    (case x_ROUNDS => k_is)
#print axioms PySem.Challenge.cw_plaintraining_k20_rows_drawn_holds
