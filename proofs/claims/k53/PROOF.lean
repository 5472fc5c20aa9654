import PyProof.Rows.All
import Wide.All
import OpenK.AllK
import Wide.FinOn
import HandS.ForMost
import HandS.TupAny
import HandS.Flow
import HandS.Style
import HandS.Wide
import HandS.WideBits
import HandS.IsInst
import HandS.Zip
import HandS.Deep
import KE.KTupSum
import KE.DatumOrd
import HandS.Conv
import HandS.SetFor
import HandS.Strs
import PySem.Challenge.RW_plaintraining_k53_papers_of_partings_jud
set_option Elab.async false
set_option linter.all false
set_option autoImplicit false
set_option maxRecDepth 100000
set_option maxHeartbeats 8000000
/-! Mi: a mirror layer. Plain data D; what represents it; judgements that pair a construct with its mirror. -/
namespace Mi
open PySem PySem.Spec PyProof.Rows L2

abbrev D := PyData
abbrev Dr := List Int × Int
abbrev St := L2.St

/-! ### heaps -/
def Ext (H H' : Hp) : Prop := ∀ a o, H a = some o → H' a = some o
theorem Ext.refl (H : Hp) : Ext H H := fun _ _ h => h
theorem Ext.trans {H H1 H2 : Hp} (a : Ext H H1) (b : Ext H1 H2) : Ext H H2 := fun x o h => b x o (a x o h)
theorem Ext.new {H : Hp} {p : Addr} {o : HO} (h : H p = none) : Ext H (upd H p o) := fun a u e => by
  rw [upd_ne (ne_of_none e h)]
  exact e
theorem Ext.rd {H H' : Hp} {a : Addr} {u : HO} (e : Ext H H') (h : Rd H a u) : Rd H' a u := by
  rcases h with h | ⟨o, h⟩
  · exact Or.inl (e a _ h)
  · exact Or.inr ⟨o, e a _ h⟩
theorem Ext.sqt {K : PySem.W.Frag} {H H' : Hp} {a : Addr} {xs : List V} (e : Ext H H') (h : SqT K H a xs) : SqT K H' a xs := by
  rcases h with h | h
  · exact Or.inl (e.rd h)
  · exact Or.inr h
theorem Ext.none {H H' : Hp} {p : Addr} (e : Ext H H') (h : H' p = Option.none) : H p = Option.none := by
  cases h1 : H p with
  | none => rfl
  | some o => rw [e p o h1] at h; cases h

/-! ### what represents plain data -/
structure C where
  st : Option (Addr × Addr)
  H0 : Hp
  B0 : Hp
/-- a tuple's data with ints and texts among its items: what may be a key -/
def mixd (ds : List D) : Bool := (ds.any fun d => match d with | .int _ => true | _ => false) && (ds.any fun d => match d with | .str _ => true | _ => false)
def TupAt (K : PySem.W.Frag) (B : Hp) (a : Addr) (xs : List V) (ds : List D) : Prop := B a = some (.tup xs) ∨ (SqT K B a xs ∧ mixd ds = false)
theorem TupAt.sqt {K : PySem.W.Frag} {B : Hp} {a : Addr} {xs : List V} {ds : List D} (h : TupAt K B a xs ds) : SqT K B a xs := by
  rcases h with h | h
  · exact .inl (.inl h)
  · exact h.1
theorem TupAt.mono {K : PySem.W.Frag} {B B' : Hp} {a : Addr} {xs : List V} {ds : List D} (e : Ext B B') (h : TupAt K B a xs ds) : TupAt K B' a xs ds := by
  rcases h with h | h
  · exact .inl (e _ _ h)
  · exact .inr ⟨e.sqt h.1, h.2⟩
theorem TupAt.new {K : PySem.W.Frag} {B : Hp} {a : Addr} {xs : List V} {ds : List D} (h : B a = some (.tup xs)) : TupAt K B a xs ds := .inl h
/-- a dict's keys as data -/
def kkD : Key → D
  | .inl i => .int i
  | .inr x => .str x
def tkD (k : List Key) : D := .tuple (k.map kkD)
mutual
inductive Rp (K : PySem.W.Frag) (st : Option (Addr × Addr)) (B : Hp) : V → D → Prop
  | non : Rp K st B .non .none
  | bl (b : Bool) : Rp K st B (.bl b) (.bool b)
  | int (i : Int) : Rp K st B (.int i) (.int i)
  | str (x : Str) : Rp K st B (.str x) (.str x)
  | lst {a : Addr} {xs : List V} {ds : List D} : B a = some (.lst xs) → RpA K st B xs ds → Rp K st B (.ref a) (.list ds)
  | tup {a : Addr} {xs : List V} {ds : List D} : TupAt K B a xs ds → RpA K st B xs ds → Rp K st B (.ref a) (.tuple ds)
  | dct {a : Addr} {kvs : List (List Key × V)} {ks : List (D × D)} : B a = some (.dT kvs) → RpK K st B (kvs.map fun p => (tkD p.1, p.2)) ks → Rp K st B (.ref a) (.dict ((.bool true, .none) :: ks))
  | dck {a : Addr} {kvs : List (Key × V)} {ks : List (D × D)} : B a = some (.dK kvs) → RpK K st B (kvs.map fun p => (kkD p.1, p.2)) ks → Rp K st B (.ref a) (.dict ((.bool false, .none) :: ks))
  | stt {a c : Addr} : st = some (a, c) → Rp K st B (.ref a) (.dict [])
inductive RpA (K : PySem.W.Frag) (st : Option (Addr × Addr)) (B : Hp) : List V → List D → Prop
  | nil : RpA K st B [] []
  | cons {v : V} {vs : List V} {d : D} {ds : List D} : Rp K st B v d → RpA K st B vs ds → RpA K st B (v :: vs) (d :: ds)
inductive RpK (K : PySem.W.Frag) (st : Option (Addr × Addr)) (B : Hp) : List (D × V) → List (D × D) → Prop
  | nil : RpK K st B [] []
  | cons {k d : D} {v : V} {us : List (D × V)} {ks : List (D × D)} : Rp K st B v d → RpK K st B us ks → RpK K st B ((k, v) :: us) ((k, d) :: ks)
end
section
variable {K : PySem.W.Frag} {st : Option (Addr × Addr)} {B B' H : Hp}
mutual
theorem Rp.mono (e : Ext B B') : ∀ (d : D) (v : V), Rp K st B v d → Rp K st B' v d
  | .none, _, h => by cases h; exact .non
  | .bool b, _, h => by cases h; exact .bl b
  | .int i, _, h => by cases h; exact .int i
  | .str x, _, h => by cases h; exact .str x
  | .list ds, _, h => by
    cases h with
    | lst hs ha => exact .lst (e _ _ hs) (RpA.mono e ds _ ha)
  | .tuple ds, _, h => by
    cases h with
    | tup hs ha => exact .tup (hs.mono e) (RpA.mono e ds _ ha)
  | .dict _, _, h => by
    cases h with
    | stt h => exact .stt h
    | dct hs hk => exact .dct (e _ _ hs) (RpK.mono e _ _ hk)
    | dck hs hk => exact .dck (e _ _ hs) (RpK.mono e _ _ hk)
termination_by d => sizeOf d
theorem RpA.mono (e : Ext B B') : ∀ (ds : List D) (vs : List V), RpA K st B vs ds → RpA K st B' vs ds
  | [], _, h => by cases h; exact .nil
  | d :: ds, _, h => by
    cases h with
    | cons h1 h2 => exact .cons (Rp.mono e d _ h1) (RpA.mono e ds _ h2)
termination_by ds => sizeOf ds
theorem RpK.mono (e : Ext B B') : ∀ (ks : List (D × D)) (us : List (D × V)), RpK K st B us ks → RpK K st B' us ks
  | [], _, h => by cases h; exact .nil
  | (k, d) :: ks, _, h => by
    cases h with
    | cons h1 h2 => exact .cons (Rp.mono e d _ h1) (RpK.mono e ks _ h2)
termination_by ks => sizeOf ks
end
theorem RpA.length : ∀ {vs : List V} {ds : List D}, RpA K st B vs ds → vs.length = ds.length
  | _, _, .nil => rfl
  | _, _, .cons _ t => by simp [RpA.length t]
theorem RpA.get : ∀ {vs : List V} {ds : List D} {i : Nat} {d : D}, RpA K st B vs ds → ds[i]? = some d → ∃ v, vs[i]? = some v ∧ Rp K st B v d
  | _, _, i, d, .nil, e => by simp at e
  | _, _, 0, d, .cons r _, e => by simp at e; subst e; exact ⟨_, rfl, r⟩
  | _, _, i + 1, d, .cons _ t, e => by
    obtain ⟨v, h1, h2⟩ := RpA.get (i := i) (d := d) t (by simpa using e)
    exact ⟨v, by simpa using h1, h2⟩
theorem RpA.getV : ∀ {vs : List V} {ds : List D} {i : Nat} {v : V}, RpA K st B vs ds → vs[i]? = some v → ∃ d, ds[i]? = some d ∧ Rp K st B v d
  | _, _, i, d, .nil, e => by simp at e
  | _, _, 0, d, .cons r _, e => by simp at e; subst e; exact ⟨_, rfl, r⟩
  | _, _, i + 1, d, .cons _ t, e => by
    obtain ⟨v, h1, h2⟩ := RpA.getV (i := i) (v := d) t (by simpa using e)
    exact ⟨v, by simpa using h1, h2⟩
theorem RpA.append : ∀ {vs us : List V} {ds es : List D}, RpA K st B vs ds → RpA K st B us es → RpA K st B (vs ++ us) (ds ++ es)
  | _, _, _, _, .nil, s => s
  | _, _, _, _, .cons r t, s => .cons r (RpA.append t s)
theorem RpA.take : ∀ {vs : List V} {ds : List D} (n : Nat), RpA K st B vs ds → RpA K st B (vs.take n) (ds.take n)
  | _, _, 0, _ => .nil
  | _, _, _ + 1, .nil => .nil
  | _, _, n + 1, .cons r t => .cons r (RpA.take n t)
theorem RpA.drop : ∀ {vs : List V} {ds : List D} (n : Nat), RpA K st B vs ds → RpA K st B (vs.drop n) (ds.drop n)
  | _, _, 0, r => r
  | _, _, _ + 1, .nil => .nil
  | _, _, n + 1, .cons _ t => RpA.drop n t
theorem RpA.set {v : V} {d : D} (r : Rp K st B v d) : ∀ {vs : List V} {ds : List D} (i : Nat), RpA K st B vs ds → RpA K st B (vs.set i v) (ds.set i d)
  | _, _, _, .nil => .nil
  | _, _, 0, .cons _ t => .cons r t
  | _, _, i + 1, .cons q t => .cons q (RpA.set r i t)
theorem RpA.erase : ∀ {vs : List V} {ds : List D} (i : Nat), RpA K st B vs ds → RpA K st B (vs.eraseIdx i) (ds.eraseIdx i)
  | _, _, _, .nil => .nil
  | _, _, 0, .cons _ t => t
  | _, _, i + 1, .cons q t => .cons q (RpA.erase i t)
theorem RpA.dropLast {vs : List V} {ds : List D} (h : RpA K st B vs ds) : RpA K st B vs.dropLast ds.dropLast := by
  rw [List.dropLast_eq_take, List.dropLast_eq_take, h.length]
  exact h.take _
theorem RpA.reverse : ∀ {vs : List V} {ds : List D}, RpA K st B vs ds → RpA K st B vs.reverse ds.reverse
  | _, _, .nil => .nil
  | _, _, .cons r t => by
    rw [List.reverse_cons, List.reverse_cons]
    exact RpA.append (RpA.reverse t) (.cons r .nil)
theorem RpA.ints : ∀ {vs : List V} {ns : List Int}, RpA K st B vs (ns.map PyData.int) → vs = ns.map V.int
  | _, [], .nil => rfl
  | _, n :: ns, .cons r t => by
    cases r
    rw [RpA.ints t]
    rfl
theorem RpA.ofInts : ∀ ns : List Int, RpA K st B (ns.map V.int) (ns.map PyData.int)
  | [] => .nil
  | n :: ns => .cons (.int n) (RpA.ofInts ns)
theorem RpA.bools : ∀ {vs : List V} {ns : List Bool}, RpA K st B vs (ns.map PyData.bool) → vs = ns.map V.bl
  | _, [], .nil => rfl
  | _, n :: ns, .cons r t => by
    cases r
    rw [RpA.bools t]
    rfl
theorem RpA.strs : ∀ {vs : List V} {ns : List Str}, RpA K st B vs (ns.map PyData.str) → vs = ns.map V.str
  | _, [], .nil => rfl
  | _, n :: ns, .cons r t => by
    cases r
    rw [RpA.strs t]
    rfl
mutual
theorem Rp.dp (e : Ext B H) : ∀ (d : D) (v : V), Rp K st B v d → d.canLay0 = true → Dp K H v d
  | .none, _, h, _ => by cases h; exact .non
  | .bool b, _, h, _ => by cases h; exact .bl b
  | .int i, _, h, _ => by cases h; exact .int i
  | .str x, _, h, _ => by cases h; exact .str x
  | .list ds, _, h, c => by
    cases h with
    | lst hs ha => exact .lst (SqL.of (e _ _ hs)) (RpA.dp e ds _ ha (by simpa [PyData.canLay0] using c))
  | .tuple ds, _, h, c => by
    cases h with
    | tup hs ha => exact .tup (e.sqt hs.sqt) (RpA.dp e ds _ ha (by simpa [PyData.canLay0] using c))
  | .dict _, _, h, c => by simp [PyData.canLay0] at c
theorem RpA.dp (e : Ext B H) : ∀ (ds : List D) (vs : List V), RpA K st B vs ds → PyData.canLayAll0 ds = true → DpAll K H vs ds
  | [], _, h, _ => by cases h; exact .nil
  | d :: ds, _, h, c => by
    have c' : d.canLay0 = true ∧ PyData.canLayAll0 ds = true := by simpa [PyData.canLayAll0] using c
    cases h with
    | cons h1 h2 => exact .cons (Rp.dp e d _ h1 c'.1) (RpA.dp e ds _ h2 c'.2)
end
/-- what holds no reference -/
def flat : D → Bool
  | .none => true
  | .bool _ => true
  | .int _ => true
  | .str _ => true
  | _ => false
theorem Rp.flat_any {B B' : Hp} {d : D} {v : V} (h : Rp K st B v d) (f : flat d = true) : Rp K st B' v d := by
  cases h with
  | non => exact .non
  | bl b => exact .bl b
  | int i => exact .int i
  | str x => exact .str x
  | lst _ _ => cases f
  | tup _ _ => cases f
  | stt _ => cases f
  | dct _ _ => cases f
  | dck _ _ => cases f
mutual
theorem Rp.st_none : ∀ (d : D) (v : V), Rp K none B v d → Rp K st B v d
  | .none, _, h => by cases h; exact .non
  | .bool b, _, h => by cases h; exact .bl b
  | .int i, _, h => by cases h; exact .int i
  | .str x, _, h => by cases h; exact .str x
  | .list ds, _, h => by
    cases h with
    | lst hs ha => exact .lst hs (RpA.st_none ds _ ha)
  | .tuple ds, _, h => by
    cases h with
    | tup hs ha => exact .tup hs (RpA.st_none ds _ ha)
  | .dict _, _, h => by
    cases h with
    | stt h => cases h
    | dct hs hk => exact .dct hs (RpK.st_none _ _ hk)
    | dck hs hk => exact .dck hs (RpK.st_none _ _ hk)
termination_by d => sizeOf d
theorem RpA.st_none : ∀ (ds : List D) (vs : List V), RpA K none B vs ds → RpA K st B vs ds
  | [], _, h => by cases h; exact .nil
  | d :: ds, _, h => by
    cases h with
    | cons h1 h2 => exact .cons (Rp.st_none d _ h1) (RpA.st_none ds _ h2)
termination_by ds => sizeOf ds
theorem RpK.st_none : ∀ (ks : List (D × D)) (us : List (D × V)), RpK K none B us ks → RpK K st B us ks
  | [], _, h => by cases h; exact .nil
  | (k, d) :: ks, _, h => by
    cases h with
    | cons h1 h2 => exact .cons (Rp.st_none d _ h1) (RpK.st_none ks _ h2)
termination_by ks => sizeOf ks
end
theorem RpK.length : ∀ {us : List (D × V)} {ks : List (D × D)}, RpK K st B us ks → us.length = ks.length
  | _, _, .nil => rfl
  | _, _, .cons _ t => by simp [RpK.length t]
end

/-! ### the mirror's state -/
/-- an object of ours: a list; a dict (with tuples or with plain keys) -/
inductive Ob where
  | l (ds : List D)
  | d (tk : Bool) (ks : List (D × D))
def Ob.dat : Ob → D
  | .l ds => .list ds
  | .d tk ks => .dict ((.bool tk, .none) :: ks)
def ObR (K : PySem.W.Frag) (st : Option (Addr × Addr)) (B : Hp) : HO → Ob → Prop
  | .lst vs, .l ds => RpA K st B vs ds
  | .dT kvs, .d true ks => RpK K st B (kvs.map fun p => (tkD p.1, p.2)) ks
  | .dK kvs, .d false ks => RpK K st B (kvs.map fun p => (kkD p.1, p.2)) ks
  | _, _ => False
theorem ObR.mono {K : PySem.W.Frag} {st : Option (Addr × Addr)} {B B' : Hp} (e : Ext B B') {h : HO} {o : Ob} (r : ObR K st B h o) : ObR K st B' h o := by
  unfold ObR at r ⊢
  split at r
  · exact RpA.mono e _ _ r
  · exact RpK.mono e _ _ r
  · exact RpK.mono e _ _ r
  · exact r.elim
theorem ObR.rp {K : PySem.W.Frag} {st : Option (Addr × Addr)} {B : Hp} {h : HO} {o : Ob} {a : Addr} (r : ObR K st B h o) (hb : B a = some h) : Rp K st B (.ref a) o.dat := by
  unfold ObR at r
  split at r
  · exact .lst hb r
  · exact .dct hb r
  · exact .dck hb r
  · exact r.elim
theorem ObR.list {K : PySem.W.Frag} {st : Option (Addr × Addr)} {B : Hp} {h : HO} {ds : List D} (r : ObR K st B h (.l ds)) : ∃ vs, h = .lst vs ∧ RpA K st B vs ds := by
  unfold ObR at r
  split at r
  · rename_i e; cases e; exact ⟨_, rfl, r⟩
  · rename_i e; cases e
  · rename_i e; cases e
  · exact r.elim
inductive Sl where
  | un
  | val (d : D)
  | ow (o : Ob)
abbrev Sl.own (ds : List D) : Sl := .ow (.l ds)
structure MS where
  sl : List Sl
  dr : Dr
abbrev M (α : Type) := MS → Option (α × MS)

def SlOk (K : PySem.W.Frag) (c : C) (B : Hp) (σ : St) (H : Hp) (i : Nat) : Sl → Prop
  | .un => True
  | .val d => ∃ v, σ[i]? = some (some v) ∧ Rp K c.st B v d
  | .ow o => ∃ p h, σ[i]? = some (some (.ref p)) ∧ H p = some h ∧ B p = none ∧ c.H0 p = none ∧ ObR K c.st B h o
def DrOk (c : C) (B H : Hp) (dr : Dr) : Prop := ∀ x y, c.st = some (x, y) → x ≠ y ∧ H x = some (.lst [.ref y, .int dr.2]) ∧ H y = some (.lst (dr.1.map .int)) ∧ B x = none ∧ B y = none ∧ c.H0 x ≠ none ∧ c.H0 y ≠ none
def IsSt (c : C) (a : Addr) : Prop := ∃ x y, c.st = some (x, y) ∧ (a = x ∨ a = y)
structure Rel0 (c : C) (B H : Hp) (dr : Dr) : Prop where
  ext : Ext B H
  dr : DrOk c B H dr
  fr : ∀ a o, c.H0 a = some o → ¬ IsSt c a → H a = some o
  nw : ∀ a o, B a = some o → c.B0 a = some o ∨ c.H0 a = none
  b0 : Ext c.B0 B
structure Rel (K : PySem.W.Frag) (c : C) (B : Hp) (σ : St) (H : Hp) (μ : MS) : Prop where
  r0 : Rel0 c B H μ.dr
  len : σ.length = μ.sl.length
  sl : ∀ (i : Nat) (s : Sl), μ.sl[i]? = some s → SlOk K c B σ H i s
  sep : ∀ (i j : Nat) (di dj : Ob), i ≠ j → μ.sl[i]? = some (.ow di) → μ.sl[j]? = some (.ow dj) → σ[i]? ≠ σ[j]?

theorem IsSt.some {c : C} {B H : Hp} {dr : Dr} {a : Addr} (h : DrOk c B H dr) (s : IsSt c a) : (∃ o, H a = some o) ∧ B a = none ∧ c.H0 a ≠ none := by
  obtain ⟨x, y, e, s⟩ := s
  obtain ⟨_, h1, h2, h3, h4, h5, h6⟩ := h x y e
  rcases s with rfl | rfl
  · exact ⟨⟨_, h1⟩, h3, h5⟩
  · exact ⟨⟨_, h2⟩, h4, h6⟩
/-- fresh now: fresh at the entry -/
theorem Rel0.fresh {c : C} {B H : Hp} {dr : Dr} (r : Rel0 c B H dr) {p : Addr} (h : H p = none) : c.H0 p = none ∧ B p = none := by
  refine ⟨?_, r.ext.none h⟩
  cases q : c.H0 p with
  | none => rfl
  | some o =>
    by_cases s : IsSt c p
    · obtain ⟨⟨o', e⟩, _⟩ := s.some r.dr
      rw [h] at e; cases e
    · rw [r.fr p o q s] at h; cases h
/-- a new object, known from now on -/
theorem Rel0.know {c : C} {B H : Hp} {dr : Dr} (r : Rel0 c B H dr) {p : Addr} {o : HO} (h : H p = none) : Rel0 c (upd B p o) (upd H p o) dr := by
  obtain ⟨h0, hb⟩ := r.fresh h
  refine ⟨fun a u e => ?_, fun x y e => ?_, fun a u e s => ?_, fun a u e => ?_, r.b0.trans (Ext.new hb)⟩
  · by_cases ha : a = p
    · subst ha; rw [upd_same] at e ⊢; exact e
    · rw [upd_ne ha] at e ⊢; exact r.ext a u e
  · obtain ⟨h1, h2, h3, h4, h5, h6, h7⟩ := r.dr x y e
    have nx : x ≠ p := fun q => by subst q; exact h6 h0
    have ny : y ≠ p := fun q => by subst q; exact h7 h0
    rw [upd_ne nx, upd_ne ny, upd_ne nx, upd_ne ny]
    exact ⟨h1, h2, h3, h4, h5, h6, h7⟩
  · rw [upd_ne (ne_of_none e h0)]
    exact r.fr a u e s
  · by_cases ha : a = p
    · subst ha; exact .inr h0
    · rw [upd_ne ha] at e; exact r.nw a u e
/-- a new object, or a change of one that is neither known nor stood at the entry -/
theorem Rel0.hide {c : C} {B H : Hp} {dr : Dr} (r : Rel0 c B H dr) {p : Addr} {o : HO} (h0 : c.H0 p = none) (hb : B p = none) : Rel0 c B (upd H p o) dr := by
  refine ⟨fun a u e => ?_, fun x y e => ?_, fun a u e s => ?_, r.nw, r.b0⟩
  · rw [upd_ne (ne_of_none e hb)]; exact r.ext a u e
  · obtain ⟨h1, h2, h3, h4, h5, h6, h7⟩ := r.dr x y e
    have nx : x ≠ p := fun q => by subst q; exact h6 h0
    have ny : y ≠ p := fun q => by subst q; exact h7 h0
    rw [upd_ne nx, upd_ne ny]
    exact ⟨h1, h2, h3, h4, h5, h6, h7⟩
  · rw [upd_ne (ne_of_none e h0)]
    exact r.fr a u e s
/-- an object of ours that is no more changed is known from now on -/
theorem Rel0.freeze {c : C} {B H : Hp} {dr : Dr} (r : Rel0 c B H dr) {p : Addr} {o : HO} (h : H p = some o) (h0 : c.H0 p = none) (hb : B p = none) : Rel0 c (upd B p o) H dr := by
  refine ⟨fun a u e => ?_, fun x y e => ?_, r.fr, fun a u e => ?_, r.b0.trans (Ext.new hb)⟩
  · by_cases ha : a = p
    · subst ha; rw [upd_same] at e; rw [← e]; exact h
    · rw [upd_ne ha] at e; exact r.ext a u e
  · obtain ⟨h1, h2, h3, h4, h5, h6, h7⟩ := r.dr x y e
    have nx : x ≠ p := fun q => by subst q; exact h6 h0
    have ny : y ≠ p := fun q => by subst q; exact h7 h0
    rw [upd_ne nx, upd_ne ny]
    exact ⟨h1, h2, h3, h4, h5, h6, h7⟩
  · by_cases ha : a = p
    · subst ha; exact .inr h0
    · rw [upd_ne ha] at e; exact r.nw a u e

section
variable {K : PySem.W.Frag} {c : C} {B B' H H' : Hp} {σ : St} {μ : MS}
/-- the slots under a new base, where lists of ours stand as they stood -/
theorem Rel.move {dr : Dr} (r : Rel K c B σ H μ) (r0 : Rel0 c B' H' dr) (e : Ext B B')
    (own : ∀ (i : Nat) (ds : Ob) (p : Addr), μ.sl[i]? = some (.ow ds) → σ[i]? = some (some (.ref p)) → H' p = H p ∧ B' p = none) : Rel K c B' σ H' { μ with dr := dr } := by
  refine ⟨r0, r.len, fun i s hs => ?_, r.sep⟩
  have h := r.sl i s hs
  cases s with
  | un => trivial
  | val d =>
    obtain ⟨v, h1, h2⟩ := h
    exact ⟨v, h1, h2.mono e⟩
  | ow ds =>
    obtain ⟨p, vs, h1, h2, h3, h4, h5⟩ := h
    obtain ⟨o1, o2⟩ := own i ds p hs h1
    exact ⟨p, vs, h1, by rw [o1]; exact h2, o2, h4, h5.mono e⟩
theorem Rel.owAt (r : Rel K c B σ H μ) {i : Nat} {o : Ob} (h : μ.sl[i]? = some (.ow o)) : ∃ p h, σ[i]? = some (some (.ref p)) ∧ H p = some h ∧ B p = none ∧ c.H0 p = none ∧ ObR K c.st B h o := r.sl i _ h
theorem Rel.ownAt (r : Rel K c B σ H μ) {i : Nat} {ds : List D} (h : μ.sl[i]? = some (.own ds)) : ∃ p vs, σ[i]? = some (some (.ref p)) ∧ H p = some (.lst vs) ∧ B p = none ∧ c.H0 p = none ∧ RpA K c.st B vs ds := by
  obtain ⟨p, ho, h1, h2, h3, h4, h5⟩ := r.owAt h
  obtain ⟨vs, rfl, h6⟩ := h5.list
  exact ⟨p, vs, h1, h2, h3, h4, h6⟩
theorem Rel.valAt (r : Rel K c B σ H μ) {i : Nat} {d : D} (h : μ.sl[i]? = some (.val d)) : ∃ v, σ[i]? = some (some v) ∧ Rp K c.st B v d := r.sl i _ h
/-- a new object, known from now on -/
theorem Rel.know (r : Rel K c B σ H μ) {p : Addr} {o : HO} (h : H p = none) : Rel K c (upd B p o) σ (upd H p o) μ := by
  obtain ⟨h0, hb⟩ := r.r0.fresh h
  refine r.move (dr := μ.dr) (r.r0.know h) (Ext.new hb) fun i ds q h1 h2 => ?_
  obtain ⟨q', vs, e1, e2, e3, e4, e5⟩ := r.owAt h1
  rw [h2] at e1; cases e1
  have nq : q ≠ p := ne_of_none e2 h
  rw [upd_ne nq, upd_ne nq]
  exact ⟨rfl, e3⟩
/-- a new object that nobody knows -/
theorem Rel.hide (r : Rel K c B σ H μ) {p : Addr} {o : HO} (h : H p = none) : Rel K c B σ (upd H p o) μ := by
  obtain ⟨h0, hb⟩ := r.r0.fresh h
  refine r.move (dr := μ.dr) (r.r0.hide h0 hb) (Ext.refl _) fun i ds q h1 h2 => ?_
  obtain ⟨q', vs, e1, e2, e3, e4, e5⟩ := r.owAt h1
  rw [h2] at e1; cases e1
  rw [upd_ne (ne_of_none e2 h)]
  exact ⟨rfl, e3⟩
/-- an address that no slot of ours owns -/
def NoOwn (σ : St) (μ : MS) (p : Addr) : Prop := ∀ (i : Nat) (ds : Ob), μ.sl[i]? = some (.ow ds) → σ[i]? ≠ some (some (.ref p))
theorem Rel.noOwn (r : Rel K c B σ H μ) {p : Addr} (h : H p = none) : NoOwn σ μ p := fun i ds h1 h2 => by
  obtain ⟨q', vs, e1, e2, e3, e4, e5⟩ := r.owAt h1
  rw [h2] at e1; cases e1
  rw [h] at e2; cases e2
/-- a list that nobody owns changes -/
theorem Rel.chg (r : Rel K c B σ H μ) {p : Addr} {o : HO} (h0 : c.H0 p = none) (hb : B p = none) (n : NoOwn σ μ p) : Rel K c B σ (upd H p o) μ := by
  refine r.move (dr := μ.dr) (r.r0.hide h0 hb) (Ext.refl _) fun i ds q h1 h2 => ?_
  obtain ⟨q', vs, e1, e2, e3, e4, e5⟩ := r.owAt h1
  rw [h2] at e1; cases e1
  have nq : q ≠ p := fun z => by subst z; exact n i ds h1 h2
  rw [upd_ne nq]
  exact ⟨rfl, e3⟩
/-- .. is known from now on -/
theorem Rel.freeze (r : Rel K c B σ H μ) {p : Addr} {o : HO} (h : H p = some o) (h0 : c.H0 p = none) (hb : B p = none) (n : NoOwn σ μ p) : Rel K c (upd B p o) σ H μ := by
  refine r.move (dr := μ.dr) (r.r0.freeze h h0 hb) (Ext.new hb) fun i ds q h1 h2 => ?_
  obtain ⟨q', vs, e1, e2, e3, e4, e5⟩ := r.owAt h1
  rw [h2] at e1; cases e1
  have nq : q ≠ p := fun z => by subst z; exact n i ds h1 h2
  rw [upd_ne nq]
  exact ⟨rfl, e3⟩
def setS (μ : MS) (i : Nat) (s : Sl) : MS := { μ with sl := μ.sl.set i s }
/-- a slot is set -/
theorem Rel.put (r : Rel K c B σ H μ) {i : Nat} {v : Option V} {s : Sl} (h : i < μ.sl.length → SlOk K c B (σ.set i v) H i s)
    (hs : ∀ (ds : Ob) (j : Nat) (dj : Ob), s = .ow ds → j ≠ i → μ.sl[j]? = some (.ow dj) → σ[j]? ≠ some v) : Rel K c B (σ.set i v) H (setS μ i s) := by
  refine ⟨r.r0, by simp [setS, r.len], fun j t hj => ?_, fun j k dj dk njk hj hk => ?_⟩
  · by_cases hji : j = i
    · subst hji
      have hl : j < μ.sl.length := by
        have := (List.getElem?_eq_some_iff.mp hj).1
        simpa [setS] using this
      rw [show (setS μ j s).sl = μ.sl.set j s from rfl, List.getElem?_set_self hl] at hj
      cases hj
      exact h hl
    · rw [show (setS μ i s).sl = μ.sl.set i s from rfl, List.getElem?_set_ne (Ne.symm hji)] at hj
      have q := r.sl j t hj
      cases t with
      | un => trivial
      | val d =>
        obtain ⟨v', h1, h2⟩ := q
        exact ⟨v', by rw [List.getElem?_set_ne (Ne.symm hji)]; exact h1, h2⟩
      | ow ds =>
        obtain ⟨p, vs, h1, h2⟩ := q
        exact ⟨p, vs, by rw [List.getElem?_set_ne (Ne.symm hji)]; exact h1, h2⟩
  · by_cases hji : j = i
    · subst hji
      have hl : j < μ.sl.length := by
        have := (List.getElem?_eq_some_iff.mp hj).1
        simpa [setS] using this
      rw [show (setS μ j s).sl = μ.sl.set j s from rfl] at hj hk
      rw [List.getElem?_set_self hl] at hj
      rw [List.getElem?_set_ne njk] at hk
      cases hj
      rw [List.getElem?_set_self (by rw [r.len]; exact hl), List.getElem?_set_ne njk]
      exact (hs dj k dk rfl (Ne.symm njk) hk).symm
    · by_cases hki : k = i
      · subst hki
        have hl : k < μ.sl.length := by
          have := (List.getElem?_eq_some_iff.mp hk).1
          simpa [setS] using this
        rw [show (setS μ k s).sl = μ.sl.set k s from rfl] at hj hk
        rw [List.getElem?_set_self hl] at hk
        rw [List.getElem?_set_ne (Ne.symm njk)] at hj
        cases hk
        rw [List.getElem?_set_self (l := σ) (by rw [r.len]; exact hl), List.getElem?_set_ne (Ne.symm njk)]
        exact hs dk j dj rfl njk hj
      · rw [show (setS μ i s).sl = μ.sl.set i s from rfl] at hj hk
        rw [List.getElem?_set_ne (Ne.symm hji)] at hj
        rw [List.getElem?_set_ne (Ne.symm hki)] at hk
        rw [List.getElem?_set_ne (Ne.symm hji), List.getElem?_set_ne (Ne.symm hki)]
        exact r.sep j k dj dk njk hj hk
theorem Rel.putV (r : Rel K c B σ H μ) {i : Nat} {v : V} {d : D} (h : Rp K c.st B v d) : Rel K c B (σ.set i (some v)) H (setS μ i (.val d)) :=
  r.put (fun hl => ⟨v, by rw [List.getElem?_set_self (by rw [r.len]; exact hl)], h⟩) fun _ _ _ e => by cases e
theorem Rel.putOw (r : Rel K c B σ H μ) {i : Nat} {p : Addr} {h : HO} {o : Ob} (hh : H p = some h) (hb : B p = none) (h0 : c.H0 p = none) (ha : ObR K c.st B h o) (n : NoOwn σ μ p) :
    Rel K c B (σ.set i (some (.ref p))) H (setS μ i (.ow o)) :=
  r.put (fun hl => ⟨p, h, by rw [List.getElem?_set_self (by rw [r.len]; exact hl)], hh, hb, h0, ha⟩) fun _ j dj _ _ hj => n j dj hj
theorem Rel.putO (r : Rel K c B σ H μ) {i : Nat} {p : Addr} {vs : List V} {ds : List D} (h : H p = some (.lst vs)) (hb : B p = none) (h0 : c.H0 p = none) (ha : RpA K c.st B vs ds) (n : NoOwn σ μ p) :
    Rel K c B (σ.set i (some (.ref p))) H (setS μ i (.own ds)) := r.putOw h hb h0 (o := .l ds) ha n
/-- a slot's word alone changes (its value stays) -/
theorem Rel.same (r : Rel K c B σ H μ) {i : Nat} {s : Sl} (h : i < μ.sl.length → SlOk K c B σ H i s) (hs : ∀ ds, s ≠ .ow ds) : Rel K c B σ H (setS μ i s) := by
  refine ⟨r.r0, by simp [setS, r.len], fun j t hj => ?_, fun j k dj dk njk hj hk => ?_⟩
  · by_cases hji : j = i
    · subst hji
      have hl : j < μ.sl.length := by
        have := (List.getElem?_eq_some_iff.mp hj).1
        simpa [setS] using this
      rw [show (setS μ j s).sl = μ.sl.set j s from rfl, List.getElem?_set_self hl] at hj
      cases hj
      exact h hl
    · rw [show (setS μ i s).sl = μ.sl.set i s from rfl, List.getElem?_set_ne (Ne.symm hji)] at hj
      exact r.sl j t hj
  · have aux : ∀ (j : Nat) (dj : Ob), (setS μ i s).sl[j]? = some (.ow dj) → μ.sl[j]? = some (.ow dj) := fun j dj hj => by
      by_cases hji : j = i
      · subst hji
        have hl : j < μ.sl.length := by
          have := (List.getElem?_eq_some_iff.mp hj).1
          simpa [setS] using this
        rw [show (setS μ j s).sl = μ.sl.set j s from rfl, List.getElem?_set_self hl] at hj
        cases hj
        exact (hs dj rfl).elim
      · rw [show (setS μ i s).sl = μ.sl.set i s from rfl, List.getElem?_set_ne (Ne.symm hji)] at hj
        exact hj
    exact r.sep j k dj dk njk (aux j dj hj) (aux k dk hk)
/-- a list of ours in a slot changes -/
theorem Rel.owSet (r : Rel K c B σ H μ) {i : Nat} {ds ds' : Ob} {p : Addr} {vs' : HO} (h : μ.sl[i]? = some (.ow ds)) (hp : σ[i]? = some (some (.ref p))) (ha : ObR K c.st B vs' ds') :
    Rel K c B σ (upd H p vs') (setS μ i (.ow ds')) := by
  obtain ⟨q, vs, e1, e2, e3, e4, e5⟩ := r.owAt h
  rw [hp] at e1; cases e1
  have hl : i < μ.sl.length := (List.getElem?_eq_some_iff.mp h).1
  refine ⟨r.r0.hide e4 e3, by simp [setS, r.len], fun j t hj => ?_, fun j k dj dk njk hj hk => ?_⟩
  · by_cases hji : j = i
    · subst hji
      rw [show (setS μ j (.ow ds')).sl = μ.sl.set j (.ow ds') from rfl, List.getElem?_set_self hl] at hj
      cases hj
      exact ⟨p, vs', hp, upd_same, e3, e4, ha⟩
    · rw [show (setS μ i (.ow ds')).sl = μ.sl.set i (.ow ds') from rfl, List.getElem?_set_ne (Ne.symm hji)] at hj
      have q := r.sl j t hj
      cases t with
      | un => trivial
      | val d => exact q
      | ow dj =>
        obtain ⟨p', vs2, h1, h2, h3, h4, h5⟩ := q
        have np : p' ≠ p := fun z => by
          subst z
          exact r.sep j i dj ds hji hj h (h1.trans hp.symm)
        exact ⟨p', vs2, h1, by rw [upd_ne np]; exact h2, h3, h4, h5⟩
  · have aux : ∀ (j : Nat) (dj : Ob), (setS μ i (.ow ds')).sl[j]? = some (.ow dj) → ∃ dj', μ.sl[j]? = some (.ow dj') := fun j dj hj => by
      by_cases hji : j = i
      · subst hji; exact ⟨_, h⟩
      · rw [show (setS μ i (.ow ds')).sl = μ.sl.set i (.ow ds') from rfl, List.getElem?_set_ne (Ne.symm hji)] at hj
        exact ⟨_, hj⟩
    obtain ⟨dj', hj'⟩ := aux j dj hj
    obtain ⟨dk', hk'⟩ := aux k dk hk
    exact r.sep j k dj' dk' njk hj' hk'
theorem Rel.ownSet (r : Rel K c B σ H μ) {i : Nat} {ds ds' : List D} {p : Addr} {vs' : List V} (h : μ.sl[i]? = some (.own ds)) (hp : σ[i]? = some (some (.ref p))) (ha : RpA K c.st B vs' ds') :
    Rel K c B σ (upd H p (.lst vs')) (setS μ i (.own ds')) := r.owSet (ds' := .l ds') (vs' := .lst vs') h hp ha
/-- a list of ours in a slot is given away as a value -/
theorem Rel.owVal (r : Rel K c B σ H μ) {i : Nat} {ds : Ob} (h : μ.sl[i]? = some (.ow ds)) :
    ∃ p vs, σ[i]? = some (some (.ref p)) ∧ H p = some vs ∧ B p = none ∧ Ext B (upd B p vs) ∧ Rp K c.st (upd B p vs) (.ref p) ds.dat ∧ Rel K c (upd B p vs) σ H (setS μ i (.val ds.dat)) := by
  obtain ⟨p, vs, e1, e2, e3, e4, e5⟩ := r.owAt h
  have ex : Ext B (upd B p vs) := Ext.new e3
  have rp : Rp K c.st (upd B p vs) (.ref p) ds.dat := (e5.mono ex).rp upd_same
  refine ⟨p, vs, e1, e2, e3, ex, rp, ?_⟩
  have r1 : Rel K c B σ H (setS μ i .un) := r.same (fun _ => trivial) fun _ z => by cases z
  have n1 : NoOwn σ (setS μ i .un) p := fun j dj hj hs => by
    by_cases hji : j = i
    · subst hji
      have hl : j < μ.sl.length := (List.getElem?_eq_some_iff.mp h).1
      rw [show (setS μ j .un).sl = μ.sl.set j .un from rfl, List.getElem?_set_self hl] at hj
      cases hj
    · rw [show (setS μ i .un).sl = μ.sl.set i .un from rfl, List.getElem?_set_ne (Ne.symm hji)] at hj
      exact r.sep j i dj ds hji hj h (hs.trans e1.symm)
  have r2 := r1.freeze e2 e4 e3 n1
  have r3 := r2.same (i := i) (s := .val ds.dat) (fun _ => ⟨_, e1, rp⟩) (fun _ z => by cases z)
  have eq : setS (setS μ i .un) i (.val ds.dat) = setS μ i (.val ds.dat) := by
    unfold setS
    simp
  rw [eq] at r3
  exact r3
theorem Rel.ownVal (r : Rel K c B σ H μ) {i : Nat} {ds : List D} (h : μ.sl[i]? = some (.own ds)) :
    ∃ p vs, σ[i]? = some (some (.ref p)) ∧ H p = some (.lst vs) ∧ B p = none ∧ Ext B (upd B p (.lst vs)) ∧ Rp K c.st (upd B p (.lst vs)) (.ref p) (.list ds) ∧ Rel K c (upd B p (.lst vs)) σ H (setS μ i (.val (.list ds))) := by
  obtain ⟨p, ho, h1, h2, h3, h4, h5, h6⟩ := r.owVal h
  obtain ⟨p', vs, e1, e2, _⟩ := r.ownAt h
  rw [h1] at e1
  cases e1
  rw [h2] at e2
  cases e2
  exact ⟨p, vs, h1, h2, h3, h4, h5, h6⟩
end
end Mi
/-! Mi, second part: operands, expressions, tests. -/
namespace Mi
open PySem PySem.Spec PyProof.Rows L2

/-! ### what is wanted behind -/
def Post (K : PySem.W.Frag) (c : C) (B : Hp) (σ : St) (μ' : MS) (d : D) (Q : VK) : Prop := ∀ B' H' v, Ext B B' → Rel K c B' σ H' μ' → Rp K c.st B' v d → Q v H'
section
variable {K : PySem.W.Frag} {c : C} {B B1 H : Hp} {σ : St} {μ : MS} {d : D} {Q : VK}
theorem Post.go {v : V} (k : Post K c B σ μ d Q) (r : Rel K c B σ H μ) (h : Rp K c.st B v d) : Q v H := k B H v (Ext.refl _) r h
theorem Post.ext (k : Post K c B σ μ d Q) (e : Ext B B1) : Post K c B1 σ μ d Q := fun B' H' v a => k B' H' v (e.trans a)
theorem Post.tup {vs : List V} {ds : List D} (k : Post K c B σ μ (.tuple ds) Q) (r : Rel K c B σ H μ) (h : RpA K c.st B vs ds) {p : Addr} (hp : H p = none) : Q (.ref p) (upd H p (.tup vs)) := by
  have e : Ext B (upd B p (.tup vs)) := Ext.new (r.r0.fresh hp).2
  exact k _ _ _ e (r.know hp) (.tup (.inl upd_same) (h.mono e))
theorem Post.lst {vs : List V} {ds : List D} (k : Post K c B σ μ (.list ds) Q) (r : Rel K c B σ H μ) (h : RpA K c.st B vs ds) {p : Addr} (hp : H p = none) : Q (.ref p) (upd H p (.lst vs)) := by
  have e : Ext B (upd B p (.lst vs)) := Ext.new (r.r0.fresh hp).2
  exact k _ _ _ e (r.know hp) (.lst upd_same (h.mono e))
end

/-! ### a look at a value: known, or a list of ours as it stands -/
def Lk (K : PySem.W.Frag) (st : Option (Addr × Addr)) (B H : Hp) (v : V) (d : D) : Prop := Rp K st B v d ∨ (∃ p vs ds, v = .ref p ∧ d = .list ds ∧ H p = some (.lst vs) ∧ RpA K st B vs ds) ∨ ∃ p h tk ks, v = .ref p ∧ d = .dict ((.bool tk, .none) :: ks) ∧ H p = some h ∧ ObR K st B h (.d tk ks)
section
variable {K : PySem.W.Frag} {st : Option (Addr × Addr)} {B H : Hp} {x : V}
theorem Lk.int {i : Int} (h : Lk K st B H x (.int i)) : x = .int i := by
  rcases h with h | ⟨_, _, _, _, e, _⟩ | ⟨_, _, _, _, _, e, _⟩
  · cases h; rfl
  · cases e
  · cases e
theorem Lk.str {i : Str} (h : Lk K st B H x (.str i)) : x = .str i := by
  rcases h with h | ⟨_, _, _, _, e, _⟩ | ⟨_, _, _, _, _, e, _⟩
  · cases h; rfl
  · cases e
  · cases e
theorem Lk.bool {i : Bool} (h : Lk K st B H x (.bool i)) : x = .bl i := by
  rcases h with h | ⟨_, _, _, _, e, _⟩ | ⟨_, _, _, _, _, e, _⟩
  · cases h; rfl
  · cases e
  · cases e
theorem Lk.none (h : Lk K st B H x .none) : x = .non := by
  rcases h with h | ⟨_, _, _, _, e, _⟩ | ⟨_, _, _, _, _, e, _⟩
  · cases h; rfl
  · cases e
  · cases e
theorem Lk.list {ds : List D} (h : Lk K st B H x (.list ds)) (e : Ext B H) : ∃ p vs, x = .ref p ∧ H p = some (.lst vs) ∧ RpA K st B vs ds := by
  rcases h with h | ⟨p, vs, ds', e1, e2, e3, e4⟩ | ⟨p, vs, ds', _, e1, e2, _⟩
  · cases h with
    | lst h1 h2 => exact ⟨_, _, rfl, e _ _ h1, h2⟩
  · cases e2; exact ⟨p, vs, e1, e3, e4⟩
  · cases e2
theorem Lk.dict {tk : Bool} {ks : List (D × D)} (h : Lk K st B H x (.dict ((.bool tk, .none) :: ks))) (e : Ext B H) : ∃ p ho, x = .ref p ∧ H p = some ho ∧ ObR K st B ho (.d tk ks) := by
  rcases h with h | ⟨p, vs, ds', e1, e2, e3, e4⟩ | ⟨p, ho, tk', ks', e1, e2, e3, e4⟩
  · cases h with
    | dct h1 h2 => exact ⟨_, _, rfl, e _ _ h1, h2⟩
    | dck h1 h2 => exact ⟨_, _, rfl, e _ _ h1, h2⟩
  · cases e2
  · cases e2; exact ⟨p, ho, e1, e3, e4⟩
theorem Lk.tuple {ds : List D} (h : Lk K st B H x (.tuple ds)) (e : Ext B H) : ∃ p vs, x = .ref p ∧ SqT K H p vs ∧ TupAt K B p vs ds ∧ RpA K st B vs ds := by
  rcases h with h | ⟨p, vs, ds', e1, e2, e3, e4⟩ | ⟨p, vs, ds', _, e1, e2, _⟩
  · cases h with
    | tup h1 h2 => exact ⟨_, _, rfl, e.sqt h1.sqt, h1, h2⟩
  · cases e2
  · cases e2
theorem Lk.dp {d : D} (h : Lk K st B H x d) (e : Ext B H) (cl : d.canLay0 = true) : Dp K H x d := by
  rcases h with h | ⟨p, vs, ds, rfl, rfl, e3, e4⟩ | ⟨p, h, tk, ks, rfl, rfl, _⟩
  · exact h.dp e d x cl
  · exact .lst (SqL.of e3) (RpA.dp e ds vs e4 (by simpa [PyData.canLay0] using cl))
  · simp [PyData.canLay0] at cl
theorem Lk.of {d : D} (h : Rp K st B x d) : Lk K st B H x d := .inl h
end

/-! ### operands: a value, or a name's slot (read when the operation is done) -/
inductive O where
  | v (d : D)
  | s (i : Nat)
def look : O → MS → Option D
  | .v d, _ => some d
  | .s i, μ => match μ.sl[i]? with
    | some (.val d) => some d
    | some (.ow o) => some o.dat
    | _ => none
def OR (K : PySem.W.Frag) (st : Option (Addr × Addr)) (B : Hp) (σ : St) (v : V) : O → Prop
  | .v d => Rp K st B v d
  | .s i => σ[i]? = some (some v)
inductive ORA (K : PySem.W.Frag) (st : Option (Addr × Addr)) (B : Hp) (σ : St) : List V → List O → Prop
  | nil : ORA K st B σ [] []
  | cons {v : V} {vs : List V} {o : O} {os : List O} : OR K st B σ v o → ORA K st B σ vs os → ORA K st B σ (v :: vs) (o :: os)
inductive LkA (K : PySem.W.Frag) (st : Option (Addr × Addr)) (B H : Hp) : List V → List D → Prop
  | nil : LkA K st B H [] []
  | cons {v : V} {vs : List V} {d : D} {ds : List D} : Lk K st B H v d → LkA K st B H vs ds → LkA K st B H (v :: vs) (d :: ds)
def looks : List O → MS → Option (List D)
  | [], _ => some []
  | o :: os, μ => (look o μ).bind fun d => (looks os μ).bind fun ds => some (d :: ds)
section
variable {K : PySem.W.Frag} {c : C} {B B' H : Hp} {σ : St} {μ : MS}
theorem OR.mono {st : Option (Addr × Addr)} {v : V} {o : O} (e : Ext B B') (h : OR K st B σ v o) : OR K st B' σ v o := by
  cases o with
  | v d => exact Rp.mono e d v h
  | s i => exact h
theorem ORA.mono {st : Option (Addr × Addr)} (e : Ext B B') : ∀ {vs : List V} {os : List O}, ORA K st B σ vs os → ORA K st B' σ vs os
  | _, _, .nil => .nil
  | _, _, .cons h t => .cons (h.mono e) (ORA.mono e t)
theorem look_ok (r : Rel K c B σ H μ) {v : V} {o : O} {d : D} (h : OR K c.st B σ v o) (e : look o μ = some d) : Lk K c.st B H v d := by
  cases o with
  | v d' => cases e; exact .inl h
  | s i =>
    have h' : σ[i]? = some (some v) := h
    simp only [look] at e
    split at e
    · rename_i d' hs
      cases e
      obtain ⟨v', e1, e2⟩ := r.valAt hs
      rw [h'] at e1; cases e1
      exact .inl e2
    · rename_i ds hs
      cases e
      obtain ⟨p, ho, e1, e2, e3, e4, e5⟩ := r.owAt hs
      rw [h'] at e1; cases e1
      cases ds with
      | l ds =>
        obtain ⟨vs, rfl, e6⟩ := e5.list
        exact .inr (.inl ⟨p, vs, ds, rfl, rfl, e2, e6⟩)
      | d tk ks => exact .inr (.inr ⟨p, ho, tk, ks, rfl, rfl, e2, e5⟩)
    · cases e
theorem looks_ok (r : Rel K c B σ H μ) : ∀ {vs : List V} {os : List O} {ds : List D}, ORA K c.st B σ vs os → looks os μ = some ds → LkA K c.st B H vs ds
  | _, _, _, .nil, e => by cases e; exact .nil
  | _, _, _, .cons (o := o) (os := os) h t, e => by
    unfold looks at e
    cases h1 : look o μ with
    | none => rw [h1] at e; cases e
    | some d =>
      cases h2 : looks os μ with
      | none => rw [h1, h2] at e; cases e
      | some ds =>
        rw [h1, h2] at e; cases e
        exact .cons (look_ok r h h1) (looks_ok r t h2)
end

/-! ### the judgements -/
def OkE (K : PySem.W.Frag) (t : TE) (m : M D) : Prop := ∀ (c : C) (B : Hp) (σ : St) (H : Hp) (μ : MS) (d : D) (μ' : MS) (Q : VK), Rel K c B σ H μ → m μ = some (d, μ') → Post K c B σ μ' d Q → t σ H Q
def OkO (K : PySem.W.Frag) (t : TE) (m : M O) : Prop := ∀ (c : C) (B : Hp) (σ : St) (H : Hp) (μ : MS) (o : O) (μ' : MS) (Q : VK), Rel K c B σ H μ → m μ = some (o, μ') →
  (∀ B' H' v, Ext B B' → Rel K c B' σ H' μ' → OR K c.st B' σ v o → Q v H') → t σ H Q
/-- a new list that nobody knows -/
def OkF (K : PySem.W.Frag) (t : TE) (m : M (List D)) : Prop := ∀ (c : C) (B : Hp) (σ : St) (H : Hp) (μ : MS) (ds : List D) (μ' : MS) (Q : VK), Rel K c B σ H μ → m μ = some (ds, μ') →
  (∀ B' H' p vs, Ext B B' → Rel K c B' σ H' μ' → H' p = some (.lst vs) → B' p = none → c.H0 p = none → NoOwn σ μ' p → RpA K c.st B' vs ds → Q (.ref p) H') → t σ H Q
def OkT (K : PySem.W.Frag) (t : TT) (m : M Bool) : Prop := ∀ (c : C) (B : Hp) (σ : St) (H : Hp) (μ : MS) (b : Bool) (μ' : MS) (Q : Bool → Hp → Prop), Rel K c B σ H μ → m μ = some (b, μ') →
  (∀ B' H', Ext B B' → Rel K c B' σ H' μ' → Q b H') → t σ H Q
def OkA (K : PySem.W.Frag) (t : TA) (m : M (List O)) : Prop := ∀ (c : C) (B : Hp) (σ : St) (H : Hp) (μ : MS) (os : List O) (μ' : MS) (Q : List V → Hp → Prop), Rel K c B σ H μ → m μ = some (os, μ') →
  (∀ B' H' vs, Ext B B' → Rel K c B' σ H' μ' → ORA K c.st B' σ vs os → Q vs H') → t σ H Q
structure DE (X : Cx) (e : Expr) (m : M D) : Prop where
  ex : ∃ t, PE X e t ∧ OkE X.K t m
structure DO (X : Cx) (e : Expr) (m : M O) : Prop where
  ex : ∃ t, PE X e t ∧ OkO X.K t m
structure DF (X : Cx) (e : Expr) (m : M (List D)) : Prop where
  ex : ∃ t, PE X e t ∧ OkF X.K t m
structure DT (X : Cx) (e : Expr) (m : M Bool) : Prop where
  ex : ∃ t, PT X e t ∧ OkT X.K t m
structure DW (X : Cx) (e : Expr) (m : M Bool) : Prop where
  ex : ∃ t, PW X e t ∧ OkT X.K t m
structure DA (X : Cx) (es : List Expr) (m : M (List O)) : Prop where
  ex : ∃ t, PA X es t ∧ OkA X.K t m

/-! ### from one judgement to another -/
def oName (i : Nat) : M O := fun μ => (look (.s i) μ).bind fun _ => some (.s i, μ)
def oVal (m : M D) : M O := fun μ => (m μ).bind fun p => some (.v p.1, p.2)
/-- a name's list is given away as a value -/
def frz (m : M O) : M D := fun μ => (m μ).bind fun p => match p.1 with
  | .v d => some (d, p.2)
  | .s i => match p.2.sl[i]? with
    | some (.val d) => some (d, p.2)
    | some (.ow o) => some (o.dat, setS p.2 i (.val o.dat))
    | _ => none
def mVar (i : Nat) : M D := frz (oName i)
def eNew (m : M (List D)) : M D := fun μ => (m μ).bind fun p => some (.list p.1, p.2)
def mC (d : D) : M D := fun μ => some (d, μ)
section
variable {X : Cx} {e : Expr}
theorem o_name (i : Nat) {x : Str} {pos : Pos} (hN : X.N[i]? = some x := by rfl) (hv : Vis X.env.scope x := by first | exact Or.inl rfl | exact Or.inr (Or.inl rfl) | exact Or.inr (Or.inr rfl)) (hd : (x == ("__debug__" : Str)) = false := by decide)
    (hcd : (x == ("__classdict__" : Str)) = false := by decide) : DO X (.Name x pos) (oName i) := by
  refine ⟨_, pv i hN hv hd hcd, fun c B σ H μ o μ' Q r hm k => ?_⟩
  unfold oName at hm
  cases hl : look (.s i) μ with
  | none => rw [hl] at hm; cases hm
  | some d =>
    rw [hl] at hm; cases hm
    have hv : ∃ v, σ[i]? = some (some v) := by
      simp only [look] at hl
      split at hl
      · rename_i hs
        obtain ⟨v', e1, e2⟩ := r.valAt hs
        exact ⟨v', e1⟩
      · rename_i hs
        obtain ⟨p, vs, e1, e2, e3, e4, e5⟩ := r.owAt hs
        exact ⟨_, e1⟩
      · cases hl
    obtain ⟨v, hv⟩ := hv
    exact ⟨v, hv, k B H v (Ext.refl _) r hv⟩
theorem o_of {m : M D} (h : DE X e m) : DO X e (oVal m) := by
  obtain ⟨t, ht, ok⟩ := h.ex
  refine ⟨t, ht, fun c B σ H μ o μ' Q r hm k => ?_⟩
  unfold oVal at hm
  cases h1 : m μ with
  | none => rw [h1] at hm; cases hm
  | some p =>
    rw [h1] at hm; cases hm
    exact ok c B σ H μ p.1 p.2 Q r h1 fun B' H' v e r' hr => k B' H' v e r' hr
theorem e_of {m : M O} (h : DO X e m) : DE X e (frz m) := by
  obtain ⟨t, ht, ok⟩ := h.ex
  refine ⟨t, ht, fun c B σ H μ d μ' Q r hm k => ?_⟩
  unfold frz at hm
  cases h1 : m μ with
  | none => rw [h1] at hm; cases hm
  | some p =>
    rw [h1] at hm
    obtain ⟨o, μ1⟩ := p
    simp only [Option.bind_some] at hm
    refine ok c B σ H μ o μ1 Q r h1 fun B' H' v e r' hr => ?_
    cases o with
    | v d' => cases hm; exact k B' H' v e r' hr
    | s i =>
      simp only at hm
      split at hm
      · rename_i hs
        cases hm
        obtain ⟨v', e1, e2⟩ := r'.valAt hs
        have : σ[i]? = some (some v) := hr
        rw [this] at e1; cases e1
        exact k B' H' v e r' e2
      · rename_i ds hs
        cases hm
        obtain ⟨p, vs, e1, e2, e3, e4, e5, e6⟩ := r'.owVal hs
        have : σ[i]? = some (some v) := hr
        rw [this] at e1; cases e1
        exact k _ H' _ (e.trans e4) e6 e5
      · cases hm
theorem e_new {m : M (List D)} (h : DF X e m) : DE X e (eNew m) := by
  obtain ⟨t, ht, ok⟩ := h.ex
  refine ⟨t, ht, fun c B σ H μ d μ' Q r hm k => ?_⟩
  unfold eNew at hm
  cases h1 : m μ with
  | none => rw [h1] at hm; cases hm
  | some p =>
    rw [h1] at hm; cases hm
    refine ok c B σ H μ p.1 p.2 Q r h1 fun B' H' a vs e r' h2 h3 h4 h5 h6 => ?_
    have e2 : Ext B' (upd B' a (.lst vs)) := Ext.new h3
    exact k _ H' _ (e.trans e2) (r'.freeze h2 h4 h3 h5) (.lst upd_same (h6.mono e2))
theorem e_c {v : V} {d : D} (h : PE X e (tC v)) (hr : ∀ K st B, Rp K st B v d) : DE X e (mC d) :=
  ⟨_, h, fun c B σ H μ d' μ' Q r hm k => by cases hm; exact k.go r (hr _ _ _)⟩
theorem e_int {i j pos} : DE X (.Constant (.int i) j pos) (mC (.int i)) := e_c pe_int fun _ _ _ => .int _
theorem e_bl {b j pos} : DE X (.Constant (.bool b) j pos) (mC (.bool b)) := e_c pe_bl fun _ _ _ => .bl _
theorem e_non {j pos} : DE X (.Constant .none j pos) (mC .none) := e_c pe_non fun _ _ _ => .non
theorem e_str {x j pos} : DE X (.Constant (.str x) j pos) (mC (.str x)) := e_c pe_str fun _ _ _ => .str _
/-- a module's constant -/
theorem e_glob {x : Str} {v : V} {d : D} {u : Value} {pos : Pos} (hg : Gl X x) (hm : X.mg x = some u) (r : RelV v u) (hr : ∀ st B, Rp X.K st B v d) (hd : (x == ("__debug__" : Str)) = false := by decide) : DE X (.Name x pos) (mC d) :=
  ⟨_, pe_glob hg hm r hd, fun c B σ H μ d' μ' Q r hm k => by cases hm; exact k.go r (hr _ _)⟩
end

/-! ### argument lists -/
def aNil : M (List O) := fun μ => some ([], μ)
def aCons (m : M O) (n : M (List O)) : M (List O) := fun μ => (m μ).bind fun p => (n p.2).bind fun q => some (p.1 :: q.1, q.2)
section
variable {X : Cx} {e : Expr} {es : List Expr}
theorem a_nil : DA X [] aNil := ⟨_, pa_nil, fun c B σ H μ os μ' Q r hm k => by cases hm; exact k B H [] (Ext.refl _) r .nil⟩
theorem a_cons {m : M O} {n : M (List O)} (h : DO X e m) (hr : DA X es n) (hs : starEach (e :: es) X.env = (false, eval e X.env) :: starEach es X.env := by rfl) : DA X (e :: es) (aCons m n) := by
  obtain ⟨t, ht, ok⟩ := h.ex
  obtain ⟨t2, ht2, ok2⟩ := hr.ex
  refine ⟨_, pa_cons ht ht2 hs, fun c B σ H μ os μ' Q r hm k => ?_⟩
  unfold aCons at hm
  cases h1 : m μ with
  | none => rw [h1] at hm; cases hm
  | some p =>
    rw [h1] at hm
    cases h2 : n p.2 with
    | none => simp only [Option.bind_some, h2] at hm; cases hm
    | some q =>
      simp only [Option.bind_some, h2] at hm; cases hm
      refine ok c B σ H μ p.1 p.2 _ r h1 fun B' H' v e r' hr => ?_
      refine ok2 c B' σ H' p.2 q.1 q.2 _ r' h2 fun B'' H'' vs e' r'' hrs => ?_
      exact k B'' H'' (v :: vs) (e.trans e') r'' (.cons (hr.mono e') hrs)
end

/-! ### operations of two, of one, calls -/
def Op2 (K : PySem.W.Frag) (r : R2) (g : D → D → Option D) : Prop := ∀ (c : C) (B : Hp) (σ : St) (H : Hp) (μ : MS) (x y : V) (d e z : D) (Q : VK), Rel K c B σ H μ → Lk K c.st B H x d → Lk K c.st B H y e → g d e = some z → Post K c B σ μ z Q → r x y H Q
def m2 (g : D → D → Option D) (ma mb : M O) : M D := fun μ => (ma μ).bind fun p => (mb p.2).bind fun q => (look p.1 q.2).bind fun d => (look q.1 q.2).bind fun e => (g d e).bind fun z => some (z, q.2)
theorem m2_some {g : D → D → Option D} {ma mb : M O} {μ μ' : MS} {z : D} (h : m2 g ma mb μ = some (z, μ')) : ∃ o1 μ1 o2 d e, ma μ = some (o1, μ1) ∧ mb μ1 = some (o2, μ') ∧ look o1 μ' = some d ∧ look o2 μ' = some e ∧ g d e = some z := by
  unfold m2 at h
  simp only [Option.bind_eq_some_iff] at h
  obtain ⟨p, h1, q, h2, d, h3, e, h4, z', h5, h6⟩ := h
  cases h6
  exact ⟨p.1, p.2, q.1, d, e, h1, h2, h3, h4, h5⟩
section
variable {X : Cx} {a b : Expr} {pos : Pos}
theorem ok_op2 {r : R2} {g : D → D → Option D} {ta tb : TE} {ma mb : M O} (hr : Op2 X.K r g) (ha : OkO X.K ta ma) (hb : OkO X.K tb mb) : OkE X.K (tOp r ta tb) (m2 g ma mb) := by
  intro c B σ H μ z μ' Q rel hm k
  obtain ⟨o1, μ1, o2, d, e, h1, h2, h3, h4, h5⟩ := m2_some hm
  refine ha c B σ H μ o1 μ1 _ rel h1 fun B1 H1 x e1 r1 x1 => ?_
  refine hb c B1 σ H1 μ1 o2 μ' _ r1 h2 fun B2 H2 y e2 r2 y2 => ?_
  exact hr c B2 σ H2 μ' x y d e z Q r2 (look_ok r2 (x1.mono e2) h3) (look_ok r2 y2 h4) h5 (k.ext (e1.trans e2))
theorem e_op {op : Operator} {r : R2} {g : D → D → Option D} {ma mb : M O} (ho : OpR X (binaryOp op) r) (hr : Op2 X.K r g) (ha : DO X a ma) (hb : DO X b mb) : DE X (.BinOp a op b pos) (m2 g ma mb) := by
  obtain ⟨ta, pa, oa⟩ := ha.ex
  obtain ⟨tb, pb, ob⟩ := hb.ex
  exact ⟨_, pe_op ho pa pb, ok_op2 hr oa ob⟩
theorem e_cmp {op : CmpOp} {r : R2} {g : D → D → Option D} {ma mb : M O} (ho : OpR X (compareOp op) r) (hr : Op2 X.K r g) (ha : DO X a ma) (hb : DO X b mb) (hm : behindInMarks op b = false) : DE X (.Compare a [op] [b] pos) (m2 g ma mb) := by
  obtain ⟨ta, pa, oa⟩ := ha.ex
  obtain ⟨tb, pb, ob⟩ := hb.ex
  exact ⟨_, pe_cmpR ho pa pb hm, ok_op2 hr oa ob⟩
/-- the bool of a value that is one -/
def mB (m : M D) : M Bool := fun μ => (m μ).bind fun p => match p.1 with
  | .bool b => some (b, p.2)
  | _ => none
theorem mB_some {m : M D} {μ μ' : MS} {b : Bool} (h : mB m μ = some (b, μ')) : m μ = some (.bool b, μ') := by
  unfold mB at h
  simp only [Option.bind_eq_some_iff] at h
  obtain ⟨p, h1, h2⟩ := h
  obtain ⟨d, μ1⟩ := p
  split at h2
  · rename_i b' hb
    cases h2
    have hb' : d = .bool b := hb
    rw [h1, hb']
  · cases h2
theorem ok_test {t : TE} {m : M D} (h : OkE X.K t m) : OkT X.K (tTest t) (mB m) := by
  intro c B σ H μ b μ' Q rel hm k
  exact h c B σ H μ _ μ' _ rel (mB_some hm) fun B' H' v e r hv => by
    cases hv
    exact ⟨b, rfl, k B' H' e r⟩
theorem t_cmp {op : CmpOp} {r : R2} {g : D → D → Option D} {ma mb : M O} (ho : OpR X (compareOp op) r) (hr : Op2 X.K r g) (ha : DO X a ma) (hb : DO X b mb) (hm : behindInMarks op b = false) : DT X (.Compare a [op] [b] pos) (mB (m2 g ma mb)) := by
  obtain ⟨ta, pa, oa⟩ := ha.ex
  obtain ⟨tb, pb, ob⟩ := hb.ex
  exact ⟨_, pt_cmpR ho pa pb hm, ok_test (ok_op2 hr oa ob)⟩
/-- a op b op' c -/
def mChain (g g' : D → D → Option D) (ma mb mc : M O) : M D := fun μ => (ma μ).bind fun p => (mb p.2).bind fun q => (look p.1 q.2).bind fun d => (look q.1 q.2).bind fun e => (g d e).bind fun z => match z with
  | .bool true => (mc q.2).bind fun w => (look q.1 w.2).bind fun e' => (look w.1 w.2).bind fun f => (g' e' f).bind fun z' => some (z', w.2)
  | .bool false => some (.bool false, q.2)
  | _ => none
theorem ok_chain {r r' : R2} {g g' : D → D → Option D} {ta tb tc : TE} {ma mb mc : M O} (hr : Op2 X.K r g) (hr' : Op2 X.K r' g') (ha : OkO X.K ta ma) (hb : OkO X.K tb mb) (hc : OkO X.K tc mc) : OkE X.K (tChain r r' ta tb tc) (mChain g g' ma mb mc) := by
  intro c B σ H μ z μ' Q rel hm k
  unfold mChain at hm
  simp only [Option.bind_eq_some_iff] at hm
  obtain ⟨⟨o1, μ1⟩, h1, ⟨o2, μ2⟩, h2, d, h3, e, h4, z1, h5, h6⟩ := hm
  simp only at h2 h3 h4 h6
  refine ha c B σ H μ o1 μ1 _ rel h1 fun B1 H1 x e1 r1 x1 => ?_
  refine hb c B1 σ H1 μ1 o2 μ2 _ r1 h2 fun B2 H2 y e2 r2 y2 => ?_
  refine hr c B2 σ H2 μ2 x y d e z1 _ r2 (look_ok r2 (x1.mono e2) h3) (look_ok r2 y2 h4) h5 fun B3 H3 v e3 r3 hv => ?_
  split at h6
  · cases hv
    simp only [Option.bind_eq_some_iff] at h6
    obtain ⟨⟨o3, μ3⟩, h7, e', h8, f, h9, z', h10, h11⟩ := h6
    cases h11
    refine ⟨true, rfl, ?_⟩
    rw [if_pos rfl]
    refine hc c B3 σ H3 μ2 o3 _ _ r3 h7 fun B4 H4 w e4 r4 w4 => ?_
    exact hr' c B4 σ H4 _ y w e' f z Q r4 (look_ok r4 ((y2.mono e3).mono e4) h8) (look_ok r4 w4 h9) h10 (k.ext (((e1.trans e2).trans e3).trans e4))
  · cases hv
    cases h6
    refine ⟨false, rfl, ?_⟩
    rw [if_neg Bool.false_ne_true]
    exact k B3 H3 _ ((e1.trans e2).trans e3) r3 (.bl false)
  · cases h6
theorem e_chain {c : Expr} {op op' : CmpOp} {r r' : R2} {g g' : D → D → Option D} {ma mb mc : M O} (ho : OpR X (compareOp op) r) (hr : Op2 X.K r g) (ho' : OpR X (compareOp op') r') (hr' : Op2 X.K r' g') (ha : DO X a ma) (hb : DO X b mb) (hc : DO X c mc)
    (hm : lastMarks [op, op'] [b, c] = false := by with_unfolding_all rfl) : DE X (.Compare a [op, op'] [b, c] pos) (mChain g g' ma mb mc) := by
  obtain ⟨ta, pa, oa⟩ := ha.ex
  obtain ⟨tb, pb, ob⟩ := hb.ex
  obtain ⟨tc, pc, oc⟩ := hc.ex
  exact ⟨_, pe_chain ho ho' pa pb pc hm, ok_chain hr hr' oa ob oc⟩
theorem t_chain {c : Expr} {op op' : CmpOp} {r r' : R2} {g g' : D → D → Option D} {ma mb mc : M O} (ho : OpR X (compareOp op) r) (hr : Op2 X.K r g) (ho' : OpR X (compareOp op') r') (hr' : Op2 X.K r' g') (ha : DO X a ma) (hb : DO X b mb) (hc : DO X c mc)
    (hm : lastMarks [op, op'] [b, c] = false := by with_unfolding_all rfl) : DT X (.Compare a [op, op'] [b, c] pos) (mB (mChain g g' ma mb mc)) := by
  obtain ⟨ta, pa, oa⟩ := ha.ex
  obtain ⟨tb, pb, ob⟩ := hb.ex
  obtain ⟨tc, pc, oc⟩ := hc.ex
  exact ⟨_, pt_chain ho ho' pa pb pc hm, ok_test (ok_chain hr hr' oa ob oc)⟩
/-- subscripts -/
theorem e_ix {r : R2} {g : D → D → Option D} {ma mb : M O} (ho : IxR X r) (hr : Op2 X.K r g) (ha : DO X a ma) (hb : DO X b mb) (hs : PlainIx b) : DE X (.Subscript a b pos) (m2 g ma mb) := by
  obtain ⟨ta, pa, oa⟩ := ha.ex
  obtain ⟨tb, pb, ob⟩ := hb.ex
  exact ⟨_, pe_ix ho pa pb hs, ok_op2 hr oa ob⟩
/-- one operand -/
def Op1 (K : PySem.W.Frag) (r : V → Hp → VK → Prop) (g : D → Option D) : Prop := ∀ (c : C) (B : Hp) (σ : St) (H : Hp) (μ : MS) (x : V) (d z : D) (Q : VK), Rel K c B σ H μ → Lk K c.st B H x d → g d = some z → Post K c B σ μ z Q → r x H Q
def m1 (g : D → Option D) (ma : M O) : M D := fun μ => (ma μ).bind fun p => (look p.1 p.2).bind fun d => (g d).bind fun z => some (z, p.2)
theorem e_un {op : UnaryOp} {r : V → Hp → VK → Prop} {g : D → Option D} {ma : M O} (ho : UnR X (unaryOp op) r) (hr : Op1 X.K r g) (ha : DO X a ma) : DE X (.UnaryOp op a pos) (m1 g ma) := by
  obtain ⟨ta, pa, oa⟩ := ha.ex
  refine ⟨_, pe_un ho pa, fun c B σ H μ z μ' Q rel hm k => ?_⟩
  unfold m1 at hm
  simp only [Option.bind_eq_some_iff] at hm
  obtain ⟨⟨o, μ1⟩, h1, d, h2, z', h3, h4⟩ := hm
  cases h4
  refine oa c B σ H μ o _ _ rel h1 fun B1 H1 x e1 r1 x1 => ?_
  exact hr c B1 σ H1 _ x d z Q r1 (look_ok r1 x1 h2) h3 (k.ext e1)
/-- calls of what is known, by values -/
def CallG (K : PySem.W.Frag) (r : List V → Hp → VK → Prop) (g : List D → Option D) : Prop := ∀ (c : C) (B : Hp) (σ : St) (H : Hp) (μ : MS) (xs : List V) (ds : List D) (z : D) (Q : VK), Rel K c B σ H μ → LkA K c.st B H xs ds → g ds = some z → Post K c B σ μ z Q → r xs H Q
def CallF (K : PySem.W.Frag) (r : List V → Hp → VK → Prop) (g : List D → Option (List D)) : Prop := ∀ (c : C) (B : Hp) (σ : St) (H : Hp) (μ : MS) (xs : List V) (ds : List D) (z : List D) (Q : VK), Rel K c B σ H μ → LkA K c.st B H xs ds → g ds = some z →
  (∀ p vs, H p = none → RpA K c.st B vs z → Q (.ref p) (upd H p (.lst vs))) → r xs H Q
def mCall {α : Type} (g : List D → Option α) (ma : M (List O)) : M α := fun μ => (ma μ).bind fun p => (looks p.1 p.2).bind fun ds => (g ds).bind fun z => some (z, p.2)
theorem mCall_some {α : Type} {g : List D → Option α} {ma : M (List O)} {μ μ' : MS} {z : α} (h : mCall g ma μ = some (z, μ')) : ∃ os ds, ma μ = some (os, μ') ∧ looks os μ' = some ds ∧ g ds = some z := by
  unfold mCall at h
  simp only [Option.bind_eq_some_iff] at h
  obtain ⟨⟨os, μ1⟩, h1, ds, h2, z', h3, h4⟩ := h
  cases h4
  exact ⟨os, ds, h1, h2, h3⟩
theorem ok_call {r : List V → Hp → VK → Prop} {g : List D → Option D} {t : TA} {m : M (List O)} (hr : CallG X.K r g) (h : OkA X.K t m) : OkE X.K (tCB r t) (mCall g m) := by
  intro c B σ H μ z μ' Q rel hm k
  obtain ⟨os, ds, h1, h2, h3⟩ := mCall_some hm
  refine h c B σ H μ os μ' _ rel h1 fun B1 H1 vs e1 r1 o1 => ?_
  exact hr c B1 σ H1 μ' vs ds z Q r1 (looks_ok r1 o1 h2) h3 (k.ext e1)
theorem ok_callF {r : List V → Hp → VK → Prop} {g : List D → Option (List D)} {t : TA} {m : M (List O)} (hr : CallF X.K r g) (h : OkA X.K t m) : OkF X.K (tCB r t) (mCall g m) := by
  intro c B σ H μ z μ' Q rel hm k
  obtain ⟨os, ds, h1, h2, h3⟩ := mCall_some hm
  refine h c B σ H μ os μ' _ rel h1 fun B1 H1 vs e1 r1 o1 => ?_
  refine hr c B1 σ H1 μ' vs ds z Q r1 (looks_ok r1 o1 h2) h3 fun p ws hp hw => ?_
  obtain ⟨f0, fb⟩ := r1.r0.fresh hp
  exact k B1 _ p ws e1 (r1.hide hp) upd_same fb f0 (r1.noOwn hp) hw
variable {x : Str} {p : Pos} {e : Expr} {es : List Expr} {id T : String}
theorem e_callB {r : List V → Hp → VK → Prop} {g : List D → Option D} {m : M (List O)} (hc : CallR X (.builtin id) r) (hr : CallG X.K r g) (hg : Gl X x) (hm : X.mg x = none) (hv : bootBuiltins x = some (.builtin id)) (ha : DA X (e :: es) m) (hn : x ≠ "__name__" := by decide) (hdb : (x == ("__debug__" : Str)) = false := by decide)
    (he : starEach (e :: es) X.env = (false, eval e X.env) :: starEach es X.env := by rfl) (hpl : (backTo pos (starEach es X.env)).any (·.1) = false := by rfl) : DE X (.Call (.Name x p) (e :: es) [] pos) (mCall g m) := by
  obtain ⟨t, ht, ok⟩ := ha.ex
  exact ⟨_, pe_callB hc hg hm hv ht hn hdb he hpl, ok_call hr ok⟩
theorem e_callTy {r : List V → Hp → VK → Prop} {g : List D → Option D} {m : M (List O)} (hc : CallR X (.type T) r) (hr : CallG X.K r g) (hg : Gl X x) (hm : X.mg x = none) (hv : bootBuiltins x = some (.type T)) (ha : DA X (e :: es) m) (hn : x ≠ "__name__" := by decide) (hdb : (x == ("__debug__" : Str)) = false := by decide)
    (he : starEach (e :: es) X.env = (false, eval e X.env) :: starEach es X.env := by rfl) (hpl : (backTo pos (starEach es X.env)).any (·.1) = false := by rfl) : DE X (.Call (.Name x p) (e :: es) [] pos) (mCall g m) := by
  obtain ⟨t, ht, ok⟩ := ha.ex
  exact ⟨_, pe_callTy hc hg hm hv ht hn hdb he hpl, ok_call hr ok⟩
theorem f_callTy {r : List V → Hp → VK → Prop} {g : List D → Option (List D)} {m : M (List O)} (hc : CallR X (.type T) r) (hr : CallF X.K r g) (hg : Gl X x) (hm : X.mg x = none) (hv : bootBuiltins x = some (.type T)) (ha : DA X (e :: es) m) (hn : x ≠ "__name__" := by decide) (hdb : (x == ("__debug__" : Str)) = false := by decide)
    (he : starEach (e :: es) X.env = (false, eval e X.env) :: starEach es X.env := by rfl) (hpl : (backTo pos (starEach es X.env)).any (·.1) = false := by rfl) : DF X (.Call (.Name x p) (e :: es) [] pos) (mCall g m) := by
  obtain ⟨t, ht, ok⟩ := ha.ex
  exact ⟨_, pe_callTy hc hg hm hv ht hn hdb he hpl, ok_callF hr ok⟩
theorem f_callB {r : List V → Hp → VK → Prop} {g : List D → Option (List D)} {m : M (List O)} (hc : CallR X (.builtin id) r) (hr : CallF X.K r g) (hg : Gl X x) (hm : X.mg x = none) (hv : bootBuiltins x = some (.builtin id)) (ha : DA X (e :: es) m) (hn : x ≠ "__name__" := by decide) (hdb : (x == ("__debug__" : Str)) = false := by decide)
    (he : starEach (e :: es) X.env = (false, eval e X.env) :: starEach es X.env := by rfl) (hpl : (backTo pos (starEach es X.env)).any (·.1) = false := by rfl) : DF X (.Call (.Name x p) (e :: es) [] pos) (mCall g m) := by
  obtain ⟨t, ht, ok⟩ := ha.ex
  exact ⟨_, pe_callB hc hg hm hv ht hn hdb he hpl, ok_callF hr ok⟩
end

/-! ### truth, and, or, not, if -/
def truth : D → Option Bool
  | .none => some false
  | .bool b => some b
  | .int i => some (i != 0)
  | .str x => if x.length ≤ 16777216 then some ((x.length : Int) != 0) else none
  | .list ds => some (!ds.isEmpty)
  | .tuple ds => some (!ds.isEmpty)
  | .dict _ => none
theorem isEmpty_rpa {K : PySem.W.Frag} {st : Option (Addr × Addr)} {B : Hp} {vs : List V} {ds : List D} (h : RpA K st B vs ds) : vs.isEmpty = ds.isEmpty := by
  cases h <;> rfl
theorem truth_ok {K : PySem.W.Frag} {st : Option (Addr × Addr)} {B H : Hp} {x : V} {d : D} {b : Bool} (h : Lk K st B H x d) (e : Ext B H) (ht : truth d = some b) : TruV K x H b := by
  cases d with
  | none => rw [h.none]; cases ht; rfl
  | bool b' => rw [h.bool]; cases ht; rfl
  | int i => rw [h.int]; cases ht; rfl
  | str s =>
    rw [h.str]
    simp only [truth] at ht
    split at ht
    · cases ht
      refine ⟨?_, rfl⟩
      rw [sizeLine_eq]; assumption
    · cases ht
  | list ds =>
    obtain ⟨p, vs, rfl, h1, h2⟩ := h.list e
    cases ht
    exact .inl ⟨vs, SqL.of h1, by rw [isEmpty_rpa h2]⟩
  | tuple ds =>
    obtain ⟨p, vs, rfl, h1, _, h2⟩ := h.tuple e
    cases ht
    exact .inr (.inl ⟨vs, h1, by rw [isEmpty_rpa h2]⟩)
  | dict _ => cases ht
def mTruth (ma : M O) : M Bool := fun μ => (ma μ).bind fun p => (look p.1 p.2).bind fun d => (truth d).bind fun b => some (b, p.2)
theorem mTruth_some {ma : M O} {μ μ' : MS} {b : Bool} (h : mTruth ma μ = some (b, μ')) : ∃ o d, ma μ = some (o, μ') ∧ look o μ' = some d ∧ truth d = some b := by
  unfold mTruth at h
  simp only [Option.bind_eq_some_iff] at h
  obtain ⟨⟨o, μ1⟩, h1, d, h2, b', h3, h4⟩ := h
  cases h4
  exact ⟨o, d, h1, h2, h3⟩
def bAnd (m n : M Bool) : M Bool := fun μ => (m μ).bind fun p => if p.1 = true then n p.2 else some (false, p.2)
def bOr (m n : M Bool) : M Bool := fun μ => (m μ).bind fun p => if p.1 = true then some (true, p.2) else n p.2
def bNot (m : M Bool) : M Bool := fun μ => (m μ).bind fun p => some (!p.1, p.2)
def eIf (m : M Bool) (n k : M D) : M D := fun μ => (m μ).bind fun p => if p.1 = true then n p.2 else k p.2
def eAnd (m n : M D) : M D := fun μ => (m μ).bind fun p => (truth p.1).bind fun b => if b = true then n p.2 else some (p.1, p.2)
def eOr (m n : M D) : M D := fun μ => (m μ).bind fun p => (truth p.1).bind fun b => if b = true then some (p.1, p.2) else n p.2
def eNot (ma : M O) : M D := fun μ => (mTruth ma μ).bind fun p => some (.bool (!p.1), p.2)
section
variable {X : Cx} {a b c : Expr} {rest : List Expr} {pos : Pos}
theorem t_of {m : M O} (h : DO X a m) (he : ∀ whole, isTrue a X.env whole = (do let v ← whole; standAt a.pos; holding [v] (truthy v)) := by intro _; rfl) : DT X a (mTruth m) := by
  obtain ⟨t, ht, ok⟩ := h.ex
  refine ⟨_, pt_truth ht he, fun c B σ H μ b μ' Q rel hm k => ?_⟩
  obtain ⟨o, d, h1, h2, h3⟩ := mTruth_some hm
  refine ok c B σ H μ o μ' _ rel h1 fun B1 H1 x e1 r1 x1 => ?_
  exact ⟨b, truth_ok (look_ok r1 x1 h2) r1.r0.ext h3, k B1 H1 e1 r1⟩
theorem t_w {m : M Bool} (h : DW X a m) : DT X a m := by
  obtain ⟨t, ht, ok⟩ := h.ex
  exact ⟨t, ht.pt, ok⟩
theorem w_and1 {m : M Bool} (h : DT X a m) : DW X (.BoolOp .And [a] pos) m := by
  obtain ⟨t, ht, ok⟩ := h.ex
  exact ⟨t, pw_and1 ht, ok⟩
theorem w_or1 {m : M Bool} (h : DT X a m) : DW X (.BoolOp .Or [a] pos) m := by
  obtain ⟨t, ht, ok⟩ := h.ex
  exact ⟨t, pw_or1 ht, ok⟩
theorem w_and {m n : M Bool} (h : DT X a m) (h2 : DW X (.BoolOp .And (b :: rest) pos) n) : DW X (.BoolOp .And (a :: b :: rest) pos) (bAnd m n) := by
  obtain ⟨t, ht, ok⟩ := h.ex
  obtain ⟨t2, ht2, ok2⟩ := h2.ex
  refine ⟨_, pw_and ht ht2, fun c B σ H μ b μ' Q rel hm k => ?_⟩
  unfold bAnd at hm
  simp only [Option.bind_eq_some_iff] at hm
  obtain ⟨⟨b1, μ1⟩, h1, h3⟩ := hm
  refine ok c B σ H μ b1 μ1 _ rel h1 fun B1 H1 e1 r1 => ?_
  cases b1 with
  | true =>
    rw [if_pos rfl] at h3 ⊢
    exact ok2 c B1 σ H1 μ1 b μ' Q r1 h3 fun B2 H2 e2 r2 => k B2 H2 (e1.trans e2) r2
  | false =>
    rw [if_neg Bool.false_ne_true] at h3 ⊢
    cases h3
    exact k B1 H1 e1 r1
theorem w_or {m n : M Bool} (h : DT X a m) (h2 : DW X (.BoolOp .Or (b :: rest) pos) n) : DW X (.BoolOp .Or (a :: b :: rest) pos) (bOr m n) := by
  obtain ⟨t, ht, ok⟩ := h.ex
  obtain ⟨t2, ht2, ok2⟩ := h2.ex
  refine ⟨_, pw_or ht ht2, fun c B σ H μ b μ' Q rel hm k => ?_⟩
  unfold bOr at hm
  simp only [Option.bind_eq_some_iff] at hm
  obtain ⟨⟨b1, μ1⟩, h1, h3⟩ := hm
  refine ok c B σ H μ b1 μ1 _ rel h1 fun B1 H1 e1 r1 => ?_
  cases b1 with
  | true =>
    rw [if_pos rfl] at h3 ⊢
    cases h3
    exact k B1 H1 e1 r1
  | false =>
    rw [if_neg Bool.false_ne_true] at h3 ⊢
    exact ok2 c B1 σ H1 μ1 b μ' Q r1 h3 fun B2 H2 e2 r2 => k B2 H2 (e1.trans e2) r2
theorem t_not {m : M Bool} (h : DT X a m) : DT X (.UnaryOp .Not a pos) (bNot m) := by
  obtain ⟨t, ht, ok⟩ := h.ex
  refine ⟨_, pt_not ht, fun c B σ H μ b μ' Q rel hm k => ?_⟩
  unfold bNot at hm
  simp only [Option.bind_eq_some_iff] at hm
  obtain ⟨⟨b1, μ1⟩, h1, h3⟩ := hm
  cases h3
  exact ok c B σ H μ b1 μ1 _ rel h1 fun B1 H1 e1 r1 => k B1 H1 e1 r1
theorem e_if {m : M Bool} {n k : M D} (h : DT X c m) (ha : DE X a n) (hb : DE X b k) : DE X (.IfExp c a b pos) (eIf m n k) := by
  obtain ⟨t, ht, ok⟩ := h.ex
  obtain ⟨ta, pa, oa⟩ := ha.ex
  obtain ⟨tb, pb, ob⟩ := hb.ex
  refine ⟨_, pe_ifExp ht pa pb, fun c B σ H μ d μ' Q rel hm kk => ?_⟩
  unfold eIf at hm
  simp only [Option.bind_eq_some_iff] at hm
  obtain ⟨⟨b1, μ1⟩, h1, h3⟩ := hm
  refine ok c B σ H μ b1 μ1 _ rel h1 fun B1 H1 e1 r1 => ?_
  cases b1 with
  | true =>
    rw [if_pos rfl] at h3 ⊢
    exact oa c B1 σ H1 μ1 d μ' Q r1 h3 (kk.ext e1)
  | false =>
    rw [if_neg Bool.false_ne_true] at h3 ⊢
    exact ob c B1 σ H1 μ1 d μ' Q r1 h3 (kk.ext e1)
theorem e_one {op} {m : M D} (h : DE X a m) : DE X (.BoolOp op [a] pos) m := by
  obtain ⟨t, ht, ok⟩ := h.ex
  exact ⟨t, pe_one ht, ok⟩
theorem e_and {m n : M D} (h : DE X a m) (h2 : DE X (.BoolOp .And (b :: rest) pos) n) : DE X (.BoolOp .And (a :: b :: rest) pos) (eAnd m n) := by
  obtain ⟨t, ht, ok⟩ := h.ex
  obtain ⟨t2, ht2, ok2⟩ := h2.ex
  refine ⟨_, pe_andT ht ht2, fun c B σ H μ d μ' Q rel hm k => ?_⟩
  unfold eAnd at hm
  simp only [Option.bind_eq_some_iff] at hm
  obtain ⟨⟨d1, μ1⟩, h1, b1, h3, h4⟩ := hm
  refine ok c B σ H μ d1 μ1 _ rel h1 fun B1 H1 x e1 r1 x1 => ⟨b1, truth_ok (.of x1) r1.r0.ext h3, ?_⟩
  cases b1 with
  | true =>
    rw [if_pos rfl] at h4 ⊢
    exact ok2 c B1 σ H1 μ1 d μ' Q r1 h4 (k.ext e1)
  | false =>
    rw [if_neg Bool.false_ne_true] at h4 ⊢
    cases h4
    exact k B1 H1 x e1 r1 x1
theorem e_or {m n : M D} (h : DE X a m) (h2 : DE X (.BoolOp .Or (b :: rest) pos) n) : DE X (.BoolOp .Or (a :: b :: rest) pos) (eOr m n) := by
  obtain ⟨t, ht, ok⟩ := h.ex
  obtain ⟨t2, ht2, ok2⟩ := h2.ex
  refine ⟨_, pe_orT ht ht2, fun c B σ H μ d μ' Q rel hm k => ?_⟩
  unfold eOr at hm
  simp only [Option.bind_eq_some_iff] at hm
  obtain ⟨⟨d1, μ1⟩, h1, b1, h3, h4⟩ := hm
  refine ok c B σ H μ d1 μ1 _ rel h1 fun B1 H1 x e1 r1 x1 => ⟨b1, truth_ok (.of x1) r1.r0.ext h3, ?_⟩
  cases b1 with
  | true =>
    rw [if_pos rfl] at h4 ⊢
    cases h4
    exact k B1 H1 x e1 r1 x1
  | false =>
    rw [if_neg Bool.false_ne_true] at h4 ⊢
    exact ok2 c B1 σ H1 μ1 d μ' Q r1 h4 (k.ext e1)
theorem e_not {m : M O} (h : DO X a m) : DE X (.UnaryOp .Not a pos) (eNot m) := by
  obtain ⟨t, ht, ok⟩ := h.ex
  refine ⟨_, pe_notT ht, fun c B σ H μ d μ' Q rel hm k => ?_⟩
  unfold eNot at hm
  simp only [Option.bind_eq_some_iff] at hm
  obtain ⟨⟨b1, μ1⟩, h1, h3⟩ := hm
  cases h3
  obtain ⟨o, d1, h4, h5, h6⟩ := mTruth_some h1
  refine ok c B σ H μ o _ _ rel h4 fun B1 H1 x e1 r1 x1 => ?_
  exact ⟨b1, truth_ok (look_ok r1 x1 h5) r1.r0.ext h6, k B1 H1 _ e1 r1 (.bl _)⟩
end

/-! ### displays -/
def mTup (m : M (List D)) : M D := fun μ => (m μ).bind fun p => if p.1.length ≤ 16777216 then some (.tuple p.1, p.2) else none
def mDs : List (M D) → M (List D)
  | [] => fun μ => some ([], μ)
  | m :: ms => fun μ => (m μ).bind fun p => (mDs ms p.2).bind fun q => some (p.1 :: q.1, q.2)
/-- arguments as values -/
def OkV (K : PySem.W.Frag) (t : TA) (m : M (List D)) : Prop := ∀ (c : C) (B : Hp) (σ : St) (H : Hp) (μ : MS) (ds : List D) (μ' : MS) (Q : List V → Hp → Prop), Rel K c B σ H μ → m μ = some (ds, μ') →
  (∀ B' H' vs, Ext B B' → Rel K c B' σ H' μ' → RpA K c.st B' vs ds → Q vs H') → t σ H Q
structure DV (X : Cx) (es : List Expr) (m : M (List D)) : Prop where
  ex : ∃ t, PA X es t ∧ OkV X.K t m
section
variable {X : Cx} {e : Expr} {es : List Expr} {pos : Pos}
theorem v_nil : DV X [] (mDs []) := ⟨_, pa_nil, fun c B σ H μ os μ' Q r hm k => by cases hm; exact k B H [] (Ext.refl _) r .nil⟩
theorem v_cons {m : M D} {ms : List (M D)} (h : DE X e m) (hr : DV X es (mDs ms)) (hs : starEach (e :: es) X.env = (false, eval e X.env) :: starEach es X.env := by rfl) : DV X (e :: es) (mDs (m :: ms)) := by
  obtain ⟨t, ht, ok⟩ := h.ex
  obtain ⟨t2, ht2, ok2⟩ := hr.ex
  refine ⟨_, pa_cons ht ht2 hs, fun c B σ H μ os μ' Q r hm k => ?_⟩
  unfold mDs at hm
  simp only [Option.bind_eq_some_iff] at hm
  obtain ⟨⟨d, μ1⟩, h1, ⟨ds, μ2⟩, h2, h3⟩ := hm
  cases h3
  refine ok c B σ H μ d μ1 _ r h1 fun B' H' v e r' hr => ?_
  refine ok2 c B' σ H' μ1 ds _ _ r' h2 fun B'' H'' vs e' r'' hrs => ?_
  exact k B'' H'' (v :: vs) (e.trans e') r'' (.cons (hr.mono e') hrs)
theorem e_tup {x1} {m : M (List D)} (h : DV X es m) : DE X (.Tuple es x1 pos) (mTup m) := by
  obtain ⟨t, ht, ok⟩ := h.ex
  refine ⟨_, pe_tup ht, fun c B σ H μ d μ' Q rel hm k => ?_⟩
  unfold mTup at hm
  simp only [Option.bind_eq_some_iff] at hm
  obtain ⟨⟨ds, μ1⟩, h1, h3⟩ := hm
  split at h3
  · rename_i hl
    cases h3
    refine ok c B σ H μ ds _ _ rel h1 fun B1 H1 vs e1 r1 x1 => ⟨by rw [x1.length, sizeLine_eq]; exact hl, fun p hp => ?_⟩
    exact (k.ext e1).tup r1 x1 hp
  · cases h3
def mLst (m : M (List D)) : M (List D) := fun μ => (m μ).bind fun p => if p.1.length ≤ 16777216 then some (p.1, p.2) else none
theorem f_lst {m : M (List D)} (h : DV X es m) : DF X (.List es pos) (mLst m) := by
  obtain ⟨t, ht, ok⟩ := h.ex
  refine ⟨_, pe_lst ht, fun c B σ H μ d μ' Q rel hm k => ?_⟩
  unfold mLst at hm
  simp only [Option.bind_eq_some_iff] at hm
  obtain ⟨⟨ds, μ1⟩, h1, h3⟩ := hm
  split at h3
  · rename_i hl
    cases h3
    refine ok c B σ H μ _ _ _ rel h1 fun B1 H1 vs e1 r1 x1 => ⟨by rw [x1.length, sizeLine_eq]; exact hl, fun p hp => ?_⟩
    obtain ⟨f0, fb⟩ := r1.r0.fresh hp
    exact k B1 _ p vs e1 (r1.hide hp) upd_same fb f0 (r1.noOwn hp) x1
  · cases h3
end
end Mi
/-! Mi, third part: the operations on plain data and their rules. -/
namespace Mi
open PySem PySem.Spec PyProof.Rows L2

abbrev lineN : Nat := 16777216
/-! ### arithmetic -/
def addD : D → D → Option D
  | .int a, .int b => some (.int (a + b))
  | .int a, .bool b => some (.int (a + b2i b))
  | .str a, .str b => if a.length + b.length ≤ lineN then some (.str (a ++ b)) else none
  | .tuple a, .tuple b => if a.length + b.length ≤ lineN then some (.tuple (a ++ b)) else none
  | .list a, .list b => if a.length + b.length ≤ lineN then some (.list (a ++ b)) else none
  | _, _ => none
def catF : D → D → Option (List D)
  | .list a, .list b => if a.length + b.length ≤ lineN then some (a ++ b) else none
  | _, _ => none
def subD : D → D → Option D
  | .int a, .int b => some (.int (a - b))
  | _, _ => none
def mulD : D → D → Option D
  | .int a, .int b => if (Builtin.Int.intBits a : Int) + (Builtin.Int.intBits b : Int) ≤ 134217728 then some (.int (a * b)) else none
  | _, _ => none
def fdivD : D → D → Option D
  | .int a, .int b => if 0 < b ∧ b.natAbs.log2 < 9000 then some (.int (a / b)) else none
  | _, _ => none
def modD : D → D → Option D
  | .int a, .int b => if 0 < b then some (.int (a % b)) else none
  | _, _ => none
def powD : D → D → Option D
  | .int a, .int b => if 0 ≤ b ∧ b ≤ 1000000 ∧ a.natAbs < 2 ^ 64 then some (.int (a ^ b.toNat)) else none
  | _, _ => none
def shlD : D → D → Option D
  | .int a, .int b => if 0 ≤ b ∧ (Builtin.Int.intBits a : Int) + b ≤ 134217728 then some (.int (a * 2 ^ b.toNat)) else none
  | _, _ => none
def shrD : D → D → Option D
  | .int a, .int b => if 0 ≤ b then some (.int (a / 2 ^ b.toNat)) else none
  | _, _ => none
def negD : D → Option D
  | .int a => some (.int (-a))
  | _ => none
section
variable {X : Cx}
abbrev rAdd (K : PySem.W.Frag) : R2 := fun x y H Q => (rI0 fun i j => .int (i + j)) x y H Q ∨ (∃ i k, x = .int i ∧ y = .bl k ∧ Q (.int (i + b2i k)) H) ∨ (∃ i j, x = .str i ∧ y = .str j ∧ i.length + j.length ≤ sizeLine ∧ Q (.str (i ++ j)) H) ∨ rCatA K x y H Q ∨ rCat x y H Q
theorem op_addM : OpR X (binaryOp .Add) (rAdd X.K) := op_add.or (op_add_ib.or (op_add_str.or (op_catA.or op_cat)))
theorem g_add : Op2 X.K (rAdd X.K) addD := by
  intro c B σ H μ x y d e z Q r hx hy hz k
  unfold addD at hz
  split at hz
  · cases hz; exact .inl ⟨_, _, hx.int, hy.int, k.go r (.int _)⟩
  · cases hz
    refine .inr (.inl ⟨_, _, hx.int, hy.bool, ?_⟩)
    exact k.go r (.int _)
  · split at hz
    · rename_i hl
      cases hz
      exact .inr (.inr (.inl ⟨_, _, hx.str, hy.str, by rw [sizeLine_eq]; exact hl, k.go r (.str _)⟩))
    · cases hz
  · split at hz
    · rename_i hl
      cases hz
      obtain ⟨p, vs, rfl, h1, h1', h2⟩ := hx.tuple r.r0.ext
      obtain ⟨q, us, rfl, h3, h3', h4⟩ := hy.tuple r.r0.ext
      refine .inr (.inr (.inr (.inl ⟨p, q, vs, us, rfl, rfl, h1, h3, by rw [h2.length, h4.length, sizeLine_eq]; exact hl, fun e => ?_, fun _ e => ?_, fun _ _ a ha => ?_⟩)))
      · subst e; cases h2
        exact k.go r (.tup h3' h4)
      · subst e; cases h4
        rw [List.append_nil] at k
        exact k.go r (.tup h1' h2)
      · exact k.tup r (h2.append h4) ha
    · cases hz
  · split at hz
    · rename_i hl
      cases hz
      obtain ⟨p, vs, rfl, h1, h2⟩ := hx.list r.r0.ext
      obtain ⟨q, us, rfl, h3, h4⟩ := hy.list r.r0.ext
      exact .inr (.inr (.inr (.inr ⟨p, q, vs, us, rfl, rfl, h1, h3, by rw [h2.length, h4.length, sizeLine_eq]; exact hl, fun a ha => k.lst r (h2.append h4) ha⟩)))
    · cases hz
  · cases hz
theorem g_sub : Op2 X.K (rI0 fun i j => .int (i - j)) subD := by
  intro c B σ H μ x y d e z Q r hx hy hz k
  unfold subD at hz
  split at hz
  · cases hz; exact ⟨_, _, hx.int, hy.int, k.go r (.int _)⟩
  · cases hz
theorem g_mul : Op2 X.K (rI CMulX fun i j => .int (i * j)) mulD := by
  intro c B σ H μ x y d e z Q r hx hy hz k
  unfold mulD at hz
  split at hz
  · split at hz
    · rename_i hc
      cases hz; exact ⟨_, _, hx.int, hy.int, hc, k.go r (.int _)⟩
    · cases hz
  · cases hz
theorem g_fdiv : Op2 X.K (rI CDivW fun i j => .int (i / j)) fdivD := by
  intro c B σ H μ x y d e z Q r hx hy hz k
  unfold fdivD at hz
  split at hz
  · split at hz
    · rename_i hc
      cases hz; exact ⟨_, _, hx.int, hy.int, hc, k.go r (.int _)⟩
    · cases hz
  · cases hz
theorem g_mod : Op2 X.K (rI (fun _ j => 0 < j) fun i j => .int (i % j)) modD := by
  intro c B σ H μ x y d e z Q r hx hy hz k
  unfold modD at hz
  split at hz
  · split at hz
    · rename_i hc
      cases hz; exact ⟨_, _, hx.int, hy.int, hc, k.go r (.int _)⟩
    · cases hz
  · cases hz
theorem g_pow : Op2 X.K (rI CPow fun i j => .int (i ^ j.toNat)) powD := by
  intro c B σ H μ x y d e z Q r hx hy hz k
  unfold powD at hz
  split at hz
  · split at hz
    · rename_i hc
      cases hz; exact ⟨_, _, hx.int, hy.int, hc, k.go r (.int _)⟩
    · cases hz
  · cases hz
theorem g_shl : Op2 X.K (rI CShl fun i j => .int (i * 2 ^ j.toNat)) shlD := by
  intro c B σ H μ x y d e z Q r hx hy hz k
  unfold shlD at hz
  split at hz
  · split at hz
    · rename_i hc
      cases hz; exact ⟨_, _, hx.int, hy.int, hc, k.go r (.int _)⟩
    · cases hz
  · cases hz
theorem g_shr : Op2 X.K (rI (fun _ j => 0 ≤ j) fun i j => .int (i / 2 ^ j.toNat)) shrD := by
  intro c B σ H μ x y d e z Q r hx hy hz k
  unfold shrD at hz
  split at hz
  · split at hz
    · rename_i hc
      cases hz; exact ⟨_, _, hx.int, hy.int, hc, k.go r (.int _)⟩
    · cases hz
  · cases hz
theorem g_neg : Op1 X.K (rU fun i => .int (-i)) negD := by
  intro c B σ H μ x d z Q r hx hz k
  unfold negD at hz
  split at hz
  · cases hz; exact ⟨_, hx.int, k.go r (.int _)⟩
  · cases hz
variable {a b : Expr} {ma mb : M O} {pos : Pos}
theorem e_add (ha : DO X a ma) (hb : DO X b mb) : DE X (.BinOp a .Add b pos) (m2 addD ma mb) := e_op op_addM g_add ha hb
theorem e_sub (ha : DO X a ma) (hb : DO X b mb) : DE X (.BinOp a .Sub b pos) (m2 subD ma mb) := e_op op_sub g_sub ha hb
theorem e_mul (ha : DO X a ma) (hb : DO X b mb) : DE X (.BinOp a .Mult b pos) (m2 mulD ma mb) := e_op op_mulX g_mul ha hb
theorem e_fdiv (ha : DO X a ma) (hb : DO X b mb) : DE X (.BinOp a .FloorDiv b pos) (m2 fdivD ma mb) := e_op op_fdivW g_fdiv ha hb
theorem e_mod (ha : DO X a ma) (hb : DO X b mb) : DE X (.BinOp a .Mod b pos) (m2 modD ma mb) := e_op op_mod g_mod ha hb
theorem e_pow (ha : DO X a ma) (hb : DO X b mb) : DE X (.BinOp a .Pow b pos) (m2 powD ma mb) := e_op op_pow g_pow ha hb
theorem e_shl (ha : DO X a ma) (hb : DO X b mb) : DE X (.BinOp a .LShift b pos) (m2 shlD ma mb) := e_op op_shlW g_shl ha hb
theorem e_shr (ha : DO X a ma) (hb : DO X b mb) : DE X (.BinOp a .RShift b pos) (m2 shrD ma mb) := e_op op_shr g_shr ha hb
theorem e_neg (ha : DO X a ma) : DE X (.UnaryOp .USub a pos) (m1 negD ma) := e_un un_neg g_neg ha
/-- xs + ys of lists: a new one -/
def m2F (g : D → D → Option (List D)) (ma mb : M O) : M (List D) := fun μ => (ma μ).bind fun p => (mb p.2).bind fun q => (look p.1 q.2).bind fun d => (look q.1 q.2).bind fun e => (g d e).bind fun z => some (z, q.2)
theorem f_cat (ha : DO X a ma) (hb : DO X b mb) : DF X (.BinOp a .Add b pos) (m2F catF ma mb) := by
  obtain ⟨ta, pa, oa⟩ := ha.ex
  obtain ⟨tb, pb, ob⟩ := hb.ex
  refine ⟨_, pe_op op_cat pa pb, fun c B σ H μ z μ' Q rel hm k => ?_⟩
  unfold m2F at hm
  simp only [Option.bind_eq_some_iff] at hm
  obtain ⟨⟨o1, μ1⟩, h1, ⟨o2, μ2⟩, h2, d, h3, e, h4, z', h5, h6⟩ := hm
  cases h6
  refine oa c B σ H μ o1 μ1 _ rel h1 fun B1 H1 x e1 r1 x1 => ?_
  refine ob c B1 σ H1 μ1 o2 _ _ r1 h2 fun B2 H2 y e2 r2 y2 => ?_
  have hx := look_ok r2 (x1.mono e2) h3
  have hy := look_ok r2 y2 h4
  unfold catF at h5
  split at h5
  · split at h5
    · rename_i hl
      cases h5
      obtain ⟨p, vs, rfl, h7, h8⟩ := hx.list r2.r0.ext
      obtain ⟨q, us, rfl, h9, h10⟩ := hy.list r2.r0.ext
      refine ⟨p, q, vs, us, rfl, rfl, h7, h9, by rw [h8.length, h10.length, sizeLine_eq]; exact hl, fun a ha => ?_⟩
      obtain ⟨f0, fb⟩ := r2.r0.fresh ha
      exact k B2 _ a _ (e1.trans e2) (r2.hide ha) upd_same fb f0 (r2.noOwn ha) (h8.append h10)
    · cases h5
  · cases h5
end

/-! ### comparisons -/
def eqD (d e : D) : Option D := if (SeqAt.shaped d && SeqAt.shaped e) = true then some (.bool (PyData.eqv d e)) else none
def neD (d e : D) : Option D := if (SeqAt.shaped d && SeqAt.shaped e) = true then some (.bool (!PyData.eqv d e)) else none
def ltD : D → D → Option D
  | .int a, .int b => some (.bool (decide (a < b)))
  | .str a, .str b => some (.bool (decide (a.cps.toList < b.cps.toList)))
  | _, _ => none
def leD : D → D → Option D
  | .int a, .int b => some (.bool (decide (a ≤ b)))
  | .str a, .str b => some (.bool (!decide (b.cps.toList < a.cps.toList)))
  | _, _ => none
def gtD : D → D → Option D
  | .int a, .int b => some (.bool (decide (b < a)))
  | .str a, .str b => some (.bool (decide (b.cps.toList < a.cps.toList)))
  | _, _ => none
def geD : D → D → Option D
  | .int a, .int b => some (.bool (decide (b ≤ a)))
  | .str a, .str b => some (.bool (!decide (a.cps.toList < b.cps.toList)))
  | _, _ => none
def isNone : D → Bool
  | .none => true
  | _ => false
/-- x is None; True is True -/
def isD : D → D → Option D
  | d, .none => some (.bool (isNone d))
  | .bool a, .bool b => some (.bool (decide (a = b)))
  | _, _ => none
def isNotD : D → D → Option D
  | d, .none => some (.bool (!isNone d))
  | .bool a, .bool b => some (.bool (!decide (a = b)))
  | _, _ => none
def inD : D → D → Option D
  | .str a, .str b => some (.bool (!(Builtin.Str.occurrences b a 0 b.length 1).isEmpty))
  | d, .list ds => if (SeqAt.shaped d && SeqAt.shaped (.list ds)) = true then some (.bool (ds.any fun z => PyData.eqv z d)) else none
  | d, .tuple ds => if (flat d && ds.all flat) = true then some (.bool (ds.any fun z => PyData.eqv z d)) else none
  | _, _ => none
def notInD (d e : D) : Option D := (inD d e).bind fun z => match z with
  | .bool b => some (.bool (!b))
  | _ => none
theorem flat_V {K : PySem.W.Frag} {st : Option (Addr × Addr)} {B : Hp} {x : V} {d : D} (h : Rp K st B x d) (f : flat d = true) : flatV x = true := by
  cases h <;> first | rfl | cases f
theorem flat_eqV {K : PySem.W.Frag} {st : Option (Addr × Addr)} {B : Hp} {x y : V} {d e : D} (h : Rp K st B x d) (h' : Rp K st B y e) (f : flat d = true) (f' : flat e = true) : eqV y x = PyData.eqv e d := by
  cases h <;> first
    | (cases f; done)
    | (cases h' <;> first | (cases f'; done) | simp [eqV, PyData.eqv])
theorem flat_in {K : PySem.W.Frag} {st : Option (Addr × Addr)} {B : Hp} {x : V} {d : D} (h : Rp K st B x d) (f : flat d = true) : ∀ {vs : List V} {ds : List D}, RpA K st B vs ds → ds.all flat = true → vs.all flatV = true ∧ inV x vs = ds.any fun z => PyData.eqv z d
  | _, _, .nil, _ => ⟨rfl, rfl⟩
  | _, _, .cons (v := v) (d := e) r t, g => by
    rw [List.all_cons, Bool.and_eq_true] at g
    obtain ⟨h1, h2⟩ := flat_in h f t g.2
    refine ⟨by rw [List.all_cons, flat_V r g.1, h1]; rfl, ?_⟩
    unfold inV at h2 ⊢
    rw [List.any_cons, List.any_cons, h2, flat_eqV h r f g.1]
section
variable {X : Cx}
theorem g_eq : Op2 X.K (rEqD X.K) eqD := by
  intro c B σ H μ x y d e z Q r hx hy hz k
  unfold eqD at hz
  split at hz
  · rename_i hs
    rw [Bool.and_eq_true] at hs
    cases hz
    exact ⟨d, e, hx.dp r.r0.ext (SeqAt.canLay_of_shaped hs.1), hy.dp r.r0.ext (SeqAt.canLay_of_shaped hs.2), hs.1, hs.2, k.go r (.bl _)⟩
  · cases hz
theorem g_ne : Op2 X.K (rNeD X.K) neD := by
  intro c B σ H μ x y d e z Q r hx hy hz k
  unfold neD at hz
  split at hz
  · rename_i hs
    rw [Bool.and_eq_true] at hs
    cases hz
    exact ⟨d, e, hx.dp r.r0.ext (SeqAt.canLay_of_shaped hs.1), hy.dp r.r0.ext (SeqAt.canLay_of_shaped hs.2), hs.1, hs.2, k.go r (.bl _)⟩
  · cases hz
abbrev rOr (r r' : R2) : R2 := fun x y H Q => r x y H Q ∨ r' x y H Q
theorem g_lt : Op2 X.K (rOr (rI0 fun i j => .bl (decide (i < j))) (fun x y H Q => ∃ i j, x = .str i ∧ y = .str j ∧ Q (.bl (decide (i.cps.toList < j.cps.toList))) H)) ltD := by
  intro c B σ H μ x y d e z Q r hx hy hz k
  unfold ltD at hz
  split at hz
  · cases hz; exact .inl ⟨_, _, hx.int, hy.int, k.go r (.bl _)⟩
  · cases hz; exact .inr ⟨_, _, hx.str, hy.str, k.go r (.bl _)⟩
  · cases hz
theorem g_le : Op2 X.K (rOr (rI0 fun i j => .bl (decide (i ≤ j))) (fun x y H Q => ∃ i j, x = .str i ∧ y = .str j ∧ Q (.bl (!decide (j.cps.toList < i.cps.toList))) H)) leD := by
  intro c B σ H μ x y d e z Q r hx hy hz k
  unfold leD at hz
  split at hz
  · cases hz; exact .inl ⟨_, _, hx.int, hy.int, k.go r (.bl _)⟩
  · cases hz; exact .inr ⟨_, _, hx.str, hy.str, k.go r (.bl _)⟩
  · cases hz
theorem g_gt : Op2 X.K (rOr (rI0 fun i j => .bl (decide (j < i))) (fun x y H Q => ∃ i j, x = .str i ∧ y = .str j ∧ Q (.bl (decide (j.cps.toList < i.cps.toList))) H)) gtD := by
  intro c B σ H μ x y d e z Q r hx hy hz k
  unfold gtD at hz
  split at hz
  · cases hz; exact .inl ⟨_, _, hx.int, hy.int, k.go r (.bl _)⟩
  · cases hz; exact .inr ⟨_, _, hx.str, hy.str, k.go r (.bl _)⟩
  · cases hz
theorem g_ge : Op2 X.K (rOr (rI0 fun i j => .bl (decide (j ≤ i))) (fun x y H Q => ∃ i j, x = .str i ∧ y = .str j ∧ Q (.bl (!decide (i.cps.toList < j.cps.toList))) H)) geD := by
  intro c B σ H μ x y d e z Q r hx hy hz k
  unfold geD at hz
  split at hz
  · cases hz; exact .inl ⟨_, _, hx.int, hy.int, k.go r (.bl _)⟩
  · cases hz; exact .inr ⟨_, _, hx.str, hy.str, k.go r (.bl _)⟩
  · cases hz
theorem lk_none {K : PySem.W.Frag} {st : Option (Addr × Addr)} {B H : Hp} {x : V} {d : D} (h : Lk K st B H x d) : decide (x = .non) = isNone d := by
  rcases h with h | ⟨p, vs, ds, rfl, rfl, _⟩ | ⟨p, h, tk, ks, rfl, rfl, _⟩
  · cases h <;> simp [isNone]
  · simp [isNone]
  · simp [isNone]
theorem g_is : Op2 X.K (rOr (fun x y H Q => y = .non ∧ Q (.bl (decide (x = .non))) H) rIsB) isD := by
  intro c B σ H μ x y d e z Q r hx hy hz k
  unfold isD at hz
  split at hz
  · cases hz
    refine .inl ⟨hy.none, ?_⟩
    rw [lk_none hx]
    exact k.go r (.bl _)
  · cases hz; exact .inr ⟨_, _, hx.bool, hy.bool, k.go r (.bl _)⟩
  · cases hz
theorem g_isNot : Op2 X.K (rOr (fun x y H Q => y = .non ∧ Q (.bl (!decide (x = .non))) H) rNotB) isNotD := by
  intro c B σ H μ x y d e z Q r hx hy hz k
  unfold isNotD at hz
  split at hz
  · cases hz
    refine .inl ⟨hy.none, ?_⟩
    rw [lk_none hx]
    exact k.go r (.bl _)
  · cases hz; exact .inr ⟨_, _, hx.bool, hy.bool, k.go r (.bl _)⟩
  · cases hz
abbrev rInS : R2 := fun x y H Q => ∃ i j, x = .str i ∧ y = .str j ∧ Q (.bl (!(Builtin.Str.occurrences j i 0 j.length 1).isEmpty)) H
abbrev rNotInS : R2 := fun x y H Q => ∃ i j, x = .str i ∧ y = .str j ∧ Q (.bl (!(!(Builtin.Str.occurrences j i 0 j.length 1).isEmpty))) H
theorem lk_flat {K : PySem.W.Frag} {st : Option (Addr × Addr)} {B H : Hp} {x : V} {d : D} (h : Lk K st B H x d) (f : flat d = true) : Rp K st B x d := by
  rcases h with h | ⟨p, vs, ds, rfl, rfl, _⟩ | ⟨p, h, tk, ks, rfl, rfl, _⟩
  · exact h
  · cases f
  · cases f
theorem g_in : Op2 X.K (rOr rInS (rOr (rInD X.K) (rIn X.K false))) inD := by
  intro c B σ H μ x y d e z Q r hx hy hz k
  unfold inD at hz
  split at hz
  · cases hz; exact .inl ⟨_, _, hx.str, hy.str, k.go r (.bl _)⟩
  · split at hz
    · rename_i hs
      rw [Bool.and_eq_true] at hs
      cases hz
      exact .inr (.inl ⟨_, _, hx.dp r.r0.ext (SeqAt.canLay_of_shaped hs.1), hy.dp r.r0.ext (SeqAt.canLay_of_shaped hs.2), hs.1, hs.2, k.go r (.bl _)⟩)
    · cases hz
  · split at hz
    · rename_i hs
      rw [Bool.and_eq_true] at hs
      cases hz
      obtain ⟨p, vs, rfl, h1, h1', h2⟩ := hy.tuple r.r0.ext
      have hx' := lk_flat hx hs.1
      obtain ⟨h3, h4⟩ := flat_in hx' hs.1 h2 hs.2
      refine .inr (.inr ⟨p, vs, rfl, .inr h1, flat_V hx' hs.1, h3, ?_⟩)
      rw [if_neg Bool.false_ne_true, h4]
      exact k.go r (.bl _)
    · cases hz
  · cases hz
theorem g_notIn : Op2 X.K (rOr rNotInS (rOr (rNotInD X.K) (rIn X.K true))) notInD := by
  intro c B σ H μ x y d e z Q r hx hy hz k
  unfold notInD inD at hz
  split at hz
  · cases hz; exact .inl ⟨_, _, hx.str, hy.str, k.go r (.bl _)⟩
  · split at hz
    · rename_i hs
      rw [Bool.and_eq_true] at hs
      cases hz
      exact .inr (.inl ⟨_, _, hx.dp r.r0.ext (SeqAt.canLay_of_shaped hs.1), hy.dp r.r0.ext (SeqAt.canLay_of_shaped hs.2), hs.1, hs.2, k.go r (.bl _)⟩)
    · cases hz
  · split at hz
    · rename_i hs
      rw [Bool.and_eq_true] at hs
      cases hz
      obtain ⟨p, vs, rfl, h1, h1', h2⟩ := hy.tuple r.r0.ext
      have hx' := lk_flat hx hs.1
      obtain ⟨h3, h4⟩ := flat_in hx' hs.1 h2 hs.2
      refine .inr (.inr ⟨p, vs, rfl, .inr h1, flat_V hx' hs.1, h3, ?_⟩)
      rw [if_pos rfl, h4]
      exact k.go r (.bl _)
    · cases hz
  · cases hz
/-- a comparison's rule and mirror, by the operator -/
structure CmpR (X : Cx) (op : CmpOp) (g : D → D → Option D) : Prop where
  ex : ∃ r, OpR X (compareOp op) r ∧ Op2 X.K r g
theorem c_eq (hu : X.A.units + 64 < cLine) : CmpR X .Eq eqD := ⟨_, op_eqD hu, g_eq⟩
theorem c_ne (hu : X.A.units + 64 < cLine) : CmpR X .NotEq neD := ⟨_, op_neD hu, g_ne⟩
theorem c_lt : CmpR X .Lt ltD := ⟨_, OpR.or op_lt op_lt_str, g_lt⟩
theorem c_le : CmpR X .LtE leD := ⟨_, OpR.or op_le op_le_str, g_le⟩
theorem c_gt : CmpR X .Gt gtD := ⟨_, OpR.or op_gt op_gt_str, g_gt⟩
theorem c_ge : CmpR X .GtE geD := ⟨_, OpR.or op_ge op_ge_str, g_ge⟩
theorem c_is : CmpR X .Is isD := ⟨_, OpR.or op_isN op_isBl, g_is⟩
theorem c_isNot : CmpR X .IsNot isNotD := ⟨_, OpR.or op_notN op_notBl, g_isNot⟩
theorem c_in (hu : X.A.units + 65 < cLine) : CmpR X .In inD := ⟨_, OpR.or op_in_str (OpR.or (op_inD hu) op_in_seq), g_in⟩
theorem c_notIn (hu : X.A.units + 65 < cLine) : CmpR X .NotIn notInD := ⟨_, OpR.or op_notin_str (OpR.or (op_notInD hu) op_notIn_seq), g_notIn⟩
variable {a b c : Expr} {ma mb mc : M O} {pos : Pos} {op op' : CmpOp} {g g' : D → D → Option D}
theorem e_cm (h : CmpR X op g) (ha : DO X a ma) (hb : DO X b mb) (hm : behindInMarks op b = false := by first | exact nomark _ | rfl | with_unfolding_all rfl) : DE X (.Compare a [op] [b] pos) (m2 g ma mb) := by
  obtain ⟨r, h1, h2⟩ := h.ex
  exact e_cmp h1 h2 ha hb hm
theorem t_cm (h : CmpR X op g) (ha : DO X a ma) (hb : DO X b mb) (hm : behindInMarks op b = false := by first | exact nomark _ | rfl | with_unfolding_all rfl) : DT X (.Compare a [op] [b] pos) (mB (m2 g ma mb)) := by
  obtain ⟨r, h1, h2⟩ := h.ex
  exact t_cmp h1 h2 ha hb hm
theorem e_cm2 (h : CmpR X op g) (h' : CmpR X op' g') (ha : DO X a ma) (hb : DO X b mb) (hc : DO X c mc) (hm : lastMarks [op, op'] [b, c] = false := by with_unfolding_all rfl) : DE X (.Compare a [op, op'] [b, c] pos) (mChain g g' ma mb mc) := by
  obtain ⟨r, h1, h2⟩ := h.ex
  obtain ⟨r', h1', h2'⟩ := h'.ex
  exact e_chain h1 h2 h1' h2' ha hb hc hm
theorem t_cm2 (h : CmpR X op g) (h' : CmpR X op' g') (ha : DO X a ma) (hb : DO X b mb) (hc : DO X c mc) (hm : lastMarks [op, op'] [b, c] = false := by with_unfolding_all rfl) : DT X (.Compare a [op, op'] [b, c] pos) (mB (mChain g g' ma mb mc)) := by
  obtain ⟨r, h1, h2⟩ := h.ex
  obtain ⟨r', h1', h2'⟩ := h'.ex
  exact t_chain h1 h2 h1' h2' ha hb hc hm
end

/-! ### items, slices -/
def ixD : D → D → Option D
  | .list ds, .int i => atI ds i
  | .tuple ds, .int i => atI ds i
  | .str x, .int i => if x.length ≤ lineN then (atI x.cps.toList i).bind fun c => some (.str ⟨#[c]⟩) else none
  | _, _ => none
theorem atI_len {α β : Type} {xs : List α} {ys : List β} (h : xs.length = ys.length) (i : Int) : ixN xs.length i = ixN ys.length i := by rw [h]
theorem atI_rp {K : PySem.W.Frag} {st : Option (Addr × Addr)} {B : Hp} {vs : List V} {ds : List D} {i : Int} {d : D} (r : RpA K st B vs ds) (h : atI ds i = some d) : ∃ v, atI vs i = some v ∧ Rp K st B v d := by
  unfold atI at h ⊢
  rw [r.length]
  cases q : ixN ds.length i with
  | none => rw [q] at h; cases h
  | some j =>
    rw [q] at h
    exact r.get h
def slD : D → Option Int → Option Int → Option D
  | .tuple ds, lo, hi => some (.tuple ((ds.drop (HT.sIx ds.length 0 lo)).take (HT.sIx ds.length ds.length hi - HT.sIx ds.length 0 lo)))
  | .str x, lo, hi => if x.length ≤ lineN then some (.str (cutS x lo hi)) else none
  | _, _, _ => none
def slF : D → Option Int → Option Int → Option (List D)
  | .list ds, lo, hi => some ((ds.drop (HT.sIx ds.length 0 lo)).take (HT.sIx ds.length ds.length hi - HT.sIx ds.length 0 lo))
  | _, _, _ => none
theorem cut_rp {K : PySem.W.Frag} {st : Option (Addr × Addr)} {B : Hp} {vs : List V} {ds : List D} (r : RpA K st B vs ds) (lo hi : Option Int) :
    RpA K st B (cutV vs lo hi) ((ds.drop (HT.sIx ds.length 0 lo)).take (HT.sIx ds.length ds.length hi - HT.sIx ds.length 0 lo)) := by
  unfold cutV
  rw [r.length]
  exact (r.drop _).take _
def OkP (K : PySem.W.Frag) (t : TO) (m : M (Option Int)) : Prop := ∀ (c : C) (B : Hp) (σ : St) (H : Hp) (μ : MS) (o : Option Int) (μ' : MS) (Q : Option Int → Hp → Prop), Rel K c B σ H μ → m μ = some (o, μ') →
  (∀ B' H', Ext B B' → Rel K c B' σ H' μ' → Q o H') → t σ H Q
/-- a part of a slice -/
structure DP (X : Cx) (e : Option Expr) (m : M (Option Int)) : Prop where
  ex : ∃ t, PO X e t ∧ OkP X.K t m
def pNone : M (Option Int) := fun μ => some (none, μ)
def pSome (m : M D) : M (Option Int) := fun μ => (m μ).bind fun p => match p.1 with
  | .int i => some (some i, p.2)
  | _ => none
section
variable {X : Cx} {a b e : Expr} {ma mb : M O} {pos p2 : Pos} {lo hi : Option Expr} {ml mh : M (Option Int)}
theorem g_ix : Op2 X.K (rIx X.K) ixD := by
  intro c B σ H μ x y d e z Q r hx hy hz k
  unfold ixD at hz
  split at hz
  · obtain ⟨p, vs, rfl, h1, h2⟩ := hx.list r.r0.ext
    obtain ⟨v, h3, h4⟩ := atI_rp h2 hz
    exact .inl ⟨p, vs, _, v, rfl, hy.int, SqL.of h1, h3, k.go r h4⟩
  · obtain ⟨p, vs, rfl, h1, h1', h2⟩ := hx.tuple r.r0.ext
    obtain ⟨v, h3, h4⟩ := atI_rp h2 hz
    exact .inr (.inl ⟨p, vs, _, v, rfl, hy.int, h1, h3, k.go r h4⟩)
  · split at hz
    · rename_i hl
      simp only [Option.bind_eq_some_iff] at hz
      obtain ⟨c', h1, h2⟩ := hz
      cases h2
      exact .inr (.inr ⟨_, _, c', hx.str, hy.int, by rw [sizeLine_eq]; exact hl, h1, k.go r (.str _)⟩)
    · cases hz
  · cases hz
theorem e_at (ha : DO X a ma) (hb : DO X b mb) (hs : PlainIx b := by intro _ _; rfl) : DE X (.Subscript a b pos) (m2 ixD ma mb) := e_ix ix_seq g_ix ha hb hs
theorem p_none : DP X none pNone := ⟨_, po_none, fun c B σ H μ o μ' Q rel hm k => by cases hm; exact k B H (Ext.refl _) rel⟩
theorem p_some {m : M D} (h : DE X e m) : DP X (some e) (pSome m) := by
  obtain ⟨t, ht, ok⟩ := h.ex
  refine ⟨_, po_some ht, fun c B σ H μ o μ' Q rel hm k => ?_⟩
  unfold pSome at hm
  simp only [Option.bind_eq_some_iff] at hm
  obtain ⟨⟨d, μ1⟩, h1, h2⟩ := hm
  refine ok c B σ H μ d μ1 _ rel h1 fun B1 H1 x e1 r1 x1 => ?_
  split at h2
  · rename_i i hd
    cases h2
    have hd' : d = .int i := hd
    subst hd'
    cases x1
    exact ⟨i, rfl, k B1 H1 e1 r1⟩
  · cases h2
def mSl {α : Type} (g : D → Option Int → Option Int → Option α) (ma : M O) (ml mh : M (Option Int)) : M α := fun μ => (ma μ).bind fun p => (ml p.2).bind fun l => (mh l.2).bind fun h => (look p.1 h.2).bind fun d => (g d l.1 h.1).bind fun z => some (z, h.2)
theorem SlR.or {r r' : V → Option Int → Option Int → Hp → VK → Prop} (h : SlR X r) (h' : SlR X r') : SlR X (fun x lo hi H Q => r x lo hi H Q ∨ r' x lo hi H Q) := by
  intro pins s σ H x v vl vu lo hi sl Q I rx hs pl pu q
  rcases q with q | q
  · exact h pins s σ H x v vl vu lo hi sl Q I rx hs pl pu q
  · exact h' pins s σ H x v vl vu lo hi sl Q I rx hs pl pu q
theorem e_slice (ha : DO X a ma) (hl : DP X lo ml) (hh : DP X hi mh) : DE X (.Subscript a (.Slice lo hi none p2) pos) (mSl slD ma ml mh) := by
  obtain ⟨ta, pa, oa⟩ := ha.ex
  obtain ⟨tl, pl, ol⟩ := hl.ex
  obtain ⟨th, ph, oh⟩ := hh.ex
  refine ⟨_, pe_slice (SlR.or sl_tupA sl_str) pa pl ph, fun c B σ H μ z μ' Q rel hm k => ?_⟩
  unfold mSl at hm
  simp only [Option.bind_eq_some_iff] at hm
  obtain ⟨⟨o1, μ1⟩, h1, ⟨l, μ2⟩, h2, ⟨h, μ3⟩, h3, d, h4, z', h5, h6⟩ := hm
  cases h6
  refine oa c B σ H μ o1 μ1 _ rel h1 fun B1 H1 x e1 r1 x1 => ?_
  refine ol c B1 σ H1 μ1 l μ2 _ r1 h2 fun B2 H2 e2 r2 => ?_
  refine oh c B2 σ H2 μ2 h _ _ r2 h3 fun B3 H3 e3 r3 => ?_
  have hx := look_ok r3 ((x1.mono e2).mono e3) h4
  have k' := k.ext ((e1.trans e2).trans e3)
  unfold slD at h5
  split at h5
  · cases h5
    obtain ⟨p, vs, rfl, h7, h7', h8⟩ := hx.tuple r3.r0.ext
    refine .inl ⟨p, vs, rfl, h7, fun hw => ?_, fun hw q hq => ?_⟩
    · rw [h8.length] at hw
      rw [hw.1, hw.2, List.drop_zero, Nat.sub_zero, List.take_length] at k'
      exact k'.go r3 (.tup h7' h8)
    · exact k'.tup r3 (cut_rp h8 l h) hq
  · split at h5
    · rename_i hl
      cases h5
      exact .inr ⟨_, hx.str, by rw [sizeLine_eq]; exact hl, k'.go r3 (.str _)⟩
    · cases h5
  · cases h5
theorem f_slice (ha : DO X a ma) (hl : DP X lo ml) (hh : DP X hi mh) : DF X (.Subscript a (.Slice lo hi none p2) pos) (mSl slF ma ml mh) := by
  obtain ⟨ta, pa, oa⟩ := ha.ex
  obtain ⟨tl, pl, ol⟩ := hl.ex
  obtain ⟨th, ph, oh⟩ := hh.ex
  refine ⟨_, pe_slice sl_list pa pl ph, fun c B σ H μ z μ' Q rel hm k => ?_⟩
  unfold mSl at hm
  simp only [Option.bind_eq_some_iff] at hm
  obtain ⟨⟨o1, μ1⟩, h1, ⟨l, μ2⟩, h2, ⟨h, μ3⟩, h3, d, h4, z', h5, h6⟩ := hm
  cases h6
  refine oa c B σ H μ o1 μ1 _ rel h1 fun B1 H1 x e1 r1 x1 => ?_
  refine ol c B1 σ H1 μ1 l μ2 _ r1 h2 fun B2 H2 e2 r2 => ?_
  refine oh c B2 σ H2 μ2 h _ _ r2 h3 fun B3 H3 e3 r3 => ?_
  have hx := look_ok r3 ((x1.mono e2).mono e3) h4
  unfold slF at h5
  split at h5
  · cases h5
    obtain ⟨p, vs, rfl, h7, h8⟩ := hx.list r3.r0.ext
    refine ⟨p, vs, rfl, SqL.of h7, fun a ha => ?_⟩
    obtain ⟨f0, fb⟩ := r3.r0.fresh ha
    exact k B3 _ a _ ((e1.trans e2).trans e3) (r3.hide ha) upd_same fb f0 (r3.noOwn ha) (cut_rp h8 l h)
  · cases h5
/-- s of unknown kind: a list's slice is known at once -/
def slA : D → Option Int → Option Int → Option D
  | .list ds, lo, hi => (slF (.list ds) lo hi).bind fun z => some (.list z)
  | d, lo, hi => slD d lo hi
theorem e_sliceA (ha : DO X a ma) (hl : DP X lo ml) (hh : DP X hi mh) : DE X (.Subscript a (.Slice lo hi none p2) pos) (mSl slA ma ml mh) := by
  obtain ⟨ta, pa, oa⟩ := ha.ex
  obtain ⟨tl, pl, ol⟩ := hl.ex
  obtain ⟨th, ph, oh⟩ := hh.ex
  refine ⟨_, pe_slice (SlR.or sl_list (SlR.or sl_tupA sl_str)) pa pl ph, fun c B σ H μ z μ' Q rel hm k => ?_⟩
  unfold mSl at hm
  simp only [Option.bind_eq_some_iff] at hm
  obtain ⟨⟨o1, μ1⟩, h1, ⟨l, μ2⟩, h2, ⟨h, μ3⟩, h3, d, h4, z', h5, h6⟩ := hm
  cases h6
  refine oa c B σ H μ o1 μ1 _ rel h1 fun B1 H1 x e1 r1 x1 => ?_
  refine ol c B1 σ H1 μ1 l μ2 _ r1 h2 fun B2 H2 e2 r2 => ?_
  refine oh c B2 σ H2 μ2 h _ _ r2 h3 fun B3 H3 e3 r3 => ?_
  have hx := look_ok r3 ((x1.mono e2).mono e3) h4
  have k' := k.ext ((e1.trans e2).trans e3)
  unfold slA at h5
  split at h5
  · simp only [slF, Option.bind_some] at h5
    cases h5
    obtain ⟨p, vs, rfl, h7, h8⟩ := hx.list r3.r0.ext
    exact .inl ⟨p, vs, rfl, SqL.of h7, fun a ha => k'.lst r3 (cut_rp h8 l h) ha⟩
  · refine .inr ?_
    unfold slD at h5
    split at h5
    · cases h5
      obtain ⟨p, vs, rfl, h7, h7', h8⟩ := hx.tuple r3.r0.ext
      refine .inl ⟨p, vs, rfl, h7, fun hw => ?_, fun hw q hq => ?_⟩
      · rw [h8.length] at hw
        rw [hw.1, hw.2, List.drop_zero, Nat.sub_zero, List.take_length] at k'
        exact k'.go r3 (.tup h7' h8)
      · exact k'.tup r3 (cut_rp h8 l h) hq
    · split at h5
      · rename_i hl
        cases h5
        exact .inr ⟨_, hx.str, by rw [sizeLine_eq]; exact hl, k'.go r3 (.str _)⟩
      · cases h5
    · cases h5
end
end Mi
/-! Mi, fourth part: statements, loops, comprehensions, defs. -/
namespace Mi
open PySem PySem.Spec PyProof.Rows L2

/-! ### statements -/
inductive SR where
  | nx (μ : MS)
  | rt (d : D) (dr : Dr)
  | bk (μ : MS)
  | ct (μ : MS)
  | bad
abbrev MT := MS → SR
def After (K : PySem.W.Frag) (c : C) (B : Hp) (r : SR) (E : Ends) : Prop :=
  match r with
  | .nx μ => ∀ B' σ' H', Ext B B' → Rel K c B' σ' H' μ → E.nx σ' H'
  | .rt d dr => ∀ B' H' v, Ext B B' → Rel0 c B' H' dr → Rp K c.st B' v d → E.rt v H'
  | .bk μ => ∀ B' σ' H', Ext B B' → Rel K c B' σ' H' μ → E.bk σ' H'
  | .ct μ => ∀ B' σ' H', Ext B B' → Rel K c B' σ' H' μ → E.ct σ' H'
  | .bad => False
def OkS (K : PySem.W.Frag) (t : TS) (s : MT) : Prop := ∀ (c : C) (B : Hp) (σ : St) (H : Hp) (μ : MS) (E : Ends), Rel K c B σ H μ → After K c B (s μ) E → t E σ H
structure DS (X : Cx) (st : Stmt) (s : MT) : Prop where
  ex : ∃ t, PS X st t ∧ OkS X.K t s
structure DSs (X : Cx) (st : List Stmt) (s : MT) : Prop where
  ex : ∃ t, PSs X st t ∧ OkS X.K t s
theorem After.ext {K : PySem.W.Frag} {c : C} {B B1 : Hp} {r : SR} {E : Ends} (h : After K c B r E) (e : Ext B B1) : After K c B1 r E := by
  cases r with
  | nx μ => exact fun B' σ' H' a => h B' σ' H' (e.trans a)
  | rt d dr => exact fun B' H' v a => h B' H' v (e.trans a)
  | bk μ => exact fun B' σ' H' a => h B' σ' H' (e.trans a)
  | ct μ => exact fun B' σ' H' a => h B' σ' H' (e.trans a)
  | bad => exact h
def sNil : MT := fun μ => .nx μ
def sSeq (s t : MT) : MT := fun μ => match s μ with
  | .nx μ' => t μ'
  | r => r
def sIf (m : M Bool) (s t : MT) : MT := fun μ => match m μ with
  | some (true, μ') => s μ'
  | some (false, μ') => t μ'
  | none => .bad
def sRet (m : M D) : MT := fun μ => match m μ with
  | some (d, μ') => .rt d μ'.dr
  | none => .bad
def sRetN : MT := fun μ => .rt .none μ.dr
def sDrop (m : M D) : MT := fun μ => match m μ with
  | some (_, μ') => .nx μ'
  | none => .bad
def sSet (i : Nat) (m : M D) : MT := fun μ => match m μ with
  | some (d, μ') => .nx (setS μ' i (.val d))
  | none => .bad
def sNew (i : Nat) (m : M (List D)) : MT := fun μ => match m μ with
  | some (ds, μ') => .nx (setS μ' i (.own ds))
  | none => .bad
def sAug (g : D → D → Option D) (i : Nat) (m : M D) : MT := fun μ => match μ.sl[i]? with
  | some (.val x) => (match m μ with
    | some (y, μ') => (match g x y with
      | some z => .nx (setS μ' i (.val z))
      | none => .bad)
    | none => .bad)
  | _ => .bad
def sBreak : MT := fun μ => .bk μ
def sCont : MT := fun μ => .ct μ
section
variable {X : Cx} {st : Stmt} {rest : List Stmt} {s t : MT} {e : Expr} {m : M D} {pos : Pos}
theorem ss_nil : DSs X [] sNil := ⟨_, pss_nil, fun c B σ H μ E r a => a B σ H (Ext.refl _) r⟩
theorem ok_seq {t1 t2 : TS} (h1 : OkS X.K t1 s) (h2 : OkS X.K t2 t) : OkS X.K (tSeq t1 t2) (sSeq s t) := by
  intro c B σ H μ E r a
  refine h1 c B σ H μ _ r ?_
  unfold sSeq at a
  cases q : s μ with
  | nx μ' =>
    rw [q] at a
    exact fun B' σ' H' e r' => h2 c B' σ' H' μ' E r' (a.ext e)
  | rt d dr => rw [q] at a; exact a
  | bk μ' => rw [q] at a; exact a
  | ct μ' => rw [q] at a; exact a
  | bad => rw [q] at a; exact a
theorem ss_cons (h1 : DS X st s) (h2 : DSs X rest t) : DSs X (st :: rest) (sSeq s t) := by
  obtain ⟨t1, p1, o1⟩ := h1.ex
  obtain ⟨t2, p2, o2⟩ := h2.ex
  exact ⟨_, pss_cons p1 p2, ok_seq o1 o2⟩
theorem ss_one (h : DS X st s) : DSs X [st] s := by
  obtain ⟨t, p, o⟩ := h.ex
  exact ⟨_, pss_one p, o⟩
theorem s_pass : DS X (.Pass pos) sNil := ⟨_, ps_pass, fun c B σ H μ E r a => a B σ H (Ext.refl _) r⟩
theorem s_break : DS X (.Break pos) sBreak := ⟨_, ps_break, fun c B σ H μ E r a => a B σ H (Ext.refl _) r⟩
theorem s_cont : DS X (.Continue pos) sCont := ⟨_, ps_continue, fun c B σ H μ E r a => a B σ H (Ext.refl _) r⟩
theorem s_doc {x j pos'} : DS X (.Expr (.Constant (.str x) j pos) pos') sNil := ⟨_, ps_doc, fun c B σ H μ E r a => a B σ H (Ext.refl _) r⟩
theorem s_expr (he : DE X e m) (hs : swapsWith e none pos.line X.env = pure false := by rfl) : DS X (.Expr e pos) (sDrop m) := by
  obtain ⟨t, p, o⟩ := he.ex
  refine ⟨_, ps_expr p hs, fun c B σ H μ E r a => ?_⟩
  unfold sDrop at a
  split at a
  · rename_i d μ' hm
    exact o c B σ H μ d μ' _ r hm fun B' H' v e' r' _ => a B' σ H' e' r'
  · exact a.elim
theorem s_ret (he : DE X e m) : DS X (.Return (some e) pos) (sRet m) := by
  obtain ⟨t, p, o⟩ := he.ex
  refine ⟨_, ps_ret p, fun c B σ H μ E r a => ?_⟩
  unfold sRet at a
  split at a
  · rename_i d μ' hm
    exact o c B σ H μ d μ' _ r hm fun B' H' v e' r' hv => a B' H' v e' r'.r0 hv
  · exact a.elim
theorem s_retN : DS X (.Return none pos) sRetN := ⟨_, ps_retN, fun c B σ H μ E r a => a B H _ (Ext.refl _) r.r0 .non⟩
theorem s_if {cnd : Expr} {a b : List Stmt} {mc : M Bool} (hc : DT X cnd mc) (ha : DSs X a s) (hb : DSs X b t) : DS X (.If cnd a b pos) (sIf mc s t) := by
  obtain ⟨tc, pc, oc⟩ := hc.ex
  obtain ⟨ta, pa, oa⟩ := ha.ex
  obtain ⟨tb, pb, ob⟩ := hb.ex
  refine ⟨_, ps_if pc pa pb, fun c B σ H μ E r h => ?_⟩
  unfold sIf at h
  split at h
  · rename_i μ' hm
    refine oc c B σ H μ _ μ' _ r hm fun B' H' e' r' => ?_
    rw [if_pos rfl]
    exact oa c B' σ H' μ' E r' (h.ext e')
  · rename_i μ' hm
    refine oc c B σ H μ _ μ' _ r hm fun B' H' e' r' => ?_
    rw [if_neg Bool.false_ne_true]
    exact ob c B' σ H' μ' E r' (h.ext e')
  · exact h.elim
theorem s_set {i : Nat} {x : Str} {pos' : Pos} (hN : X.N.Nodup) (he : DE X e m) (hi : X.N[i]? = some x := by rfl) (hx : Loc X.env.scope x := by first | exact Or.inl rfl | exact Or.inr rfl) (hs : swapsWith e (some (.Name x pos')) pos.line X.env = pure false := by rfl) (hf : X.fn x = true ∨ X.env.scope.names.lookup x = some .local := by first | exact .inl rfl | exact .inr rfl | assumption) :
    DS X (.Assign [.Name x pos'] e pos) (sSet i m) := by
  obtain ⟨t, p, o⟩ := he.ex
  refine ⟨_, ps_set (i := i) hN hi hx p hs hf, fun c B σ H μ E r a => ?_⟩
  unfold sSet at a
  split at a
  · rename_i d μ' hm
    exact o c B σ H μ d μ' _ r hm fun B' H' v e' r' hv => a B' _ H' e' (r'.putV hv)
  · exact a.elim
theorem s_new {i : Nat} {x : Str} {pos' : Pos} {mf : M (List D)} (hN : X.N.Nodup) (he : DF X e mf) (hi : X.N[i]? = some x := by rfl) (hx : Loc X.env.scope x := by first | exact Or.inl rfl | exact Or.inr rfl) (hs : swapsWith e (some (.Name x pos')) pos.line X.env = pure false := by rfl) (hf : X.fn x = true ∨ X.env.scope.names.lookup x = some .local := by first | exact .inl rfl | exact .inr rfl | assumption) :
    DS X (.Assign [.Name x pos'] e pos) (sNew i mf) := by
  obtain ⟨t, p, o⟩ := he.ex
  refine ⟨_, ps_set (i := i) hN hi hx p hs hf, fun c B σ H μ E r a => ?_⟩
  unfold sNew at a
  split at a
  · rename_i ds μ' hm
    exact o c B σ H μ ds μ' _ r hm fun B' H' q vs e' r' h2 h3 h4 h5 h6 => a B' _ H' e' (r'.putO h2 h3 h4 h6 h5)
  · exact a.elim
theorem s_aug {i : Nat} {x : Str} {op : Operator} {g : D → D → Option D} {f : Int → Int → Int} {pos' : Pos} (hN : X.N.Nodup) (he : DE X e m) (ho : PIp X op (ipI f)) (hg : ∀ a b z, g a b = some z → ∃ i j, a = .int i ∧ b = .int j ∧ z = .int (f i j)) (hi : X.N[i]? = some x := by rfl) (hx : Loc X.env.scope x := by first | exact Or.inl rfl | exact Or.inr rfl) (hf : X.fn x = true ∨ X.env.scope.names.lookup x = some .local := by first | exact .inl rfl | exact .inr rfl | assumption) :
    DS X (.AugAssign (.Name x pos') op e pos) (sAug g i m) := by
  obtain ⟨t, p, o⟩ := he.ex
  refine ⟨_, ps_aug (i := i) hN hi hx p ho hf, fun c B σ H μ E r a => ?_⟩
  unfold sAug at a
  split at a
  · rename_i d hd
    split at a
    · rename_i y μ' hm
      split at a
      · rename_i z hz
        obtain ⟨v, e1, e2⟩ := r.valAt hd
        obtain ⟨i1, j1, rfl, rfl, rfl⟩ := hg _ _ _ hz
        cases e2
        refine ⟨_, e1, o c B σ H μ _ μ' _ r hm fun B' H' w e' r' hw => ?_⟩
        cases hw
        exact ⟨_, _, rfl, rfl, a B' _ H' e' (r'.putV (.int _))⟩
      · exact a.elim
    · exact a.elim
  · exact a.elim
def addI : D → D → Option D
  | .int a, .int b => some (.int (a + b))
  | _, _ => none
theorem s_augAdd {i : Nat} {x : Str} {pos' : Pos} (hN : X.N.Nodup) (he : DE X e m) (hi : X.N[i]? = some x := by rfl) (hx : Loc X.env.scope x := by first | exact Or.inl rfl | exact Or.inr rfl) (hf : X.fn x = true ∨ X.env.scope.names.lookup x = some .local := by first | exact .inl rfl | exact .inr rfl | assumption) :
    DS X (.AugAssign (.Name x pos') .Add e pos) (sAug addI i m) := s_aug hN he ip_add (fun a b z h => by
      unfold addI at h
      split at h
      · cases h; exact ⟨_, _, rfl, rfl, rfl⟩
      · cases h) hi hx hf
theorem s_augSub {i : Nat} {x : Str} {pos' : Pos} (hN : X.N.Nodup) (he : DE X e m) (hi : X.N[i]? = some x := by rfl) (hx : Loc X.env.scope x := by first | exact Or.inl rfl | exact Or.inr rfl) (hf : X.fn x = true ∨ X.env.scope.names.lookup x = some .local := by first | exact .inl rfl | exact .inr rfl | assumption) :
    DS X (.AugAssign (.Name x pos') .Sub e pos) (sAug subD i m) := s_aug hN he ip_sub (fun a b z h => by
      unfold subD at h
      split at h
      · cases h; exact ⟨_, _, rfl, rfl, rfl⟩
      · cases h) hi hx hf
end

/-! ### while -/
def whileF (m : M Bool) (s : MT) : Nat → MT
  | 0 => fun _ => .bad
  | n + 1 => fun μ => match m μ with
    | some (true, μ1) => (match s μ1 with
      | .nx μ2 => whileF m s n μ2
      | .ct μ2 => whileF m s n μ2
      | .bk μ2 => .nx μ2
      | .rt d dr => .rt d dr
      | .bad => .bad)
    | some (false, μ1) => .nx μ1
    | none => .bad
def fuel : Nat := 1099511627776
def sWhile (m : M Bool) (s : MT) : MT := whileF m s fuel
section
variable {X : Cx} {pos : Pos}
theorem s_while {cnd : Expr} {body : List Stmt} {m : M Bool} {s : MT} (hp : PassesOwn (model X.prog X.w) X.A X.env X.xe) (hc : DT X cnd m) (hb : DSs X body s) : DS X (.While cnd body [] pos) (sWhile m s) := by
  obtain ⟨tc, pc, oc⟩ := hc.ex
  obtain ⟨tb, pb, ob⟩ := hb.ex
  refine ⟨_, ps_while hp pc pb, fun c B σ H μ E r a => ?_⟩
  refine ⟨fun n σ' H' => ∃ B' μ', Ext B B' ∧ Rel X.K c B' σ' H' μ' ∧ After X.K c B' (whileF m s n μ') E, ⟨fuel, B, μ, Ext.refl _, r, a⟩, ?_⟩
  rintro n σ1 H1 ⟨B1, μ1, e1, r1, a1⟩
  cases n with
  | zero => exact a1.elim
  | succ n =>
    unfold whileF at a1
    split at a1
    · rename_i μ2 hm
      refine oc c B1 σ1 H1 μ1 _ μ2 _ r1 hm fun B2 H2 e2 r2 => ?_
      rw [if_pos rfl]
      refine ⟨fun σ' H' => ∃ B' μ', Ext B B' ∧ Rel X.K c B' σ' H' μ' ∧ After X.K c B' (whileF m s n μ') E, fun σ' H' h => ⟨n, Nat.lt_succ_self n, h⟩, ?_⟩
      refine ob c B2 σ1 H2 μ2 _ r2 ?_
      cases q : s μ2 with
      | nx μ3 => rw [q] at a1; exact fun B3 σ3 H3 e3 r3 => ⟨B3, μ3, (e1.trans e2).trans e3, r3, a1.ext (e2.trans e3)⟩
      | ct μ3 => rw [q] at a1; exact fun B3 σ3 H3 e3 r3 => ⟨B3, μ3, (e1.trans e2).trans e3, r3, a1.ext (e2.trans e3)⟩
      | bk μ3 => rw [q] at a1; exact fun B3 σ3 H3 e3 r3 => a1 B3 σ3 H3 (e2.trans e3) r3
      | rt d dr => rw [q] at a1; exact fun B3 H3 v e3 r3 hv => a1 B3 H3 v (e2.trans e3) r3 hv
      | bad => rw [q] at a1; exact a1
    · rename_i μ2 hm
      refine oc c B1 σ1 H1 μ1 _ μ2 _ r1 hm fun B2 H2 e2 r2 => ?_
      rw [if_neg Bool.false_ne_true]
      exact a1 B2 σ1 H2 e2 r2
    · exact a1.elim
end

/-! ### what is walked -/
def Walk (K : PySem.W.Frag) (st : Option (Addr × Addr)) (ds : List D) (J : It) (B0 : Hp) : Prop := ∀ (c : C) (B : Hp) (σ : St) (H : Hp) (μ : MS), c.st = st → Ext B0 B → Rel K c B σ H μ →
  (∀ (i : Nat) (d : D), ds[i]? = some d → J.go i H ∧ ∀ x H', J.yld i H x H' → ∃ B', Ext B B' ∧ Rel K c B' σ H' μ ∧ Rp K st B' x d) ∧ J.stop ds.length H
def OkI (K : PySem.W.Frag) (w : TI) (m : M (List D)) : Prop := ∀ (c : C) (B : Hp) (σ : St) (H : Hp) (μ : MS) (ds : List D) (μ' : MS) (R : It → Hp → Prop), Rel K c B σ H μ → m μ = some (ds, μ') →
  (∀ B' H' J, Ext B B' → Rel K c B' σ H' μ' → Walk K c.st ds J B' → R J H') → w σ H R
structure DI (X : Cx) (tg e : Expr) (m : M (List D)) : Prop where
  ex : ∃ w, PI X tg e w ∧ OkI X.K w m
def chars (x : Str) : List D := x.cps.toList.map fun c => .str ⟨#[c]⟩
/-- a list's, a tuple's items, a text's signs -/
def items : D → Option (List D)
  | .list ds => some ds
  | .tuple ds => some ds
  | .str x => some (chars x)
  | _ => none
def mSeq (m : M D) : M (List D) := fun μ => (m μ).bind fun p => (items p.1).bind fun ds => some (ds, p.2)
section
variable {K : PySem.W.Frag} {st : Option (Addr × Addr)} {B0 : Hp}
theorem walk_list {a : Addr} {vs : List V} {ds : List D} (h : B0 a = some (.lst vs)) (r : RpA K st B0 vs ds) : Walk K st ds (Itl K a) B0 := by
  intro c B σ H μ hs e rel
  have hH : SqL K H a vs := SqL.of (rel.r0.ext _ _ (e _ _ h))
  refine ⟨fun i d hi => ?_, ⟨vs, hH, by rw [r.length]; exact Nat.le_refl _⟩⟩
  obtain ⟨v, h1, h2⟩ := r.get hi
  refine ⟨⟨vs, v, hH, h1⟩, fun x H' y => ?_⟩
  obtain ⟨rfl, y⟩ := y
  have := y vs hH
  rw [h1] at this; cases this
  exact ⟨B, Ext.refl _, rel, h2.mono e⟩
theorem walk_tup {a : Addr} {vs : List V} {ds : List D} (h : SqT K B0 a vs) (r : RpA K st B0 vs ds) : Walk K st ds (Itt K a) B0 := by
  intro c B σ H μ hs e rel
  have hH : SqT K H a vs := (e.trans rel.r0.ext).sqt h
  refine ⟨fun i d hi => ?_, ⟨vs, hH, by rw [r.length]; exact Nat.le_refl _⟩⟩
  obtain ⟨v, h1, h2⟩ := r.get hi
  refine ⟨⟨vs, v, hH, h1⟩, fun x H' y => ?_⟩
  obtain ⟨rfl, y⟩ := y
  have := y vs hH
  rw [h1] at this; cases this
  exact ⟨B, Ext.refl _, rel, h2.mono e⟩
theorem walk_str (x : Str) : Walk K st (chars x) (Its x) B0 := by
  intro c B σ H μ hs e rel
  refine ⟨fun i d hi => ?_, by show x.cps.size ≤ (chars x).length; simp [chars]⟩
  unfold chars at hi
  rw [List.getElem?_map] at hi
  cases q : x.cps.toList[i]? with
  | none => rw [q] at hi; cases hi
  | some c' =>
    rw [q] at hi; cases hi
    have hlt : i < x.cps.size := by
      have := (List.getElem?_eq_some_iff.mp q).1
      simpa using this
    refine ⟨hlt, fun v H' y => ?_⟩
    obtain ⟨rfl, c2, h1, rfl⟩ := y
    have : x.cps.toList[i]? = x.cps[i]? := by simp
    rw [this, h1] at q; cases q
    exact ⟨B, Ext.refl _, rel, .str _⟩
def intsR (lo : Int) (n : Nat) : List D := (List.range n).map fun i => .int (lo + (i : Nat))
theorem walk_range (lo : Int) (n : Nat) : Walk K st (intsR lo n) (Itr lo n) B0 := by
  intro c B σ H μ hs e rel
  refine ⟨fun i d hi => ?_, by show n ≤ (intsR lo n).length; simp [intsR]⟩
  unfold intsR at hi
  rw [List.getElem?_map] at hi
  have hlt : i < n := by
    by_cases h : i < n
    · exact h
    · rw [List.getElem?_eq_none (by simp; omega)] at hi; cases hi
  rw [List.getElem?_range hlt] at hi
  cases hi
  refine ⟨hlt, fun v H' y => ?_⟩
  obtain ⟨rfl, rfl⟩ := y
  exact ⟨B, Ext.refl _, rel, .int _⟩
def intsC (lo st : Int) (n : Nat) : List D := (List.range n).map fun i => .int (lo + (i : Nat) * st)
theorem walk_rangeC (lo s : Int) (n : Nat) : Walk K st (intsC lo s n) (Itc lo s n) B0 := by
  intro c B σ H μ hs e rel
  refine ⟨fun i d hi => ?_, by show n ≤ (intsC lo s n).length; simp [intsC]⟩
  unfold intsC at hi
  rw [List.getElem?_map] at hi
  have hlt : i < n := by
    by_cases h : i < n
    · exact h
    · rw [List.getElem?_eq_none (by simp; omega)] at hi; cases hi
  rw [List.getElem?_range hlt] at hi
  cases hi
  refine ⟨hlt, fun v H' y => ?_⟩
  obtain ⟨rfl, rfl⟩ := y
  exact ⟨B, Ext.refl _, rel, .int _⟩
end
section
variable {X : Cx} {tg e : Expr} {m : M D}
theorem PI.or {w w' : TI} (h : PI X tg e w) (h' : PI X tg e w') : PI X tg e (fun σ H R => w σ H R ∨ w' σ H R) :=
  ⟨fun pins s σ H R I hw => hw.elim (h.run pins s σ H R I) (h'.run pins s σ H R I)⟩
theorem i_seq (he : DE X e m) : DI X tg e (mSeq m) := by
  obtain ⟨t, p, o⟩ := he.ex
  refine ⟨_, PI.or (pi_list p) (PI.or (pi_tup p) (pi_str p)), fun c B σ H μ ds μ' R r hm k => ?_⟩
  unfold mSeq at hm
  simp only [Option.bind_eq_some_iff] at hm
  obtain ⟨⟨d, μ1⟩, h1, ds', h2, h3⟩ := hm
  cases h3
  unfold items at h2
  split at h2
  · rename_i xs hd
    cases h2
    have hd' : d = .list _ := hd
    subst hd'
    refine .inl (o c B σ H μ _ _ _ r h1 fun B' H' v e' r' hv => ?_)
    cases hv with
    | lst h3 h4 => exact ⟨_, rfl, ⟨_, SqL.of (r'.r0.ext _ _ h3)⟩, k B' H' _ e' r' (walk_list h3 h4)⟩
  · rename_i xs hd
    cases h2
    have hd' : d = .tuple _ := hd
    subst hd'
    refine .inr (.inl (o c B σ H μ _ _ _ r h1 fun B' H' v e' r' hv => ?_))
    cases hv with
    | tup h3 h4 => exact ⟨_, rfl, ⟨_, r'.r0.ext.sqt h3.sqt⟩, k B' H' _ e' r' (walk_tup h3.sqt h4)⟩
  · rename_i xs hd
    cases h2
    have hd' : d = .str _ := hd
    subst hd'
    refine .inr (.inr (o c B σ H μ _ _ _ r h1 fun B' H' v e' r' hv => ?_))
    cases hv
    exact ⟨_, rfl, k B' H' _ e' r' (walk_str _)⟩
  · cases h2
def rng1 : List D → Option (List D)
  | [.int j] => if -(2 ^ 62) ≤ j ∧ j < 2 ^ 62 then some (intsR 0 j.toNat) else none
  | _ => none
def rng2 : List D → Option (List D)
  | [.int i, .int j] => if -(2 ^ 62) ≤ i ∧ i < 2 ^ 62 ∧ -(2 ^ 62) ≤ j ∧ j < 2 ^ 62 then some (intsR i (j - i).toNat) else none
  | _ => none
theorem lka1 {K : PySem.W.Frag} {st : Option (Addr × Addr)} {B H : Hp} {vs : List V} {d : D} (h : LkA K st B H vs [d]) : ∃ x, vs = [x] ∧ Lk K st B H x d := by
  cases h with
  | cons h t => cases t; exact ⟨_, rfl, h⟩
theorem lka2 {K : PySem.W.Frag} {st : Option (Addr × Addr)} {B H : Hp} {vs : List V} {d e : D} (h : LkA K st B H vs [d, e]) : ∃ x y, vs = [x, y] ∧ Lk K st B H x d ∧ Lk K st B H y e := by
  cases h with
  | cons h t =>
    obtain ⟨y, rfl, h2⟩ := lka1 t
    exact ⟨_, y, rfl, h, h2⟩
theorem lka3 {K : PySem.W.Frag} {st : Option (Addr × Addr)} {B H : Hp} {vs : List V} {d e f : D} (h : LkA K st B H vs [d, e, f]) : ∃ x y z, vs = [x, y, z] ∧ Lk K st B H x d ∧ Lk K st B H y e ∧ Lk K st B H z f := by
  cases h with
  | cons h t =>
    obtain ⟨y, z, rfl, h2, h3⟩ := lka2 t
    exact ⟨_, y, z, rfl, h, h2, h3⟩
theorem i_range1 {a : Expr} {ma : M (List O)} {p pos : Pos} (hm : X.mg "range" = none) (ha : DA X [a] ma) (hg : Gl X "range" := by rfl) (hs : starEach [a] X.env = [(false, eval a X.env)] := by rfl) : DI X tg (.Call (.Name "range" p) [a] [] pos) (mCall rng1 ma) := by
  obtain ⟨t, pt, o⟩ := ha.ex
  refine ⟨_, pi_range1 hg hm pt hs, fun c B σ H μ ds μ' R r hmm k => ?_⟩
  obtain ⟨os, xs, h1, h2, h3⟩ := mCall_some hmm
  refine o c B σ H μ os μ' _ r h1 fun B' H' vs e' r' hv => ?_
  have hl := looks_ok r' hv h2
  unfold rng1 at h3
  split at h3
  · split at h3
    · rename_i hc
      cases h3
      obtain ⟨x, rfl, hx⟩ := lka1 hl
      exact ⟨_, by rw [hx.int], hc.1, hc.2, k B' H' _ e' r' (walk_range _ _)⟩
    · cases h3
  · cases h3
theorem i_range2 {a b : Expr} {ma : M (List O)} {p pos : Pos} (hm : X.mg "range" = none) (ha : DA X [a, b] ma) (hg : Gl X "range" := by rfl) (hs : starEach [a, b] X.env = [(false, eval a X.env), (false, eval b X.env)] := by rfl) (hs2 : starEach [b] X.env = [(false, eval b X.env)] := by rfl) : DI X tg (.Call (.Name "range" p) [a, b] [] pos) (mCall rng2 ma) := by
  obtain ⟨t, pt, o⟩ := ha.ex
  refine ⟨_, pi_range2 hg hm pt hs hs2, fun c B σ H μ ds μ' R r hmm k => ?_⟩
  obtain ⟨os, xs, h1, h2, h3⟩ := mCall_some hmm
  refine o c B σ H μ os μ' _ r h1 fun B' H' vs e' r' hv => ?_
  have hl := looks_ok r' hv h2
  unfold rng2 at h3
  split at h3
  · split at h3
    · rename_i hc
      cases h3
      obtain ⟨x, y, rfl, hx, hy⟩ := lka2 hl
      exact ⟨_, _, by rw [hx.int, hy.int], hc, k B' H' _ e' r' (walk_range _ _)⟩
    · cases h3
  · cases h3
end

/-! ### targets -/
def OkG (K : PySem.W.Frag) (g : TG) (m : D → MS → Option MS) (is : List Nat) : Prop := ∀ (c : C) (B : Hp) (σ : St) (H : Hp) (μ : MS) (v : V) (d : D) (μ' : MS) (Q : St → Hp → Prop), Rel K c B σ H μ → Rp K c.st B v d → m d μ = some μ' →
  (∀ σ', Rel K c B σ' H μ' → (∀ vs : List Nat, (∀ i ∈ is, i ∈ vs) → wipe σ' vs = wipe σ vs) → Q σ' H) → g v σ H Q
structure DG (X : Cx) (tg : Expr) (m : D → MS → Option MS) (is : List Nat) : Prop where
  ex : ∃ g, PG X tg g ∧ OkG X.K g m is
def OkGs (K : PySem.W.Frag) (g : TGs) (m : List D → MS → Option MS) (is : List Nat) : Prop := ∀ (c : C) (B : Hp) (σ : St) (H : Hp) (μ : MS) (vs : List V) (ds : List D) (μ' : MS) (Q : St → Hp → Prop), Rel K c B σ H μ → RpA K c.st B vs ds → m ds μ = some μ' →
  (∀ σ', Rel K c B σ' H μ' → (∀ vs : List Nat, (∀ i ∈ is, i ∈ vs) → wipe σ' vs = wipe σ vs) → Q σ' H) → g vs σ H Q
structure DGs (X : Cx) (tgs : List Expr) (m : List D → MS → Option MS) (is : List Nat) : Prop where
  ex : ∃ g, PGs X tgs g ∧ OkGs X.K g m is
def gN (i : Nat) : D → MS → Option MS := fun d μ => some (setS μ i (.val d))
def gsNil : List D → MS → Option MS
  | [], μ => some μ
  | _ :: _, _ => none
def gsCons (m : D → MS → Option MS) (n : List D → MS → Option MS) : List D → MS → Option MS
  | [], _ => none
  | d :: ds, μ => (m d μ).bind fun μ' => n ds μ'
def gT (n : Nat) (m : List D → MS → Option MS) : D → MS → Option MS
  | .tuple ds, μ => if ds.length = n then m ds μ else none
  | _, _ => none
theorem wipe_set {i : Nat} {x : Option V} {σ : St} : ∀ {vs : List Nat}, i ∈ vs → wipe (σ.set i x) vs = wipe σ vs
  | [], h => by cases h
  | v :: vs, h => by
    unfold wipe
    by_cases hv : i ∈ vs
    · rw [wipe_set hv]
    · have : v = i := by
        rcases List.mem_cons.mp h with e | e
        · exact e.symm
        · exact absurd e hv
      subst this
      have aux : ∀ {us : List Nat}, v ∉ us → wipe (σ.set v x) us = (wipe σ us).set v x := by
        intro us
        induction us with
        | nil => intro _; rfl
        | cons u us ih =>
          intro hu
          unfold wipe
          rw [ih (fun q => hu (List.mem_cons_of_mem _ q)), List.set_comm]
          exact fun q => hu (by rw [q]; exact List.mem_cons_self)
      rw [aux hv, List.set_set]
section
variable {X : Cx} {pos : Pos}
theorem g_name (i : Nat) {x : Str} (hN : X.N.Nodup) (hi : X.N[i]? = some x := by rfl) (hx : Loc X.env.scope x := by first | exact Or.inl rfl | exact Or.inr rfl) (hf : X.fn x = true ∨ X.env.scope.names.lookup x = some .local := by first | exact .inl rfl | exact .inr rfl | assumption) : DG X (.Name x pos) (gN i) [i] :=
  ⟨_, pg_name hN hi hx hf, fun c B σ H μ v d μ' Q r hv hm k => by
    cases hm
    exact k _ (r.putV hv) fun vs hs => wipe_set (hs i (by simp))⟩
theorem gs_nil : DGs X [] gsNil [] := ⟨_, pgs_nil, fun c B σ H μ vs ds μ' Q r hv hm k => by
  cases hv with
  | nil => cases hm; exact ⟨rfl, k σ r fun _ _ => rfl⟩
  | cons _ _ => cases hm⟩
theorem gs_cons {e : Expr} {es : List Expr} {m : D → MS → Option MS} {n : List D → MS → Option MS} {is js : List Nat} (h1 : DG X e m is) (h2 : DGs X es n js)
    (hs : (assignEach (e :: es) X.env).map (·.2) = assign e X.env :: (assignEach es X.env).map (·.2) := by rfl) : DGs X (e :: es) (gsCons m n) (is ++ js) := by
  obtain ⟨g1, p1, o1⟩ := h1.ex
  obtain ⟨g2, p2, o2⟩ := h2.ex
  refine ⟨_, pgs_cons p1 p2 hs, fun c B σ H μ vs ds μ' Q r hv hm k => ?_⟩
  cases hv with
  | nil => cases hm
  | cons hv1 hv2 =>
    simp only [gsCons, Option.bind_eq_some_iff] at hm
    obtain ⟨μ1, h3, h4⟩ := hm
    refine ⟨_, _, rfl, o1 c B σ H μ _ _ μ1 _ r hv1 h3 fun σ' r' w' => ?_⟩
    refine o2 c B σ' H μ1 _ _ μ' _ r' hv2 h4 fun σ'' r'' w'' => ?_
    exact k σ'' r'' fun vs hs' => (w'' vs fun i hi => hs' i (List.mem_append_right _ hi)).trans (w' vs fun i hi => hs' i (List.mem_append_left _ hi))
theorem g_tup {es : List Expr} {k : Nat} {m : List D → MS → Option MS} {n : Nat} {is : List Nat} (hc : X.calm = true) (h : DGs X es m is)
    (hn : (assignEach es X.env).length = n := by rfl) (hst : (assignEach es X.env).findIdx? (·.1) = none := by rfl) : DG X (.Tuple es k pos) (gT n m) is := by
  obtain ⟨g, p, o⟩ := h.ex
  refine ⟨_, pg_tup hc p hn hst, fun c B σ H μ v d μ' Q r hv hm kk => ?_⟩
  unfold gT at hm
  split at hm
  · split at hm
    · rename_i hl
      cases hv with
      | tup h3 h4 => exact ⟨_, _, rfl, r.r0.ext.sqt h3.sqt, by rw [h4.length]; exact hl, o c B σ H μ _ _ μ' Q r h4 hm kk⟩
    · cases hm
  · cases hm
/-- a, b = a value that is unpacked -/
def sUnp (g : D → MS → Option MS) (m : M D) : MT := fun μ => match m μ with
  | some (d, μ') => (match g d μ' with
    | some μ2 => .nx μ2
    | none => .bad)
  | none => .bad
theorem s_asg {tg e : Expr} {m : M D} {g : D → MS → Option MS} {is : List Nat} (he : DE X e m) (hg : DG X tg g is) (hs : swapsWithSole [tg] e pos.line X.env = pure false := by rfl) (hw : swappedStores [tg] e X.env = pure none := by rfl)
    (h1 : (assignEach [tg] X.env).map (·.2) = [assign tg X.env] := by rfl) : DS X (.Assign [tg] e pos) (sUnp g m) := by
  obtain ⟨t, p, o⟩ := he.ex
  obtain ⟨g', p', o'⟩ := hg.ex
  refine ⟨_, ps_asg p p' hs hw h1, fun c B σ H μ E r a => ?_⟩
  unfold sUnp at a
  split at a
  · rename_i d μ' hm
    split at a
    · rename_i μ2 hg'
      exact o c B σ H μ d μ' _ r hm fun B' H' v e' r' hv => o' c B' σ H' μ' v d μ2 _ r' hv hg' fun σ' r'' _ => a B' σ' H' e' r''
    · exact a.elim
  · exact a.elim
end

/-! ### for -/
def loopF (g : D → MS → Option MS) (s : MT) : List D → MT
  | [] => fun μ => .nx μ
  | d :: ds => fun μ => match g d μ with
    | some μ1 => (match s μ1 with
      | .nx μ2 => loopF g s ds μ2
      | .ct μ2 => loopF g s ds μ2
      | .bk μ2 => .nx μ2
      | .rt d dr => .rt d dr
      | .bad => .bad)
    | none => .bad
def sFor (m : M (List D)) (g : D → MS → Option MS) (s : MT) : MT := fun μ => match m μ with
  | some (ds, μ') => loopF g s ds μ'
  | none => .bad
section
variable {X : Cx} {pos : Pos}
theorem s_for {tg iter : Expr} {body : List Stmt} {m : M (List D)} {g : D → MS → Option MS} {is : List Nat} {s : MT} (hp : PassesOwn (model X.prog X.w) X.A X.env X.xe) (hc : X.calm = true) (hi : DI X tg iter m) (hg : DG X tg g is) (hb : DSs X body s)
    (hs : ∀ x, foldedSetIterable iter X.env x = pure x := by intro _; rfl) : DS X (.For tg iter body [] pos) (sFor m g s) := by
  obtain ⟨w, pw, ow⟩ := hi.ex
  obtain ⟨g', pg, og⟩ := hg.ex
  obtain ⟨tb, pb, ob⟩ := hb.ex
  refine ⟨_, ps_for hp hc pw pg pb hs, fun c B σ H μ E r a => ?_⟩
  unfold sFor at a
  split at a
  · rename_i ds μ' hm
    refine ow c B σ H μ ds μ' _ r hm fun B1 H1 J e1 r1 wk => ?_
    refine ⟨fun i n σ' H' => n = ds.length - i ∧ i ≤ ds.length ∧ ∃ B' μ2, Ext B1 B' ∧ Rel X.K c B' σ' H' μ2 ∧ After X.K c B' (loopF g s (ds.drop i) μ2) E, ⟨ds.length, by simp, Nat.zero_le _, B1, μ', Ext.refl _, r1, by rw [List.drop_zero]; exact a.ext e1⟩, ?_⟩
    rintro i n σ2 H2 ⟨rfl, hi2, B2, μ2, e2, r2, a2⟩
    obtain ⟨w1, w2⟩ := wk c B2 σ2 H2 μ2 rfl e2 r2
    by_cases hlt : i < ds.length
    · obtain ⟨d, hd⟩ : ∃ d, ds[i]? = some d := ⟨ds[i], by simp [hlt]⟩
      have hdr : ds.drop i = d :: ds.drop (i + 1) := by
        rw [List.drop_eq_getElem_cons hlt]
        congr 1
        simpa [hlt] using hd
      rw [hdr] at a2
      simp only [loopF] at a2
      obtain ⟨go, yl⟩ := w1 i d hd
      refine .inr ⟨go, fun σ' H' => i + 1 ≤ ds.length ∧ ∃ B' μ2, Ext B1 B' ∧ Rel X.K c B' σ' H' μ2 ∧ After X.K c B' (loopF g s (ds.drop (i + 1)) μ2) E, fun σ' H' h => ⟨ds.length - (i + 1), by omega, rfl, h.1, h.2⟩, fun x H' hy => ?_⟩
      obtain ⟨B3, e3, r3, hx⟩ := yl x H' hy
      split at a2
      · rename_i μ3 hg3
        refine og c B3 σ2 H' μ2 x d μ3 _ r3 hx hg3 fun σ4 r4 _ => ?_
        refine ob c B3 σ4 H' μ3 _ r4 ?_
        cases q : s μ3 with
        | nx μ5 => rw [q] at a2; exact fun B5 σ5 H5 e5 r5 => ⟨hlt, B5, μ5, (e2.trans e3).trans e5, r5, a2.ext (e3.trans e5)⟩
        | ct μ5 => rw [q] at a2; exact fun B5 σ5 H5 e5 r5 => ⟨hlt, B5, μ5, (e2.trans e3).trans e5, r5, a2.ext (e3.trans e5)⟩
        | bk μ5 => rw [q] at a2; exact fun B5 σ5 H5 e5 r5 => a2 B5 σ5 H5 (e3.trans e5) r5
        | rt d dr => rw [q] at a2; exact fun B5 H5 v e5 r5 hv => a2 B5 H5 v (e3.trans e5) r5 hv
        | bad => rw [q] at a2; exact a2
      · exact a2.elim
    · have hi3 : i = ds.length := by omega
      subst hi3
      rw [List.drop_length] at a2
      exact .inl ⟨w2, a2 B2 σ2 H2 (Ext.refl _) r2⟩
  · exact a.elim
end
end Mi
/-! Mi, fifth part: comprehensions, lists of our own, calls of defs. -/
namespace Mi
open PySem PySem.Spec PyProof.Rows L2

/-! ### an object that is ours and must stay -/
def C.pin (c : C) (p : Addr) (o : HO) : C := { c with H0 := upd c.H0 p o }
section
variable {K : PySem.W.Frag} {c : C} {B H : Hp} {σ : St} {μ : MS} {p : Addr} {o : HO}
theorem Rel0.noSt {dr : Dr} (r : Rel0 c B H dr) (h0 : c.H0 p = none) : ¬ IsSt c p := fun s => (s.some r.dr).2.2 h0
theorem Rel.pin (r : Rel K c B σ H μ) (h : H p = some o) (hb : B p = none) (h0 : c.H0 p = none) (n : NoOwn σ μ p) : Rel K (c.pin p o) B σ H μ := by
  refine ⟨⟨r.r0.ext, fun x y e => ?_, fun a u e s => ?_, fun a u e => ?_, r.r0.b0⟩, r.len, fun i s hs => ?_, r.sep⟩
  · obtain ⟨h1, h2, h3, h4, h5, h6, h7⟩ := r.r0.dr x y e
    refine ⟨h1, h2, h3, h4, h5, ?_, ?_⟩
    · show upd c.H0 p o x ≠ none
      have : x ≠ p := fun z => by subst z; exact h6 h0
      rw [upd_ne this]; exact h6
    · show upd c.H0 p o y ≠ none
      have : y ≠ p := fun z => by subst z; exact h7 h0
      rw [upd_ne this]; exact h7
  · have e' : upd c.H0 p o a = some u := e
    by_cases ha : a = p
    · subst ha; rw [upd_same] at e'; cases e'; exact h
    · rw [upd_ne ha] at e'; exact r.r0.fr a u e' s
  · rcases r.r0.nw a u e with q | q
    · exact .inl q
    · refine .inr ?_
      show upd c.H0 p o a = none
      have : a ≠ p := fun z => by subst z; rw [hb] at e; cases e
      rw [upd_ne this]; exact q
  · have q := r.sl i s hs
    cases s with
    | un => trivial
    | val d => exact q
    | ow ds =>
      obtain ⟨a, vs, h1, h2, h3, h4, h5⟩ := q
      refine ⟨a, vs, h1, h2, h3, ?_, h5⟩
      show upd c.H0 p o a = none
      have : a ≠ p := fun z => by subst z; exact n i ds hs h1
      rw [upd_ne this]; exact h4
theorem Rel.unpin (r : Rel K (c.pin p o) B σ H μ) (h0 : c.H0 p = none) (hb0 : c.B0 p = none) (ns : ¬ IsSt c p) : Rel K c B σ H μ ∧ H p = some o ∧ B p = none ∧ NoOwn σ μ p := by
  have e0 : (c.pin p o).H0 p = some o := by show upd c.H0 p o p = some o; rw [upd_same]
  have hp : H p = some o := r.r0.fr p o e0 ns
  have back : ∀ a, (c.pin p o).H0 a = none → c.H0 a = none ∧ a ≠ p := fun a e => by
    have e' : upd c.H0 p o a = none := e
    have na : a ≠ p := fun z => by subst z; rw [upd_same] at e'; cases e'
    rw [upd_ne na] at e'
    exact ⟨e', na⟩
  refine ⟨⟨⟨r.r0.ext, fun x y e => ?_, fun a u e s => ?_, fun a u e => ?_, r.r0.b0⟩, r.len, fun i s hs => ?_, r.sep⟩, hp, ?_, fun i ds hi hs => ?_⟩
  · obtain ⟨h1, h2, h3, h4, h5, h6, h7⟩ := r.r0.dr x y e
    have nx : x ≠ p := fun z => by subst z; exact ns ⟨_, _, e, .inl rfl⟩
    have ny : y ≠ p := fun z => by subst z; exact ns ⟨_, _, e, .inr rfl⟩
    have h6' : upd c.H0 p o x ≠ none := h6
    have h7' : upd c.H0 p o y ≠ none := h7
    rw [upd_ne nx] at h6'
    rw [upd_ne ny] at h7'
    exact ⟨h1, h2, h3, h4, h5, h6', h7'⟩
  · refine r.r0.fr a u ?_ s
    show upd c.H0 p o a = some u
    rw [upd_ne (ne_of_none e h0)]; exact e
  · rcases r.r0.nw a u e with q | q
    · exact .inl q
    · exact .inr (back a q).1
  · have q := r.sl i s hs
    cases s with
    | un => trivial
    | val d => exact q
    | ow ds =>
      obtain ⟨a, vs, h1, h2, h3, h4, h5⟩ := q
      exact ⟨a, vs, h1, h2, h3, (back a h4).1, h5⟩
  · cases q : B p with
    | none => rfl
    | some u =>
      rcases r.r0.nw p u q with z | z
      · have z' : c.B0 p = some u := z
        rw [hb0] at z'; cases z'
      · exact absurd rfl (back p z).2
  · obtain ⟨a, vs, h1, h2, h3, h4, h5⟩ := r.owAt hi
    rw [hs] at h1; cases h1
    exact (back _ h4).2 rfl
end

/-! ### a comprehension's own slots -/
def wipeS (μ : MS) (vs : List Nat) : MS := { μ with sl := vs.foldr (fun v l => l.set v .un) μ.sl }
theorem wipeS_cons (μ : MS) (v : Nat) (vs : List Nat) : wipeS μ (v :: vs) = setS (wipeS μ vs) v .un := rfl
section
variable {K : PySem.W.Frag} {c : C} {B H : Hp} {σ : St} {μ : MS}
theorem Rel.wipe (r : Rel K c B σ H μ) : ∀ vs : List Nat, Rel K c B (wipe σ vs) H (wipeS μ vs)
  | [] => r
  | v :: vs => by
    rw [wipeS_cons]
    exact (Rel.wipe r vs).put (fun _ => trivial) fun _ _ _ e => by cases e
theorem wipe_idem (σ : St) : ∀ vs : List Nat, wipe (wipe σ vs) vs = wipe σ vs := fun vs => by
  have aux : ∀ us : List Nat, (∀ u ∈ us, u ∈ vs) → wipe (wipe σ us) vs = wipe σ vs := by
    intro us
    induction us with
    | nil => intro _; rfl
    | cons u us ih =>
      intro h
      show wipe ((wipe σ us).set u none) vs = _
      rw [wipe_set (h u List.mem_cons_self)]
      exact ih fun x hx => h x (List.mem_cons_of_mem _ hx)
  exact aux vs fun _ h => h
theorem wipe_get {i : Nat} : ∀ {vs : List Nat}, i ∉ vs → (L2.wipe σ vs)[i]? = σ[i]?
  | [], _ => rfl
  | v :: vs, h => by
    show ((L2.wipe σ vs).set v none)[i]? = _
    rw [List.getElem?_set_ne (fun e => h (by rw [e]; exact List.mem_cons_self))]
    exact wipe_get fun q => h (List.mem_cons_of_mem _ q)
theorem wipeS_get {i : Nat} {s : Sl} : ∀ {vs : List Nat}, i ∈ vs → (wipeS μ vs).sl[i]? = some s → s = .un
  | [], h, _ => by cases h
  | v :: vs, h, e => by
    rw [wipeS_cons] at e
    have e' : ((wipeS μ vs).sl.set v .un)[i]? = some s := e
    by_cases hv : v = i
    · subst hv
      have hl : v < (wipeS μ vs).sl.length := by
        have := (List.getElem?_eq_some_iff.mp e').1
        simpa using this
      rw [List.getElem?_set_self hl] at e'
      exact (Option.some.inj e').symm
    · rw [List.getElem?_set_ne hv] at e'
      rcases List.mem_cons.mp h with q | q
      · exact absurd q.symm hv
      · exact wipeS_get q e'
/-- the slots' values behind a comprehension are those ahead of it -/
theorem Rel.unwipe {vs : List Nat} (r : Rel K c B (L2.wipe σ vs) H (wipeS μ vs)) : Rel K c B σ H (wipeS μ vs) := by
  refine ⟨r.r0, by rw [← r.len, wipe_length], fun i s hs => ?_, fun i j di dj nij hi hj => ?_⟩
  · by_cases hi : i ∈ vs
    · rw [wipeS_get hi hs]; trivial
    · have q := r.sl i s hs
      cases s with
      | un => trivial
      | val d =>
        obtain ⟨v, h1, h2⟩ := q
        exact ⟨v, by rw [← wipe_get hi]; exact h1, h2⟩
      | ow ds =>
        obtain ⟨p, vs', h1, h2⟩ := q
        exact ⟨p, vs', by rw [← wipe_get hi]; exact h1, h2⟩
  · have ni : i ∉ vs := fun h => by have := wipeS_get h hi; cases this
    have nj : j ∉ vs := fun h => by have := wipeS_get h hj; cases this
    have := r.sep i j di dj nij hi hj
    rw [wipe_get ni, wipe_get nj] at this
    exact this
end

/-- the values that the comprehension's names had ahead of it (lists of ours are forgotten) -/
def restS (μ0 : MS) : List Nat → MS → MS
  | [], μ => μ
  | v :: vs, μ => match μ0.sl[v]? with
    | some (.val d) => restS μ0 vs (setS μ v (.val d))
    | _ => restS μ0 vs μ
theorem Rel.rest {K : PySem.W.Frag} {c : C} {B0 B H0 H : Hp} {σ : St} {μ0 : MS} (r0 : Rel K c B0 σ H0 μ0) (e : Ext B0 B) : ∀ {vs : List Nat} {μ : MS}, Rel K c B σ H μ → Rel K c B σ H (restS μ0 vs μ)
  | [], μ, r => r
  | v :: vs, μ, r => by
    unfold restS
    split
    · rename_i d hd
      obtain ⟨x, h1, h2⟩ := r0.valAt hd
      exact Rel.rest r0 e (r.same (fun _ => ⟨x, h1, h2.mono e⟩) fun _ z => by cases z)
    · exact Rel.rest r0 e r
theorem NoOwn.rest {σ : St} {p : Addr} {μ0 : MS} : ∀ {vs : List Nat} {μ : MS}, NoOwn σ μ p → NoOwn σ (restS μ0 vs μ) p
  | [], μ, r => r
  | v :: vs, μ, r => by
    unfold restS
    split
    · rename_i d hd
      refine NoOwn.rest fun i di hi => ?_
      by_cases hv : v = i
      · subst hv
        have hl : v < μ.sl.length := by
          have := (List.getElem?_eq_some_iff.mp hi).1
          simpa [setS] using this
        rw [show (setS μ v (.val d)).sl = μ.sl.set v (.val d) from rfl, List.getElem?_set_self hl] at hi
        cases hi
      · rw [show (setS μ v (.val d)).sl = μ.sl.set v (.val d) from rfl, List.getElem?_set_ne hv] at hi
        exact r i di hi
    · exact NoOwn.rest r
/-! ### [e for x in xs if t] -/
def tYesM : M Bool := fun μ => some (true, μ)
def loopC (g : D → MS → Option MS) (t : M Bool) (m : M D) (vs : List Nat) : List D → List D → MS → Option (List D × MS)
  | [], acc, μ => some (acc, μ)
  | d :: ds, acc, μ => (g d μ).bind fun μ1 => (t μ1).bind fun p => if p.1 = true then (m p.2).bind fun q => if acc.length < lineN then loopC g t m vs ds (acc ++ [q.1]) (wipeS q.2 vs) else none else loopC g t m vs ds acc (wipeS p.2 vs)
def mLc (mi : M (List D)) (g : D → MS → Option MS) (t : M Bool) (m : M D) (vs : List Nat) : M (List D) := fun μ => (mi μ).bind fun p => (loopC g t m vs p.1 [] (wipeS p.2 vs)).bind fun q => some (q.1, restS p.2 vs q.2)
/-- readings made of mirrors -/
def tE (K : PySem.W.Frag) (m : M D) : TE := fun σ H Q => ∃ c B μ d μ', Rel K c B σ H μ ∧ m μ = some (d, μ') ∧ Post K c B σ μ' d Q
def tT (K : PySem.W.Frag) (m : M Bool) : TT := fun σ H Q => ∃ c B μ b μ', Rel K c B σ H μ ∧ m μ = some (b, μ') ∧ ∀ B' H', Ext B B' → Rel K c B' σ H' μ' → Q b H'
def tG (K : PySem.W.Frag) (m : D → MS → Option MS) (is : List Nat) : TG := fun v σ H Q => ∃ c B μ d μ', Rel K c B σ H μ ∧ Rp K c.st B v d ∧ m d μ = some μ' ∧ ∀ σ', Rel K c B σ' H μ' → (∀ vs : List Nat, (∀ i ∈ is, i ∈ vs) → L2.wipe σ' vs = L2.wipe σ vs) → Q σ' H
def tI (K : PySem.W.Frag) (m : M (List D)) : TI := fun σ H R => ∃ c B μ ds μ', Rel K c B σ H μ ∧ m μ = some (ds, μ') ∧ ∀ B' H' J, Ext B B' → Rel K c B' σ H' μ' → Walk K c.st ds J B' → R J H'
section
variable {X : Cx} {e tg : Expr}
theorem DE.pe {m : M D} (h : DE X e m) : PE X e (tE X.K m) := by
  obtain ⟨t, p, o⟩ := h.ex
  exact ⟨fun pins s σ H Q I ⟨c, B, μ, d, μ', r, hm, k⟩ => p.run pins s σ H Q I (o c B σ H μ d μ' Q r hm k)⟩
theorem DT.pt {m : M Bool} (h : DT X e m) : PT X e (tT X.K m) := by
  obtain ⟨t, p, o⟩ := h.ex
  exact ⟨fun pins s σ H Q I ⟨c, B, μ, d, μ', r, hm, k⟩ => p.run pins s σ H Q I (o c B σ H μ d μ' Q r hm k)⟩
theorem DG.pg {m : D → MS → Option MS} {is : List Nat} (h : DG X tg m is) : PG X tg (tG X.K m is) := by
  obtain ⟨g, p, o⟩ := h.ex
  exact ⟨fun pins s σ H v u Q I rv ⟨c, B, μ, d, μ', r, hv, hm, k⟩ => p.run pins s σ H v u Q I rv (o c B σ H μ v d μ' Q r hv hm k)⟩
theorem DI.pi {m : M (List D)} (h : DI X tg e m) : PI X tg e (tI X.K m) := by
  obtain ⟨w, p, o⟩ := h.ex
  exact ⟨fun pins s σ H R I ⟨c, B, μ, d, μ', r, hm, k⟩ => p.run pins s σ H R I (o c B σ H μ d μ' R r hm k)⟩
/-- tests of a clause -/
structure DTs (X : Cx) (ifs : List Expr) (m : M Bool) : Prop where
  ex : ∃ t, PTs X ifs t ∧ OkT X.K t m
theorem ts_nil : DTs X [] tYesM := ⟨_, pts_nil, fun c B σ H μ b μ' Q r hm k => by cases hm; exact k B H (Ext.refl _) r⟩
theorem ts_one {m : M Bool} (h : DT X e m) : DTs X [e] m := by
  obtain ⟨t, p, o⟩ := h.ex
  exact ⟨t, pts_one p, o⟩
theorem DTs.pts {ifs : List Expr} {m : M Bool} (h : DTs X ifs m) : PTs X ifs (tT X.K m) := by
  obtain ⟨t, p, o⟩ := h.ex
  exact ⟨fun pins s σ H Q I ⟨c, B, μ, d, μ', r, hm, k⟩ => p.run pins s σ H Q I (o c B σ H μ d μ' Q r hm k)⟩
end
theorem ok_lc {K : PySem.W.Frag} {mi : M (List D)} {g : D → MS → Option MS} {t : M Bool} {m : M D} {vs is : List Nat} (hs : ∀ i ∈ is, i ∈ vs) :
    OkF K (tLc (tI K mi) (tG K g is) (tT K t) (tE K m) vs) (mLc mi g t m vs) := by
  intro c B σ H μ out μ' Q r hm k
  unfold mLc at hm
  simp only [Option.bind_eq_some_iff] at hm
  obtain ⟨⟨ds, μ1⟩, h1, ⟨out', μ9⟩, h2, h9⟩ := hm
  have h9' : out' = out ∧ restS μ1 vs μ9 = μ' := by
    have := Option.some.inj h9
    exact ⟨congrArg Prod.fst this, congrArg Prod.snd this⟩
  obtain ⟨e9, e9'⟩ := h9'
  subst e9
  refine ⟨c, B, μ, ds, μ1, r, h1, fun B1 H1 J e1 r1 wk Dl hD => ?_⟩
  obtain ⟨f0, fb⟩ := r1.r0.fresh hD
  have fb0 : c.B0 Dl = none := r1.r0.b0.none fb
  have ns : ¬ IsSt c Dl := r1.r0.noSt f0
  have start : Rel K (c.pin Dl (.lst [])) B1 (L2.wipe σ vs) (upd H1 Dl (.lst [])) (wipeS μ1 vs) := by
    have q := (r1.hide (o := .lst []) hD)
    exact (q.pin upd_same fb f0 (r1.noOwn hD)).wipe vs
  refine ⟨fun i n H' => n = ds.length - i ∧ i ≤ ds.length ∧ ∃ B2 μ2 acc vacc, Ext B1 B2 ∧ Rel K (c.pin Dl (.lst vacc)) B2 (L2.wipe σ vs) H' (wipeS μ2 vs) ∧ RpA K c.st B2 vacc acc ∧ loopC g t m vs (ds.drop i) acc (wipeS μ2 vs) = some (out', μ9),
    ⟨ds.length, by simp, Nat.zero_le _, B1, μ1, [], [], Ext.refl _, start, .nil, by rw [List.drop_zero]; exact h2⟩, ?_⟩
  rintro i n H2 ⟨rfl, hi2, B2, μ2, acc, vacc, e2, r2, ra, a2⟩
  obtain ⟨w1, w2⟩ := wk (c.pin Dl (.lst vacc)) B2 _ H2 (wipeS μ2 vs) rfl e2 r2
  by_cases hlt : i < ds.length
  · obtain ⟨d, hd⟩ : ∃ d, ds[i]? = some d := ⟨ds[i], by simp [hlt]⟩
    have hdr : ds.drop i = d :: ds.drop (i + 1) := by
      rw [List.drop_eq_getElem_cons hlt]
      congr 1
      simpa [hlt] using hd
    rw [hdr] at a2
    simp only [loopC, Option.bind_eq_some_iff] at a2
    obtain ⟨μ3, g3, ⟨b, μ4⟩, t4, a4⟩ := a2
    obtain ⟨go, yl⟩ := w1 i d hd
    refine .inr ⟨go, fun H' => i + 1 ≤ ds.length ∧ ∃ B2 μ2 acc vacc, Ext B1 B2 ∧ Rel K (c.pin Dl (.lst vacc)) B2 (L2.wipe σ vs) H' (wipeS μ2 vs) ∧ RpA K c.st B2 vacc acc ∧ loopC g t m vs (ds.drop (i + 1)) acc (wipeS μ2 vs) = some (out', μ9),
      fun H' h => ⟨ds.length - (i + 1), by omega, rfl, h.1, h.2⟩, fun x H' hy => ?_⟩
    obtain ⟨B3, e3, r3, hx⟩ := yl x H' hy
    refine ⟨c.pin Dl (.lst vacc), B3, wipeS μ2 vs, d, μ3, r3, hx, g3, fun σ4 r4 w4 => ⟨?_, ?_⟩⟩
    · rw [w4 vs hs, wipe_idem]
    refine ⟨c.pin Dl (.lst vacc), B3, μ3, b, μ4, r4, t4, fun B5 H5 e5 r5 => ?_⟩
    have wσ : L2.wipe σ4 vs = L2.wipe σ vs := by rw [w4 vs hs, wipe_idem]
    cases b with
    | false =>
      rw [if_neg Bool.false_ne_true] at a4
      refine iteF ?_
      refine ⟨hlt, B5, μ4, acc, vacc, (e2.trans e3).trans e5, ?_, ra.mono (e3.trans e5) acc vacc, a4⟩
      rw [← wσ]
      exact r5.wipe vs
    | true =>
      rw [if_pos rfl] at a4
      refine iteT ?_
      simp only [Option.bind_eq_some_iff] at a4
      obtain ⟨⟨z, μ6⟩, m6, a6⟩ := a4
      split at a6
      · rename_i hl
        refine ⟨c.pin Dl (.lst vacc), B5, μ4, z, μ6, r5, m6, fun B7 H7 v e7 r7 hv => ?_⟩
        obtain ⟨u1, u2, u3, u4⟩ := r7.unpin f0 fb0 ns
        have ra' := ra.mono ((e3.trans e5).trans e7) acc vacc
        refine ⟨vacc, u2, by rw [ra'.length, sizeLine_eq]; exact hl, hlt, B7, μ6, acc ++ [z], vacc ++ [v], ((e2.trans e3).trans e5).trans e7, ?_, ra'.append (.cons hv .nil), a6⟩
        rw [← wσ]
        exact ((u1.chg f0 u3 u4).pin upd_same u3 f0 u4).wipe vs
      · cases a6
  · have hi3 : i = ds.length := by omega
    subst hi3
    rw [List.drop_length] at a2
    simp only [loopC] at a2
    cases a2
    obtain ⟨u1, u2, u3, u4⟩ := r2.unpin f0 fb0 ns
    rw [← e9'] at k
    refine .inl ⟨w2, k B2 H2 Dl vacc (e1.trans e2) (Rel.rest r1 e2 u1.unwipe) u2 u3 f0 (NoOwn.rest fun i di hi hs' => ?_) ra⟩
    have ni : i ∉ vs := fun h => by have := wipeS_get h hi; cases this
    refine u4 i di hi ?_
    rw [wipe_get ni]; exact hs'
section
variable {X : Cx}
theorem f_lc {elt tg iter : Expr} {ifs : List Expr} {scope : Scope} {own : List (Str × Nat)} {pos : Pos} {mi : M (List D)} {g : D → MS → Option MS} {is : List Nat} {t : M Bool} {m : M D} (hc : X.calm = true) (hN : X.N.Nodup) (hi : DI X tg iter mi) (ok : BlkOk X.N X.env.scope scope own) (his : ∀ i ∈ is, i ∈ own.map (·.2))
    (hg : ∀ (s : Shared) (H : Hp) (C : Addr) (cl : List (Str × Addr)) (fp : List Addr), DG (X.blk s H scope (compEnvC scope cl C X.env) fp) tg g is) (ht : ∀ (s : Shared) (H : Hp) (C : Addr) (cl : List (Str × Addr)) (fp : List Addr), DTs (X.blk s H scope (compEnvC scope cl C X.env) fp) ifs t)
    (he : ∀ (s : Shared) (H : Hp) (C : Addr) (cl : List (Str × Addr)) (fp : List Addr), DE (X.blk s H scope (compEnvC scope cl C X.env) fp) elt m) (hs : ∀ x, foldedSetIterable iter X.env x = pure x := by intro _; rfl) :
    DF X (.ListComp elt [⟨tg, iter, ifs, 0⟩] scope pos) (mLc mi g t m (own.map (·.2))) :=
  ⟨_, pe_lc (g := tG X.K g is) (tt := tT X.K t) (te := tE X.K m) hc hN hi.pi ok (fun s H C cl fp => (hg s H C cl fp).pg) (fun s H C cl fp => (ht s H C cl fp).pts) (fun s H C cl fp => (he s H C cl fp).pe) hs, ok_lc his⟩
theorem s_lc {i : Nat} {y : Str} {py : Pos} {elt tg iter : Expr} {ifs : List Expr} {scope : Scope} {own : List (Str × Nat)} {pos spos : Pos} {mi : M (List D)} {g : D → MS → Option MS} {is : List Nat} {t : M Bool} {m : M D} (hc : X.calm = true) (hN : X.N.Nodup)
    (hi : DI X tg iter mi) (ok : BlkOk X.N X.env.scope scope own) (his : ∀ i ∈ is, i ∈ own.map (·.2))
    (hg : ∀ (s : Shared) (H : Hp) (C : Addr) (cl : List (Str × Addr)) (fp : List Addr), DG (X.blk s H scope (compEnvC scope cl C X.env) fp) tg g is) (ht : ∀ (s : Shared) (H : Hp) (C : Addr) (cl : List (Str × Addr)) (fp : List Addr), DTs (X.blk s H scope (compEnvC scope cl C X.env) fp) ifs t)
    (he : ∀ (s : Shared) (H : Hp) (C : Addr) (cl : List (Str × Addr)) (fp : List Addr), DE (X.blk s H scope (compEnvC scope cl C X.env) fp) elt m) (hy : X.N[i]? = some y := by rfl) (hyl : X.env.scope.names.lookup y = some .local := by rfl)
    (hsw : swapsWith (.ListComp elt [⟨tg, iter, ifs, 0⟩] scope pos) (some (.Name y py)) spos.line X.env = pure true := by exact sw_true rfl rfl rfl (by decide +kernel)) (hs : ∀ x, foldedSetIterable iter X.env x = pure x := by intro _; rfl) :
    DS X (.Assign [.Name y py] (.ListComp elt [⟨tg, iter, ifs, 0⟩] scope pos) spos) (sNew i (mLc mi g t m (own.map (·.2)))) := by
  refine ⟨_, ps_setLc (g := tG X.K g is) (tt := tT X.K t) (te := tE X.K m) hc hN hy hyl hsw hi.pi ok (fun s H C cl fp => (hg s H C cl fp).pg) (fun s H C cl fp => (ht s H C cl fp).pts) (fun s H C cl fp => (he s H C cl fp).pe) hs, fun c B σ H μ E r a => ?_⟩
  unfold sNew at a
  split at a
  · rename_i ds μ' hm
    exact ok_lc his c B σ H μ ds μ' _ r hm fun B' H' q vs e' r' h2 h3 h4 h5 h6 => a B' _ H' e' (r'.putO h2 h3 h4 h6 h5)
  · exact a.elim
end

/-! ### lists of our own, changed -/
/-- the slot i must hold a list of ours -/
def owned (μ : MS) (i : Nat) : Option (List D) := match μ.sl[i]? with
  | some (.ow (.l ds)) => some ds
  | _ => none
theorem owned_some {μ : MS} {i : Nat} {ds : List D} (h : owned μ i = some ds) : μ.sl[i]? = some (.own ds) := by
  unfold owned at h
  split at h
  · rename_i q; cases h; exact q
  · cases h
def mApp (i : Nat) (m : M D) : M D := fun μ => (owned μ i).bind fun _ => (m μ).bind fun p => (owned p.2 i).bind fun ds => if ds.length < lineN then some (.none, setS p.2 i (.own (ds ++ [p.1]))) else none
def mExt (i : Nat) (m : M O) : M D := fun μ => (owned μ i).bind fun _ => (m μ).bind fun p => (owned p.2 i).bind fun ds => (look p.1 p.2).bind fun e => match e with
  | .list es => if ds.length + es.length ≤ lineN then some (.none, setS p.2 i (.own (ds ++ es))) else none
  | _ => none
def mPop (i : Nat) : M D := fun μ => (owned μ i).bind fun ds => (ds[ds.length - 1]?).bind fun d => some (d, setS μ i (.own ds.dropLast))
def mPopAt (i : Nat) (m : M D) : M D := fun μ => (owned μ i).bind fun _ => (m μ).bind fun p => (owned p.2 i).bind fun ds => match p.1 with
  | .int j => if -(2 ^ 63) ≤ j ∧ j < 2 ^ 63 then (seqIndex? j ds.length).bind fun k => (ds[k]?).bind fun d => some (d, setS p.2 i (.own (ds.eraseIdx k))) else none
  | _ => none
section
variable {X : Cx} {x : Str} {px apos cpos : Pos} {e : Expr}
theorem Rel.tyL {K : PySem.W.Frag} {c : C} {B H : Hp} {σ : St} {μ : MS} {i : Nat} {ds : List D} (r : Rel K c B σ H μ) (h : owned μ i = some ds) : ∃ p vs, σ[i]? = some (some (.ref p)) ∧ H p = some (.lst vs) ∧ RpA K c.st B vs ds ∧ tyV K "list" (.ref p) H := by
  obtain ⟨p, vs, h1, h2, h3, h4, h5⟩ := r.ownAt (owned_some h)
  exact ⟨p, vs, h1, h2, h5, .inl ⟨rfl, vs, SqL.of h2⟩⟩
theorem e_append {m : M D} (i : Nat) (he : DE X e m) (hN : X.N[i]? = some x := by rfl) (hv : Vis X.env.scope x := by first | exact Or.inl rfl | exact Or.inr (Or.inl rfl) | exact Or.inr (Or.inr rfl)) (hd : (x == ("__debug__" : Str)) = false := by decide)
    (hcd : (x == ("__classdict__" : Str)) = false := by decide) (hbase : attributeBase (.Name x px) "append" X.env (eval (.Name x px) X.env) = eval (.Name x px) X.env := by rfl)
    (hfew : ((backTo cpos (starEach [e] X.env)).all (fun x => !x.1) && (backToKw cpos (keywordEach [] X.env)).all (fun x => x.1.isSome) && decide ([e].length + ([] : List Keyword).length + (if ([] : List Keyword).isEmpty then 0 else 1) < 30)) = true := by rfl)
    (hline : (apos.endLine == cpos.line) = true := by rfl) (hs : starEach [e] X.env = (false, eval e X.env) :: starEach [] X.env := by rfl) (hplain : (backTo cpos (starEach [] X.env)).any (·.1) = false := by rfl) :
    DE X (.Call (.Attribute (.Name x px) "append" apos) [e] [] cpos) (mApp i m) := by
  obtain ⟨t, p, o⟩ := he.ex
  refine ⟨_, pe_bm PySem.F.plainAttrs_list PySem.F.slot_list_append PySem.F.type_list_append mt_append (pv i hN hv hd hcd) (pa_cons p pa_nil hs) hbase hfew hline hs hplain, fun c B σ H μ d μ' Q r hm k => ?_⟩
  unfold mApp at hm
  simp only [Option.bind_eq_some_iff] at hm
  obtain ⟨ds0, h0, ⟨d1, μ1⟩, h1, ds, h2, h3⟩ := hm
  split at h3
  · rename_i hl
    cases h3
    obtain ⟨q, vs, s1, s2, s3, s4⟩ := r.tyL h0
    refine ⟨_, s1, s4, o c B σ H μ d1 μ1 _ r h1 fun B' H' v e' r' hv => ?_⟩
    obtain ⟨q', vs', t1, t2, t3, t4⟩ := r'.tyL h2
    rw [s1] at t1; cases t1
    refine ⟨_, vs', v, rfl, rfl, t2, by rw [t3.length, sizeLine_eq]; exact hl, ?_⟩
    exact (k.ext e').go (r'.ownSet (owned_some h2) s1 (t3.append (.cons hv .nil))) .non
  · cases h3
theorem e_extend {m : M O} (i : Nat) (he : DO X e m) (hN : X.N[i]? = some x := by rfl) (hv : Vis X.env.scope x := by first | exact Or.inl rfl | exact Or.inr (Or.inl rfl) | exact Or.inr (Or.inr rfl)) (hd : (x == ("__debug__" : Str)) = false := by decide)
    (hcd : (x == ("__classdict__" : Str)) = false := by decide) (hbase : attributeBase (.Name x px) "extend" X.env (eval (.Name x px) X.env) = eval (.Name x px) X.env := by rfl)
    (hfew : ((backTo cpos (starEach [e] X.env)).all (fun x => !x.1) && (backToKw cpos (keywordEach [] X.env)).all (fun x => x.1.isSome) && decide ([e].length + ([] : List Keyword).length + (if ([] : List Keyword).isEmpty then 0 else 1) < 30)) = true := by rfl)
    (hline : (apos.endLine == cpos.line) = true := by rfl) (hs : starEach [e] X.env = (false, eval e X.env) :: starEach [] X.env := by rfl) (hplain : (backTo cpos (starEach [] X.env)).any (·.1) = false := by rfl) :
    DE X (.Call (.Attribute (.Name x px) "extend" apos) [e] [] cpos) (mExt i m) := by
  obtain ⟨t, p, o⟩ := he.ex
  refine ⟨_, pe_bm PySem.F.plainAttrs_list PySem.F.slot_list_extend PySem.F.type_list_extend mt_extend (pv i hN hv hd hcd) (pa_cons p pa_nil hs) hbase hfew hline hs hplain, fun c B σ H μ d μ' Q r hm k => ?_⟩
  unfold mExt at hm
  simp only [Option.bind_eq_some_iff] at hm
  obtain ⟨ds0, h0, ⟨d1, μ1⟩, h1, ds, h2, e1, h3, h4⟩ := hm
  split at h4
  · split at h4
    · rename_i es hl
      cases h4
      obtain ⟨q, vs, s1, s2, s3, s4⟩ := r.tyL h0
      refine ⟨_, s1, s4, o c B σ H μ d1 μ1 _ r h1 fun B' H' v e' r' hv => ?_⟩
      obtain ⟨q', vs', t1, t2, t3, t4⟩ := r'.tyL h2
      rw [s1] at t1; cases t1
      obtain ⟨b, us, rfl, u1, u2⟩ := (look_ok r' hv h3).list r'.r0.ext
      refine ⟨_, b, vs', us, rfl, rfl, t2, u1, by rw [t3.length, u2.length, sizeLine_eq]; exact hl, ?_⟩
      exact (k.ext e').go (r'.ownSet (owned_some h2) s1 (t3.append u2)) .non
    · cases h4
  · cases h4
theorem e_pop (i : Nat) (hN : X.N[i]? = some x := by rfl) (hv : Vis X.env.scope x := by first | exact Or.inl rfl | exact Or.inr (Or.inl rfl) | exact Or.inr (Or.inr rfl)) (hd : (x == ("__debug__" : Str)) = false := by decide)
    (hcd : (x == ("__classdict__" : Str)) = false := by decide) (hbase : attributeBase (.Name x px) "pop" X.env (eval (.Name x px) X.env) = eval (.Name x px) X.env := by rfl) (hline : (apos.endLine == cpos.line) = true := by rfl) :
    DE X (.Call (.Attribute (.Name x px) "pop" apos) [] [] cpos) (mPop i) := by
  refine ⟨_, pe_bm0 PySem.F.plainAttrs_list PySem.F.slot_list_pop PySem.F.type_list_pop mt_pop (pv i hN hv hd hcd) hbase hline, fun c B σ H μ d μ' Q r hm k => ?_⟩
  unfold mPop at hm
  simp only [Option.bind_eq_some_iff] at hm
  obtain ⟨ds, h0, d1, h1, h3⟩ := hm
  cases h3
  obtain ⟨q, vs, s1, s2, s3, s4⟩ := r.tyL h0
  obtain ⟨v, g1, g2⟩ := s3.get h1
  refine ⟨_, s1, s4, q, vs, v, rfl, rfl, s2, by rw [s3.length]; exact g1, ?_⟩
  exact k.go (r.ownSet (owned_some h0) s1 s3.dropLast) g2
theorem e_popAt {m : M D} (i : Nat) (he : DE X e m) (hN : X.N[i]? = some x := by rfl) (hv : Vis X.env.scope x := by first | exact Or.inl rfl | exact Or.inr (Or.inl rfl) | exact Or.inr (Or.inr rfl)) (hd : (x == ("__debug__" : Str)) = false := by decide)
    (hcd : (x == ("__classdict__" : Str)) = false := by decide) (hbase : attributeBase (.Name x px) "pop" X.env (eval (.Name x px) X.env) = eval (.Name x px) X.env := by rfl)
    (hfew : ((backTo cpos (starEach [e] X.env)).all (fun x => !x.1) && (backToKw cpos (keywordEach [] X.env)).all (fun x => x.1.isSome) && decide ([e].length + ([] : List Keyword).length + (if ([] : List Keyword).isEmpty then 0 else 1) < 30)) = true := by rfl)
    (hline : (apos.endLine == cpos.line) = true := by rfl) (hs : starEach [e] X.env = (false, eval e X.env) :: starEach [] X.env := by rfl) (hplain : (backTo cpos (starEach [] X.env)).any (·.1) = false := by rfl) :
    DE X (.Call (.Attribute (.Name x px) "pop" apos) [e] [] cpos) (mPopAt i m) := by
  obtain ⟨t, p, o⟩ := he.ex
  refine ⟨_, pe_bm PySem.F.plainAttrs_list PySem.F.slot_list_pop PySem.F.type_list_pop mt_popAt (pv i hN hv hd hcd) (pa_cons p pa_nil hs) hbase hfew hline hs hplain, fun c B σ H μ d μ' Q r hm k => ?_⟩
  unfold mPopAt at hm
  simp only [Option.bind_eq_some_iff] at hm
  obtain ⟨ds0, h0, ⟨d1, μ1⟩, h1, ds, h2, h3⟩ := hm
  split at h3
  · split at h3
    · rename_i j hd1 hj
      simp only [Option.bind_eq_some_iff] at h3
      obtain ⟨n, h4, z, h5, h6⟩ := h3
      cases h6
      have hd1' : d1 = .int j := hd1
      subst hd1'
      obtain ⟨q, vs, s1, s2, s3, s4⟩ := r.tyL h0
      refine ⟨_, s1, s4, o c B σ H μ _ μ1 _ r h1 fun B' H' v e' r' hv => ?_⟩
      cases hv
      obtain ⟨q', vs', t1, t2, t3, t4⟩ := r'.tyL h2
      rw [s1] at t1; cases t1
      obtain ⟨v, g1, g2⟩ := t3.get h5
      refine ⟨_, vs', j, n, v, rfl, rfl, t2, hj.1, hj.2, by rw [t3.length]; exact h4, g1, ?_⟩
      exact (k.ext e').go (r'.ownSet (owned_some h2) s1 (t3.erase n)) g2
    · cases h3
  · cases h3
end

/-! ### calls of defs -/
abbrev FM := List D → Dr → Option (D × Dr)
/-- what a def promises: it tells its mirror's value -/
def spM (K : PySem.W.Frag) (n : Nat) (f : FM) : Sp := fun vs H Q _ => vs.length = n ∧ ∃ (st : Option (Addr × Addr)) (B : Hp) (ds : List D) (dr : Dr) (d : D) (dr' : Dr), Rel0 ⟨st, H, B⟩ B H dr ∧ RpA K st B vs ds ∧ f ds dr = some (d, dr') ∧
  ∀ B' H' v, Ext B B' → Rel0 ⟨st, H, B⟩ B' H' dr' → Rp K st B' v d → Q v H'
def frz1 (μ : MS) : O → MS
  | .v _ => μ
  | .s i => match μ.sl[i]? with
    | some (.ow o) => setS μ i (.val o.dat)
    | _ => μ
def frzA : List O → MS → MS
  | [], μ => μ
  | o :: os, μ => frzA os (frz1 μ o)
def mCallU (f : FM) (ma : M (List O)) : M D := fun μ => (ma μ).bind fun p => (looks p.1 p.2).bind fun ds => (f ds p.2.dr).bind fun z => some (z.1, if flat z.1 = true then { p.2 with dr := z.2 } else { frzA p.1 p.2 with dr := z.2 })
section
variable {K : PySem.W.Frag} {c : C} {B H : Hp} {σ : St}
theorem frz1_look {μ : MS} {o o' : O} : look o' (frz1 μ o) = look o' μ := by
  cases o with
  | v d => rfl
  | s i =>
    unfold frz1
    simp only
    split
    · rename_i ds hs
      cases o' with
      | v d => rfl
      | s j =>
        unfold look setS
        by_cases hij : i = j
        · subst hij
          have hl : i < μ.sl.length := (List.getElem?_eq_some_iff.mp hs).1
          simp only [List.getElem?_set_self hl, hs]
        · simp only [List.getElem?_set_ne hij]
    · rfl
theorem frz1_looks {μ : MS} {o : O} : ∀ os : List O, looks os (frz1 μ o) = looks os μ
  | [] => rfl
  | o' :: os => by simp only [looks, frz1_look, frz1_looks os]
theorem frz1_dr {μ : MS} {o : O} : (frz1 μ o).dr = μ.dr := by
  cases o with
  | v d => rfl
  | s i =>
    unfold frz1
    simp only
    split <;> rfl
theorem frzA_dr : ∀ (os : List O) (μ : MS), (frzA os μ).dr = μ.dr
  | [], μ => rfl
  | o :: os, μ => by rw [frzA, frzA_dr os, frz1_dr]
/-- the lists of ours among the operands are known from now on -/
theorem frz1_ok {μ : MS} (r : Rel K c B σ H μ) {v : V} {o : O} {d : D} (h : OR K c.st B σ v o) (hl : look o μ = some d) :
    ∃ B', Ext B B' ∧ Rel K c B' σ H (frz1 μ o) ∧ Rp K c.st B' v d := by
  cases o with
  | v d' => cases hl; exact ⟨B, Ext.refl _, r, h⟩
  | s i =>
    have h' : σ[i]? = some (some v) := h
    simp only [look] at hl
    unfold frz1
    simp only
    split at hl
    · rename_i d' hs
      cases hl
      obtain ⟨v', e1, e2⟩ := r.valAt hs
      rw [h'] at e1; cases e1
      simp only [hs]
      exact ⟨B, Ext.refl _, r, e2⟩
    · rename_i ds hs
      cases hl
      obtain ⟨p, vs, e1, e2, e3, e4, e5, e6⟩ := r.owVal hs
      rw [h'] at e1; cases e1
      simp only [hs]
      exact ⟨_, e4, e6, e5⟩
    · cases hl
theorem frzA_ok : ∀ {os : List O} {vs : List V} {ds : List D} {B : Hp} {μ : MS}, Rel K c B σ H μ → ORA K c.st B σ vs os → looks os μ = some ds → ∃ B', Ext B B' ∧ Rel K c B' σ H (frzA os μ) ∧ RpA K c.st B' vs ds
  | _, _, _, B, μ, r, .nil, e => by cases e; exact ⟨B, Ext.refl _, r, .nil⟩
  | _, _, _, B, μ, r, .cons (o := o) (os := os) h t, e => by
    simp only [looks, Option.bind_eq_some_iff] at e
    obtain ⟨d, h1, ds, h2, h3⟩ := e
    cases h3
    obtain ⟨B1, e1, r1, p1⟩ := frz1_ok r h h1
    obtain ⟨B2, e2, r2, p2⟩ := frzA_ok r1 (t.mono e1) ((frz1_looks os).trans h2)
    exact ⟨B2, e1.trans e2, r2, .cons (p1.mono e2) p2⟩
end
section
variable {X : Cx} {CX : CXT} {k : Nat} {f : Addr} {fd : FuncData} {ps : List Str} {x : Str} {p pos : Pos} {e : Expr} {es : List Expr} {m : M (List O)} {fm : FM} {E : XK}
theorem ok_callU {n : Nat} {t : TA} (h : OkA X.K t m) (hl : ∀ μ os μ', m μ = some (os, μ') → os.length = n) : OkE X.K (tCall (spM X.K n fm) [] E t) (mCallU fm m) := by
  intro c B σ H μ d μ' Q r hm kk
  unfold mCallU at hm
  simp only [Option.bind_eq_some_iff] at hm
  obtain ⟨⟨os, μ1⟩, h1, ds, h2, ⟨d1, dr1⟩, h3, h4⟩ := hm
  cases h4
  refine h c B σ H μ os μ1 _ r h1 fun B1 H1 vs e1 r1 hv => ?_
  obtain ⟨B2, e2, r2, hvs⟩ := frzA_ok r1 hv h2
  have lenV : vs.length = n := by
    have a1 : ∀ {vs : List V} {os : List O}, ORA X.K c.st B1 σ vs os → vs.length = os.length := by
      intro vs os h
      induction h with
      | nil => rfl
      | cons _ _ ih => simp [ih]
    rw [a1 hv]; exact hl _ _ _ h1
  rw [show vs ++ ([] : List V) = vs from List.append_nil vs]
  have dr2 : Rel0 ⟨c.st, H1, B2⟩ B2 H1 μ1.dr := by
    have q := r2.r0
    rw [frzA_dr] at q
    refine ⟨q.ext, fun a b e => ?_, fun a o e _ => e, fun a o e => .inl e, Ext.refl _⟩
    obtain ⟨z1, z2, z3, z4, z5, z6, z7⟩ := q.dr a b e
    exact ⟨z1, z2, z3, z4, z5, (fun z => by rw [show H1 a = none from z] at z2; cases z2), (fun z => by rw [show H1 b = none from z] at z3; cases z3)⟩
  refine ⟨lenV, c.st, B2, ds, μ1.dr, d1, dr1, dr2, hvs, h3, fun B3 H3 v e3 r3 hv3 => ?_⟩
  -- back to the caller
  have noSt : ∀ a, (∃ o, H1 a = some o) → B2 a = none → B3 a = none := fun a ⟨o, ho⟩ hb => by
    cases q : B3 a with
    | none => rfl
    | some u =>
      rcases r3.nw a u q with z | z
      · have z' : B2 a = some u := z
        rw [hb] at z'; cases z'
      · have z' : H1 a = none := z
        rw [ho] at z'; cases z'
  have isSt : ∀ a, IsSt ⟨c.st, H1, B2⟩ a → IsSt c a := fun a s => s
  have r0' : Rel0 c B3 H3 dr1 := by
    refine ⟨r3.ext, fun a b e => ?_, fun a o e s => ?_, fun a o e => ?_, (r2.r0.b0).trans e3⟩
    · obtain ⟨z1, z2, z3, z4, z5, z6, z7⟩ := r3.dr a b e
      obtain ⟨y1, y2, y3, y4, y5, y6, y7⟩ := r1.r0.dr a b e
      exact ⟨z1, z2, z3, z4, z5, y6, y7⟩
    · exact r3.fr a o (r1.r0.fr a o e s) fun z => s (isSt a z)
    · rcases r3.nw a o e with z | z
      · exact r2.r0.nw a o z
      · exact .inr (r1.r0.fresh z).1
  have own1 : ∀ {μ2 : MS} {B' : Hp}, Rel X.K c B' σ H1 μ2 → (Ext B' B2) → ∀ (i : Nat) (ds : Ob) (q : Addr), μ2.sl[i]? = some (.ow ds) → σ[i]? = some (some (.ref q)) → H3 q = H1 q := fun {μ2 B'} rr _ i ds q hi hs => by
    obtain ⟨q', ws, f1, f2, f3, f4, f5⟩ := rr.owAt hi
    rw [hs] at f1; cases f1
    rw [f2]
    exact r3.fr q _ f2 fun z => by
      obtain ⟨_, _, zz⟩ := (isSt q z).some rr.r0.dr
      exact zz f4
  by_cases hf : flat d1 = true
  · rw [if_pos hf] at kk
    refine kk B1 H3 v e1 ?_ (hv3.flat_any hf)
    refine r1.move ⟨(e2.trans e3).trans r3.ext, fun a b e => ?_, r0'.fr, r1.r0.nw, r1.r0.b0⟩ (Ext.refl _) fun i ds q hi hs => ⟨own1 r1 e2 i ds q hi hs, ?_⟩
    · obtain ⟨z1, z2, z3, z4, z5, z6, z7⟩ := r0'.dr a b e
      exact ⟨z1, z2, z3, (e2.trans e3).none z4, (e2.trans e3).none z5, z6, z7⟩
    · obtain ⟨q', ws, f1, f2, f3, f4, f5⟩ := r1.owAt hi
      rw [hs] at f1; cases f1
      exact f3
  · rw [if_neg hf] at kk
    refine kk B3 H3 v ((e1.trans e2).trans e3) ?_ hv3
    refine r2.move r0' e3 fun i ds q hi hs => ⟨own1 r2 (Ext.refl _) i ds q hi hs, ?_⟩
    obtain ⟨q', ws, f1, f2, f3, f4, f5⟩ := r2.owAt hi
    rw [hs] at f1; cases f1
    exact noSt q ⟨_, f2⟩ f3
def lenOf (es : List Expr) : Nat := es.length
theorem aNil_len : ∀ (μ : MS) (os : List O) (μ' : MS), aNil μ = some (os, μ') → os.length = 0 := fun μ os μ' h => by cases h; rfl
theorem aCons_len {a : M O} {n : M (List O)} {k : Nat} (h : ∀ (μ : MS) (os : List O) (μ' : MS), n μ = some (os, μ') → os.length = k) : ∀ (μ : MS) (os : List O) (μ' : MS), aCons a n μ = some (os, μ') → os.length = k + 1 := fun μ os μ' hm => by
  unfold aCons at hm
  simp only [Option.bind_eq_some_iff] at hm
  obtain ⟨⟨o, μ1⟩, h1, ⟨os2, μ2⟩, h2, h3⟩ := hm
  cases h3
  simp [h _ _ _ h2]
/-- f(e, ..) -/
theorem e_callU {n : Nat} (F : FnOk X.prog X.w X.K X.mg X.base CX k f fd ps (spM X.K n fm)) (hr : Room k X.A) (hm : X.mg x = some (.ref f)) (hk : PySem.W.keepIn X.K (.ref f) = true) (hb : Binds X.K fd ps []) (hx : Passes CX X E)
    (ha : DA X (e :: es) m) (hl : ∀ (μ : MS) (os : List O) (μ' : MS), m μ = some (os, μ') → os.length = n) (hg : Gl X x := by rfl) (hdb : (x == ("__debug__" : Str)) = false := by decide) (he : starEach (e :: es) X.env = (false, eval e X.env) :: starEach es X.env := by rfl) (hpl : (backTo pos (starEach es X.env)).any (·.1) = false := by rfl) :
    DE X (.Call (.Name x p) (e :: es) [] pos) (mCallU fm m) := by
  obtain ⟨t, pt, o⟩ := ha.ex
  exact ⟨_, pe_call F hr hg hm hk hb .nil hx pt hdb he hpl, ok_callU o hl⟩
/-- a def, from its body -/
def fnM (n : Nat) (body : MT) : FM := fun ds dr => match body ⟨ds.map Sl.val ++ List.replicate (n - ds.length) Sl.un, dr⟩ with
  | .nx μ => some (.none, μ.dr)
  | .rt d dr' => some (d, dr')
  | _ => none
theorem start_rel {K : PySem.W.Frag} {c : C} {B H : Hp} {dr : Dr} {N : List Str} {vs : List V} {ds : List D} (r : Rel0 c B H dr) (h : RpA K c.st B vs ds) (hl : vs.length ≤ N.length) :
    Rel K c B (L2.start N vs) H ⟨ds.map Sl.val ++ List.replicate (N.length - ds.length) Sl.un, dr⟩ := by
  have hlen := h.length
  have key : ∀ (i : Nat) (s : Sl), (ds.map Sl.val ++ List.replicate (N.length - ds.length) Sl.un)[i]? = some s → s = .un ∨ ∃ d, s = .val d ∧ ds[i]? = some d := fun i s hs => by
    by_cases hi : i < ds.length
    · rw [List.getElem?_append_left (by simpa using hi), List.getElem?_map] at hs
      obtain ⟨d, hd⟩ : ∃ d, ds[i]? = some d := ⟨ds[i], by simp [hi]⟩
      rw [hd] at hs; cases hs
      exact .inr ⟨d, rfl, hd⟩
    · rw [List.getElem?_append_right (by simpa using hi), List.getElem?_replicate] at hs
      split at hs
      · cases hs; exact .inl rfl
      · cases hs
  refine ⟨r, ?_, fun i s hs => ?_, fun i j di dj _ hi _ => ?_⟩
  · unfold L2.start
    simp
    omega
  · rcases key i s hs with rfl | ⟨d, rfl, hd⟩
    · trivial
    · obtain ⟨v, h1, h2⟩ := h.get hd
      refine ⟨v, ?_, h2⟩
      unfold L2.start
      have hi : i < vs.length := (List.getElem?_eq_some_iff.mp h1).1
      rw [List.getElem?_append_left (by simpa using hi), List.getElem?_map, h1]
      rfl
  · rcases key i _ hi with e | ⟨d, e, _⟩
    · cases e
    · cases e
theorem fn_ok {P : Program} {w : World} {K : PySem.W.Frag} {mg : Str → Option Value} {base : Heap} {qual : Str} {st : Stmt} {N : List Str} {body : MT} (F : Fun K x qual st f fd) (S : FnScope N ps (defScope st)) (hN : ps.length ≤ N.length)
    (h : ∀ (cdv : Value) (A : Around) (outer : List Env) (s : Shared) (H : Hp) (E : XK), Room k (A.deeper (envOfC qual (defScope st) s.heap.objs.size f cdv)) → DSs (cxOf CX0 P w K mg base N qual (defScope st) f cdv A outer s H E).nox (defBody st) body) :
    FnOk P w K mg base CX0 (k + 1) f fd ps (spM K ps.length (fnM N.length body)) := by
  refine F.ok S (fun vs H Q E h => h.1) fun cdv A outer s H vs Q E hr hsp => ?_
  obtain ⟨t, pt, o⟩ := (h cdv A outer s H E hr).ex
  refine ⟨t, pt, ?_⟩
  obtain ⟨hlen, sst, B, ds, dr, d, dr', r0, hv, hm, k⟩ := hsp
  refine o ⟨sst, H, B⟩ B _ H _ _ (start_rel r0 hv (by omega)) ?_
  unfold fnM at hm
  split at hm
  · rename_i μ hb
    cases hm
    rw [hb]
    exact fun B' σ' H' e' r' => k B' H' _ e' r'.r0 .non
  · rename_i d2 dr2 hb
    cases hm
    rw [hb]
    exact fun B' H' v e' r' hv' => k B' H' v e' r' hv'
  · cases hm
end
end Mi
/-! Mi, sixth part: built-ins, stores into lists of our own. -/
namespace Mi
open PySem PySem.Spec PyProof.Rows L2

def lenD : List D → Option D
  | [.list ds] => some (.int ds.length)
  | [.tuple ds] => some (.int ds.length)
  | [.str x] => if x.length ≤ lineN then some (.int x.length) else none
  | _ => none
def listF : List D → Option (List D)
  | [.list ds] => some ds
  | [.tuple ds] => some ds
  | _ => none
def tupD : List D → Option D
  | [.list ds] => some (.tuple ds)
  | [.tuple ds] => some (.tuple ds)
  | _ => none
def absD : List D → Option D
  | [.int i] => some (.int (if i < 0 then -i else i))
  | _ => none
def intD : List D → Option D
  | [.int i] => some (.int i)
  | [.bool k] => some (.int (if k then 1 else 0))
  | _ => none
def ints? : List D → Option (List Int)
  | [] => some []
  | .int i :: ds => (ints? ds).bind fun ns => some (i :: ns)
  | _ :: _ => none
theorem ints?_some : ∀ {ds : List D} {ns : List Int}, ints? ds = some ns → ds = ns.map PyData.int
  | [], _, h => by cases h; rfl
  | d :: ds, ns, h => by
    cases d <;> simp only [ints?] at h <;> try cases h
    simp only [Option.bind_eq_some_iff] at h
    obtain ⟨ms, h1, h2⟩ := h
    cases h2
    rw [ints?_some h1]
    rfl
@[simp] theorem ints?_map : ∀ ns : List Int, ints? (ns.map PyData.int) = some ns
  | [] => rfl
  | n :: ns => by simp only [List.map_cons, ints?, ints?_map ns, Option.bind_some]
def bools? : List D → Option (List Bool)
  | [] => some []
  | .bool i :: ds => (bools? ds).bind fun ns => some (i :: ns)
  | _ :: _ => none
theorem bools?_some : ∀ {ds : List D} {ns : List Bool}, bools? ds = some ns → ds = ns.map PyData.bool
  | [], _, h => by cases h; rfl
  | d :: ds, ns, h => by
    cases d <;> simp only [bools?] at h <;> try cases h
    simp only [Option.bind_eq_some_iff] at h
    obtain ⟨ms, h1, h2⟩ := h
    cases h2
    rw [bools?_some h1]
    rfl
@[simp] theorem bools?_map : ∀ ns : List Bool, bools? (ns.map PyData.bool) = some ns
  | [] => rfl
  | n :: ns => by simp only [List.map_cons, bools?, bools?_map ns, Option.bind_some]
def strs? : List D → Option (List Str)
  | [] => some []
  | .str i :: ds => (strs? ds).bind fun ns => some (i :: ns)
  | _ :: _ => none
theorem strs?_some : ∀ {ds : List D} {ns : List Str}, strs? ds = some ns → ds = ns.map PyData.str
  | [], _, h => by cases h; rfl
  | d :: ds, ns, h => by
    cases d <;> simp only [strs?] at h <;> try cases h
    simp only [Option.bind_eq_some_iff] at h
    obtain ⟨ms, h1, h2⟩ := h
    cases h2
    rw [strs?_some h1]
    rfl
@[simp] theorem strs?_map : ∀ ns : List Str, strs? (ns.map PyData.str) = some ns
  | [] => rfl
  | n :: ns => by simp only [List.map_cons, strs?, strs?_map ns, Option.bind_some]
/-- the greatest, the least of a row that is not empty -/
def maxL : List Int → Int
  | [] => 0
  | a :: r => r.foldl (fun m b => if b > m then b else m) a
def minL : List Int → Int
  | [] => 0
  | a :: r => r.foldl (fun m b => if b < m then b else m) a
theorem maxF_spec : ∀ (r : List Int) (a : Int), (r.foldl (fun m b => if b > m then b else m) a = a ∨ r.foldl (fun m b => if b > m then b else m) a ∈ r) ∧ a ≤ r.foldl (fun m b => if b > m then b else m) a ∧ ∀ y ∈ r, y ≤ r.foldl (fun m b => if b > m then b else m) a
  | [], a => ⟨.inl rfl, Int.le_refl _, fun _ h => by cases h⟩
  | b :: r, a => by
    obtain ⟨h1, h2, h3⟩ := maxF_spec r (if b > a then b else a)
    refine ⟨?_, ?_, ?_⟩
    · rcases h1 with h1 | h1
      · by_cases hb : b > a
        · rw [if_pos hb] at h1
          exact .inr (by rw [List.foldl_cons, if_pos hb, h1]; exact List.mem_cons_self)
        · rw [if_neg hb] at h1
          exact .inl (by rw [List.foldl_cons, if_neg hb, h1])
      · exact .inr (by rw [List.foldl_cons]; exact List.mem_cons_of_mem _ h1)
    · rw [List.foldl_cons]
      refine Int.le_trans ?_ h2
      split <;> omega
    · intro y hy
      rw [List.foldl_cons]
      rcases List.mem_cons.mp hy with rfl | hy
      · refine Int.le_trans ?_ h2
        split <;> omega
      · exact h3 y hy
theorem minF_spec : ∀ (r : List Int) (a : Int), (r.foldl (fun m b => if b < m then b else m) a = a ∨ r.foldl (fun m b => if b < m then b else m) a ∈ r) ∧ r.foldl (fun m b => if b < m then b else m) a ≤ a ∧ ∀ y ∈ r, r.foldl (fun m b => if b < m then b else m) a ≤ y
  | [], a => ⟨.inl rfl, Int.le_refl _, fun _ h => by cases h⟩
  | b :: r, a => by
    obtain ⟨h1, h2, h3⟩ := minF_spec r (if b < a then b else a)
    refine ⟨?_, ?_, ?_⟩
    · rcases h1 with h1 | h1
      · by_cases hb : b < a
        · rw [if_pos hb] at h1
          exact .inr (by rw [List.foldl_cons, if_pos hb, h1]; exact List.mem_cons_self)
        · rw [if_neg hb] at h1
          exact .inl (by rw [List.foldl_cons, if_neg hb, h1])
      · exact .inr (by rw [List.foldl_cons]; exact List.mem_cons_of_mem _ h1)
    · rw [List.foldl_cons]
      refine Int.le_trans h2 ?_
      split <;> omega
    · intro y hy
      rw [List.foldl_cons]
      rcases List.mem_cons.mp hy with rfl | hy
      · refine Int.le_trans h2 ?_
        split <;> omega
      · exact h3 y hy
theorem maxL_mem {ns : List Int} (h : 0 < ns.length) : maxL ns ∈ ns := by
  cases ns with
  | nil => cases h
  | cons a r =>
    rcases (maxF_spec r a).1 with e | e
    · show r.foldl _ a ∈ _; rw [e]; exact List.mem_cons_self
    · exact List.mem_cons_of_mem _ e
theorem maxL_ge {ns : List Int} {y : Int} (h : y ∈ ns) : y ≤ maxL ns := by
  cases ns with
  | nil => cases h
  | cons a r =>
    rcases List.mem_cons.mp h with rfl | h
    · exact (maxF_spec r y).2.1
    · exact (maxF_spec r a).2.2 y h
theorem minL_mem {ns : List Int} (h : 0 < ns.length) : minL ns ∈ ns := by
  cases ns with
  | nil => cases h
  | cons a r =>
    rcases (minF_spec r a).1 with e | e
    · show r.foldl _ a ∈ _; rw [e]; exact List.mem_cons_self
    · exact List.mem_cons_of_mem _ e
theorem minL_le {ns : List Int} {y : Int} (h : y ∈ ns) : minL ns ≤ y := by
  cases ns with
  | nil => cases h
  | cons a r =>
    rcases List.mem_cons.mp h with rfl | h
    · exact (minF_spec r y).2.1
    · exact (minF_spec r a).2.2 y h
theorem maxL_eq {ns : List Int} {m : Int} (h1 : m ∈ ns) (h2 : ∀ y ∈ ns, y ≤ m) : m = maxL ns :=
  Int.le_antisymm (maxL_ge h1) (h2 _ (maxL_mem (List.length_pos_of_mem h1)))
theorem minL_eq {ns : List Int} {m : Int} (h1 : m ∈ ns) (h2 : ∀ y ∈ ns, m ≤ y) : m = minL ns :=
  Int.le_antisymm (h2 _ (minL_mem (List.length_pos_of_mem h1))) (minL_le h1)
def maxD : List D → Option D
  | [.int i, .int j] => some (.int (if j > i then j else i))
  | [.list ds] => (ints? ds).bind fun ns => if 0 < ns.length then some (.int (maxL ns)) else none
  | [.tuple ds] => (ints? ds).bind fun ns => if 0 < ns.length then some (.int (maxL ns)) else none
  | _ => none
def minD : List D → Option D
  | [.int i, .int j] => some (.int (if j < i then j else i))
  | [.list ds] => (ints? ds).bind fun ns => if 0 < ns.length then some (.int (minL ns)) else none
  | [.tuple ds] => (ints? ds).bind fun ns => if 0 < ns.length then some (.int (minL ns)) else none
  | _ => none
def sumD : List D → Option D
  | [.list ds] => (ints? ds).bind fun ns => some (.int ns.sum)
  | [.tuple ds] => (ints? ds).bind fun ns => some (.int ns.sum)
  | _ => none
def anyD : List D → Option D
  | [.list ds] => (bools? ds).bind fun bs => some (.bool (bs.any id))
  | _ => none
def allD : List D → Option D
  | [.list ds] => (bools? ds).bind fun bs => some (.bool (bs.all id))
  | _ => none
section
variable {X : Cx}
theorem k_len : CallG X.K (fun xs H Q => ∃ x n, xs = [x] ∧ LenV X.K x H n ∧ Q (.int n) H) lenD := by
  intro c B σ H μ xs ds z Q r h hz k
  unfold lenD at hz
  split at hz
  · cases hz
    obtain ⟨x, rfl, hx⟩ := lka1 h
    obtain ⟨p, vs, rfl, h1, h2⟩ := hx.list r.r0.ext
    exact ⟨_, _, rfl, .inl ⟨vs, SqL.of h1, h2.length.symm⟩, k.go r (.int _)⟩
  · cases hz
    obtain ⟨x, rfl, hx⟩ := lka1 h
    obtain ⟨p, vs, rfl, h1, h1', h2⟩ := hx.tuple r.r0.ext
    exact ⟨_, _, rfl, .inr ⟨vs, h1, h2.length.symm⟩, k.go r (.int _)⟩
  · split at hz
    · rename_i hl
      cases hz
      obtain ⟨x, rfl, hx⟩ := lka1 h
      rw [hx.str]
      exact ⟨_, _, rfl, ⟨by rw [sizeLine_eq]; exact hl, rfl⟩, k.go r (.int _)⟩
    · cases hz
  · cases hz
theorem k_list : CallF X.K (fun xs H Q => ∃ p ys, xs = [.ref p] ∧ (SqL X.K H p ys ∨ SqT X.K H p ys) ∧ ∀ l, H l = none → Q (.ref l) (upd H l (.lst ys))) listF := by
  intro c B σ H μ xs ds z Q r h hz k
  unfold listF at hz
  split at hz
  · cases hz
    obtain ⟨x, rfl, hx⟩ := lka1 h
    obtain ⟨p, vs, rfl, h1, h2⟩ := hx.list r.r0.ext
    exact ⟨p, vs, rfl, .inl (SqL.of h1), fun l hl => k l vs hl h2⟩
  · cases hz
    obtain ⟨x, rfl, hx⟩ := lka1 h
    obtain ⟨p, vs, rfl, h1, h1', h2⟩ := hx.tuple r.r0.ext
    exact ⟨p, vs, rfl, .inr h1, fun l hl => k l vs hl h2⟩
  · cases hz
theorem k_tup : CallG X.K (fun xs H Q => ∃ p ys, xs = [.ref p] ∧ ((SqL X.K H p ys ∧ ∀ l, H l = none → Q (.ref l) (upd H l (.tup ys))) ∨ (SqT X.K H p ys ∧ Q (.ref p) H))) tupD := by
  intro c B σ H μ xs ds z Q r h hz k
  unfold tupD at hz
  split at hz
  · cases hz
    obtain ⟨x, rfl, hx⟩ := lka1 h
    obtain ⟨p, vs, rfl, h1, h2⟩ := hx.list r.r0.ext
    exact ⟨p, vs, rfl, .inl ⟨SqL.of h1, fun l hl => k.tup r h2 hl⟩⟩
  · cases hz
    obtain ⟨x, rfl, hx⟩ := lka1 h
    obtain ⟨p, vs, rfl, h1, h1', h2⟩ := hx.tuple r.r0.ext
    exact ⟨p, vs, rfl, .inr ⟨h1, k.go r (.tup h1' h2)⟩⟩
  · cases hz
theorem k_abs : CallG X.K (fun xs H Q => ∃ i, xs = [.int i] ∧ Q (.int (if i < 0 then -i else i)) H) absD := by
  intro c B σ H μ xs ds z Q r h hz k
  unfold absD at hz
  split at hz
  · cases hz
    obtain ⟨x, rfl, hx⟩ := lka1 h
    rw [hx.int]
    exact ⟨_, rfl, k.go r (.int _)⟩
  · cases hz
theorem k_int : CallG X.K (fun xs H Q => (∃ i, xs = [.int i] ∧ Q (.int i) H) ∨ ∃ k, xs = [.bl k] ∧ Q (.int (if k then 1 else 0)) H) intD := by
  intro c B σ H μ xs ds z Q r h hz k
  unfold intD at hz
  split at hz
  · cases hz
    obtain ⟨x, rfl, hx⟩ := lka1 h
    rw [hx.int]
    exact .inl ⟨_, rfl, k.go r (.int _)⟩
  · cases hz
    obtain ⟨x, rfl, hx⟩ := lka1 h
    rw [hx.bool]
    exact .inr ⟨_, rfl, k.go r (.int _)⟩
  · cases hz
end
theorem CallR.or {X : Cx} {f : Value} {r r' : List V → Hp → VK → Prop} (h : CallR X f r) (h' : CallR X f r') : CallR X f (fun xs H Q => r xs H Q ∨ r' xs H Q) := by
  intro pins s σ H xs us Q I rx q
  rcases q with q | q
  · exact h pins s σ H xs us Q I rx q
  · exact h' pins s σ H xs us Q I rx q
/-! ### sums, greatest, least ones of tuples -/
def rSumT (K : PySem.W.Frag) : List V → Hp → VK → Prop := fun vs H Q => ∃ (a : Addr) (ns : List Int), vs = [V.ref a] ∧ SqT K H a (ns.map V.int) ∧ Q (.int ns.sum) H
def rMaxT (K : PySem.W.Frag) : List V → Hp → VK → Prop := fun vs H Q => ∃ (a : Addr) (ns : List Int), vs = [V.ref a] ∧ SqT K H a (ns.map V.int) ∧ 0 < ns.length ∧ ∀ m, m ∈ ns → (∀ y, y ∈ ns → y ≤ m) → Q (.int m) H
section
variable {prog : Program} {w : World} {A : Around} {E : Value → Shared → Prop} {s : Shared} {t : Addr} {its : List Value} {ns : List Int} {Q : Value → Shared → Prop}
theorem sumT_raw (hh : A.handled = none) (ht : IsTup s.heap t its.toArray) (hi : IntsAre its ns)
    (h : ∀ h' tk t', (∀ b o, s.heap.get? b = some o → h'.get? b = some o) → Q (.int ns.sum t') { s with heap := h', toks := tk }) : wpAny (model prog w) A (call (.builtin "sum") [.ref t]) Q E s := by
  obtain ⟨xs, e⟩ := hi.allInts.items
  have hn : numsOf (intItems xs).toList = ns := by rw [← e]; exact hi.numsOf
  rw [nums_intItems] at hn
  have hl : s.heap.IsTuple t its.toArray := ht
  rw [e] at hl
  refine PySem.W.ktm_sumG hh hl fun h' tk t' hk => ?_
  have := h h' tk t' hk
  rw [preSum_eq, List.take_of_length_le (by simp), hn]; exact this
theorem maxT_raw (hh : A.handled = none) (ht : IsTup s.heap t its.toArray) (hi : IntsAre its ns) (hne : 0 < ns.length)
    (h : ∀ h' tk M t', (∀ b o, s.heap.get? b = some o → h'.get? b = some o) → M ∈ ns → (∀ a, a ∈ ns → a ≤ M) → Q (.int M t') { s with heap := h', toks := tk }) : wpAny (model prog w) A (call (.builtin "max") [.ref t]) Q E s := by
  obtain ⟨xs, e⟩ := hi.allInts.items
  have hn : numsOf (intItems xs).toList = ns := by rw [← e]; exact hi.numsOf
  rw [nums_intItems] at hn
  subst hn
  have hl : s.heap.IsTuple t its.toArray := ht
  rw [e] at hl
  have hsz : 0 < xs.size := by simpa using hne
  obtain ⟨o, ho, hc, n, hd⟩ := id hl
  have hne' : t ≠ s.heap.objs.size := Nat.ne_of_lt (Heap.lt_size ho)
  have hsz2 : (intItems xs).size = xs.size := by simp [intItems]
  refine call_max_walk (wpAny_pyIter_tuple hl ?_)
  refine ⟨_, _, _, _, _, _, _, rfl, Walks.tuple (A := A.in1) hh s.heap.objs.size t hne' (intItems xs), ⟨⟨_, Heap.get?_push_size _ rfl, rfl, rfl⟩, hl.at fun o e => Heap.get?_push_of_some _ e⟩, fun b hb => ?_, by rw [hsz2]; exact hsz, CmpOf.ints_gt (numAt xs) (fun _ _ => intItems_at), fun v h' tk hP hk => ?_⟩
  · rcases List.mem_cons.mp hb with rfl | hb
    · exact Heap.lt_size (Heap.get?_push_size _ rfl)
    · obtain rfl := List.mem_singleton.mp hb
      exact Heap.lt_size (Heap.get?_push_of_some _ ho)
  · obtain ⟨t', rfl⟩ := intItems_at hP
    rw [hsz2]
    obtain ⟨h1, h2⟩ := argBest_gt (numAt xs) (xs.size - 1)
    refine h h' tk _ t' (fun b o e => hk b o (fun hb => absurd (Heap.lt_size e) ((List.mem_singleton.mp hb) ▸ Nat.lt_irrefl _)) (Heap.get?_push_of_some _ e)) ?_ fun a ha => ?_
    · rw [numAt_eq]; exact PySem.getD_mem (by rw [List.length_map, Array.length_toList]; omega)
    · obtain ⟨j, hj, rfl⟩ := mem_getD ha
      rw [List.length_map, Array.length_toList] at hj
      rw [← numAt_eq]; exact h2 j (by omega)
end
section
variable {X : Cx}
theorem cr_sumT (hc : X.calm = true) : CallR X (.builtin "sum") (rSumT X.K) := by
  intro pins s σ H vs us Q I r h
  obtain ⟨a, ns, rfl, hs, q⟩ := h
  obtain ⟨its, rv, hl, _⟩ := I.tuple hs
  rw [Vals.ref1 r]
  exact sumT_raw (I.ok.hd hc) hl rv.ints fun h' tk t' hk => ⟨.int _, H, I.kept hk, ⟨_, rfl⟩, q⟩
theorem cr_maxT (hc : X.calm = true) : CallR X (.builtin "max") (rMaxT X.K) := by
  intro pins s σ H vs us Q I r h
  obtain ⟨a, ns, rfl, hs, hne, q⟩ := h
  obtain ⟨its, rv, hl, _⟩ := I.tuple hs
  rw [Vals.ref1 r]
  exact maxT_raw (I.ok.hd hc) hl rv.ints hne fun h' tk m t' hk h1 h2 => ⟨.int _, H, I.kept hk, ⟨_, rfl⟩, q m h1 h2⟩
theorem k_max : CallG X.K (fun xs H Q => (∃ i j, xs = [.int i, .int j] ∧ Q (.int (if j > i then j else i)) H) ∨ rMax X.K xs H Q ∨ rMaxT X.K xs H Q) maxD := by
  intro c B σ H μ xs ds z Q r h hz k
  unfold maxD at hz
  split at hz
  · cases hz
    obtain ⟨x, y, rfl, hx, hy⟩ := lka2 h
    rw [hx.int, hy.int]
    exact .inl ⟨_, _, rfl, k.go r (.int _)⟩
  · simp only [Option.bind_eq_some_iff] at hz
    obtain ⟨ns, h1, h2⟩ := hz
    split at h2
    · rename_i hn
      cases h2
      obtain ⟨x, rfl, hx⟩ := lka1 h
      obtain ⟨p, vs, rfl, h3, h4⟩ := hx.list r.r0.ext
      rw [ints?_some h1] at h4
      refine .inr (.inl ⟨p, ns, rfl, ?_, hn, fun m hm hall => ?_⟩)
      · rw [← h4.ints]; exact SqL.of h3
      · rw [maxL_eq hm hall]; exact k.go r (.int _)
    · cases h2
  · simp only [Option.bind_eq_some_iff] at hz
    obtain ⟨ns, h1, h2⟩ := hz
    split at h2
    · rename_i hn
      cases h2
      obtain ⟨x, rfl, hx⟩ := lka1 h
      obtain ⟨p, vs, rfl, h3, h3', h4⟩ := hx.tuple r.r0.ext
      rw [ints?_some h1] at h4
      refine .inr (.inr ⟨p, ns, rfl, ?_, hn, fun m hm hall => ?_⟩)
      · rw [← h4.ints]; exact h3
      · rw [maxL_eq hm hall]; exact k.go r (.int _)
    · cases h2
  · cases hz
def minDL : List D → Option D
  | [.int i, .int j] => some (.int (if j < i then j else i))
  | [.list ds] => (ints? ds).bind fun ns => if 0 < ns.length then some (.int (minL ns)) else none
  | _ => none
theorem k_min : CallG X.K (fun xs H Q => (∃ i j, xs = [.int i, .int j] ∧ Q (.int (if j < i then j else i)) H) ∨ rMin X.K xs H Q) minDL := by
  intro c B σ H μ xs ds z Q r h hz k
  unfold minDL at hz
  split at hz
  · cases hz
    obtain ⟨x, y, rfl, hx, hy⟩ := lka2 h
    rw [hx.int, hy.int]
    exact .inl ⟨_, _, rfl, k.go r (.int _)⟩
  · simp only [Option.bind_eq_some_iff] at hz
    obtain ⟨ns, h1, h2⟩ := hz
    split at h2
    · rename_i hn
      cases h2
      obtain ⟨x, rfl, hx⟩ := lka1 h
      obtain ⟨p, vs, rfl, h3, h4⟩ := hx.list r.r0.ext
      rw [ints?_some h1] at h4
      refine .inr ⟨p, ns, rfl, ?_, hn, fun m hm hall => ?_⟩
      · rw [← h4.ints]; exact SqL.of h3
      · rw [minL_eq hm hall]; exact k.go r (.int _)
    · cases h2
  · cases hz
theorem k_sum : CallG X.K (fun xs H Q => rSum X.K xs H Q ∨ rSumT X.K xs H Q) sumD := by
  intro c B σ H μ xs ds z Q r h hz k
  unfold sumD at hz
  split at hz
  · simp only [Option.bind_eq_some_iff] at hz
    obtain ⟨ns, h1, h2⟩ := hz
    cases h2
    obtain ⟨x, rfl, hx⟩ := lka1 h
    obtain ⟨p, vs, rfl, h3, h4⟩ := hx.list r.r0.ext
    rw [ints?_some h1] at h4
    exact .inl ⟨p, ns, rfl, by rw [← h4.ints]; exact SqL.of h3, k.go r (.int _)⟩
  · simp only [Option.bind_eq_some_iff] at hz
    obtain ⟨ns, h1, h2⟩ := hz
    cases h2
    obtain ⟨x, rfl, hx⟩ := lka1 h
    obtain ⟨p, vs, rfl, h3, h3', h4⟩ := hx.tuple r.r0.ext
    rw [ints?_some h1] at h4
    exact .inr ⟨p, ns, rfl, by rw [← h4.ints]; exact h3, k.go r (.int _)⟩
  · cases hz
theorem k_any : CallG X.K (rAny X.K) anyD := by
  intro c B σ H μ xs ds z Q r h hz k
  unfold anyD at hz
  split at hz
  · simp only [Option.bind_eq_some_iff] at hz
    obtain ⟨ns, h1, h2⟩ := hz
    cases h2
    obtain ⟨x, rfl, hx⟩ := lka1 h
    obtain ⟨p, vs, rfl, h3, h4⟩ := hx.list r.r0.ext
    rw [bools?_some h1] at h4
    exact ⟨p, ns, rfl, by rw [← h4.bools]; exact SqL.of h3, k.go r (.bl _)⟩
  · cases hz
theorem k_all : CallG X.K (rAll X.K) allD := by
  intro c B σ H μ xs ds z Q r h hz k
  unfold allD at hz
  split at hz
  · simp only [Option.bind_eq_some_iff] at hz
    obtain ⟨ns, h1, h2⟩ := hz
    cases h2
    obtain ⟨x, rfl, hx⟩ := lka1 h
    obtain ⟨p, vs, rfl, h3, h4⟩ := hx.list r.r0.ext
    rw [bools?_some h1] at h4
    exact ⟨p, ns, rfl, by rw [← h4.bools]; exact SqL.of h3, k.go r (.bl _)⟩
  · cases hz
/-! ### as rules -/
variable {p pos : Pos} {e : Expr} {es : List Expr} {m : M (List O)}
theorem e_len (hm : X.mg "len" = none) (ha : DA X (e :: es) m) (hg : Gl X "len" := by rfl) (he : starEach (e :: es) X.env = (false, eval e X.env) :: starEach es X.env := by rfl) (hpl : (backTo pos (starEach es X.env)).any (·.1) = false := by rfl) : DE X (.Call (.Name "len" p) (e :: es) [] pos) (mCall lenD m) :=
  e_callB call_len k_len hg hm PySem.boot_len ha (by decide) (by decide) he hpl
theorem e_tuple (hm : X.mg "tuple" = none) (ha : DA X (e :: es) m) (hg : Gl X "tuple" := by rfl) (he : starEach (e :: es) X.env = (false, eval e X.env) :: starEach es X.env := by rfl) (hpl : (backTo pos (starEach es X.env)).any (·.1) = false := by rfl) : DE X (.Call (.Name "tuple" p) (e :: es) [] pos) (mCall tupD m) :=
  e_callTy call_tuple_of k_tup hg hm (by decide +kernel) ha (by decide) (by decide) he hpl
theorem f_list (hm : X.mg "list" = none) (ha : DA X (e :: es) m) (hg : Gl X "list" := by rfl) (he : starEach (e :: es) X.env = (false, eval e X.env) :: starEach es X.env := by rfl) (hpl : (backTo pos (starEach es X.env)).any (·.1) = false := by rfl) : DF X (.Call (.Name "list" p) (e :: es) [] pos) (mCall listF m) :=
  f_callTy call_list_of k_list hg hm (by decide +kernel) ha (by decide) (by decide) he hpl
theorem e_abs (hm : X.mg "abs" = none) (ha : DA X (e :: es) m) (hg : Gl X "abs" := by rfl) (he : starEach (e :: es) X.env = (false, eval e X.env) :: starEach es X.env := by rfl) (hpl : (backTo pos (starEach es X.env)).any (·.1) = false := by rfl) : DE X (.Call (.Name "abs" p) (e :: es) [] pos) (mCall absD m) :=
  e_callB call_abs k_abs hg hm (by decide +kernel) ha (by decide) (by decide) he hpl
theorem e_intc (hm : X.mg "int" = none) (ha : DA X (e :: es) m) (hg : Gl X "int" := by rfl) (he : starEach (e :: es) X.env = (false, eval e X.env) :: starEach es X.env := by rfl) (hpl : (backTo pos (starEach es X.env)).any (·.1) = false := by rfl) : DE X (.Call (.Name "int" p) (e :: es) [] pos) (mCall intD m) :=
  e_callTy call_int1 k_int hg hm (by decide +kernel) ha (by decide) (by decide) he hpl
theorem e_max (hc : X.calm = true) (hm : X.mg "max" = none) (ha : DA X (e :: es) m) (hg : Gl X "max" := by rfl) (he : starEach (e :: es) X.env = (false, eval e X.env) :: starEach es X.env := by rfl) (hpl : (backTo pos (starEach es X.env)).any (·.1) = false := by rfl) : DE X (.Call (.Name "max" p) (e :: es) [] pos) (mCall maxD m) :=
  e_callB (CallR.or (call_max2 hc) (CallR.or (cr_max hc) (cr_maxT hc))) k_max hg hm (by decide +kernel) ha (by decide) (by decide) he hpl
theorem e_min (hc : X.calm = true) (hm : X.mg "min" = none) (ha : DA X (e :: es) m) (hg : Gl X "min" := by rfl) (he : starEach (e :: es) X.env = (false, eval e X.env) :: starEach es X.env := by rfl) (hpl : (backTo pos (starEach es X.env)).any (·.1) = false := by rfl) : DE X (.Call (.Name "min" p) (e :: es) [] pos) (mCall minDL m) :=
  e_callB (CallR.or (call_min2 hc) (cr_min hc)) k_min hg hm (by decide +kernel) ha (by decide) (by decide) he hpl
theorem e_sum (hc : X.calm = true) (hm : X.mg "sum" = none) (ha : DA X (e :: es) m) (hg : Gl X "sum" := by rfl) (he : starEach (e :: es) X.env = (false, eval e X.env) :: starEach es X.env := by rfl) (hpl : (backTo pos (starEach es X.env)).any (·.1) = false := by rfl) : DE X (.Call (.Name "sum" p) (e :: es) [] pos) (mCall sumD m) :=
  e_callB (CallR.or (cr_sum hc) (cr_sumT hc)) k_sum hg hm (by decide +kernel) ha (by decide) (by decide) he hpl
theorem e_any (hc : X.calm = true) (hm : X.mg "any" = none) (ha : DA X (e :: es) m) (hg : Gl X "any" := by rfl) (he : starEach (e :: es) X.env = (false, eval e X.env) :: starEach es X.env := by rfl) (hpl : (backTo pos (starEach es X.env)).any (·.1) = false := by rfl) : DE X (.Call (.Name "any" p) (e :: es) [] pos) (mCall anyD m) :=
  e_callB (cr_any hc) k_any hg hm (by decide +kernel) ha (by decide) (by decide) he hpl
theorem e_all (hc : X.calm = true) (hm : X.mg "all" = none) (ha : DA X (e :: es) m) (hg : Gl X "all" := by rfl) (he : starEach (e :: es) X.env = (false, eval e X.env) :: starEach es X.env := by rfl) (hpl : (backTo pos (starEach es X.env)).any (·.1) = false := by rfl) : DE X (.Call (.Name "all" p) (e :: es) [] pos) (mCall allD m) :=
  e_callB (cr_all hc) k_all hg hm (by decide +kernel) ha (by decide) (by decide) he hpl
end

/-! ### isinstance(x, T) -/
def tyName : D → String
  | .none => "NoneType"
  | .bool _ => "bool"
  | .int _ => "int"
  | .str _ => "str"
  | .list _ => "list"
  | .tuple _ => "tuple"
  | .dict _ => "list"
def isiD (T : String) (d : D) : Option D := (kitB (tyName d) T).bind fun b => some (.bool b)
def mIsi (T : String) (ma : M O) : M D := m1 (isiD T) ma
section
variable {X : Cx} {a : Expr} {ma : M O} {p q pos : Pos} {T : String} {y : Str}
theorem lk_ty {K : PySem.W.Frag} {st : Option (Addr × Addr)} {B H : Hp} {x : V} {d : D} (h : Lk K st B H x d) (e : Ext B H) (nd : ∀ ks, d ≠ .dict ks) : TyX K H x (.type (tyName d)) := by
  cases d with
  | none => rw [h.none]; exact .base .non
  | bool b => rw [h.bool]; exact .base (.bl b)
  | int i => rw [h.int]; exact .base (.int i)
  | str s => rw [h.str]; exact .base (.str s)
  | list ds =>
    obtain ⟨p, vs, rfl, h1, h2⟩ := h.list e
    exact .base (.lst h1)
  | tuple ds =>
    obtain ⟨p, vs, rfl, h1, _, h2⟩ := h.tuple e
    rcases h1 with (h1 | ⟨o, h1⟩) | ⟨o, its, n, k1, k2, _⟩
    · exact .base (.tup h1)
    · exact .fTuple h1
    · exact .kTuple k1 k2
  | dict ks => exact absurd rfl (nd ks)
/-- isinstance(x, T), T the name of a built-in type -/
theorem e_isi (T : String) (hm : X.mg "isinstance" = none) (hmT : X.mg y = none) (ha : DO X a ma) (hvT : bootBuiltins y = some (.type T)) (hgT : Gl X y := by rfl) (hg : Gl X "isinstance" := by rfl) (hnT : y ≠ "__name__" := by decide) (hdT : (y == ("__debug__" : Str)) = false := by decide)
    (h1 : starEach [a, .Name y q] X.env = (false, eval a X.env) :: starEach [.Name y q] X.env := by rfl) (h2 : starEach [.Name y q] X.env = (false, eval (.Name y q) X.env) :: starEach [] X.env := by rfl) (hpl : (backTo pos (starEach [.Name y q] X.env)).any (·.1) = false := by rfl) :
    DE X (.Call (.Name "isinstance" p) [a, .Name y q] [] pos) (m1 (fun d => match d with | .dict _ => none | d => isiD T d) ma) := by
  obtain ⟨t, pt, o⟩ := ha.ex
  refine ⟨_, pe_callB call_isi hg hm (by decide +kernel) (pa_cons pt (pa_cons (pe_bltn (v := .ty T) hgT hmT hvT rfl hnT hdT) pa_nil h2) h1) (by decide) (by decide) h1 hpl, fun c B σ H μ z μ' Q rel hmm k => ?_⟩
  unfold m1 at hmm
  simp only [Option.bind_eq_some_iff] at hmm
  obtain ⟨⟨o1, μ1⟩, g1, d, g2, z', g3, g4⟩ := hmm
  cases g4
  refine o c B σ H μ o1 _ _ rel g1 fun B1 H1 x e1 r1 x1 => ?_
  have hx := look_ok r1 x1 g2
  have nd : ∀ ks, d ≠ .dict ks := fun ks e => by subst e; cases g3
  have g3' : isiD T d = some z := by
    cases d <;> first | exact g3 | cases g3
  unfold isiD at g3'
  simp only [Option.bind_eq_some_iff] at g3'
  obtain ⟨b, g5, g6⟩ := g3'
  cases g6
  exact ⟨x, .ty T, _, _, b, rfl, .ty T, lk_ty hx r1.r0.ext nd, kit_ty g5, (k.ext e1).go r1 (.bl b)⟩
end

/-! ### x.bit_length(), sep.join(..) -/
def bitsD : D → Option D
  | .int i => some (.int (Builtin.Int.intBits i : Nat))
  | _ => none
def joinD (a : Str) : D → Option D
  | .list ds => (strs? ds).bind fun ys => if (ys.map (·.length)).sum + ys.length * a.length ≤ 16777216 then some (.str (Txt.join a ys)) else none
  | .tuple ds => (strs? ds).bind fun ys => if (ys.map (·.length)).sum + ys.length * a.length ≤ 16777216 then some (.str (Txt.join a ys)) else none
  | _ => none
section
variable {X : Cx} {a b : Expr} {ma mb : M O} {apos pos : Pos}
theorem e_bits (ha : DO X a ma) (hbase : attributeBase a "bit_length" X.env (eval a X.env) = eval a X.env := by rfl) (hline : (apos.endLine == pos.line) = true := by rfl) : DE X (.Call (.Attribute a "bit_length" apos) [] [] pos) (m1 bitsD ma) := by
  obtain ⟨t, pt, o⟩ := ha.ex
  refine ⟨_, pe_bits pt hbase hline, fun c B σ H μ z μ' Q rel hmm k => ?_⟩
  unfold m1 at hmm
  simp only [Option.bind_eq_some_iff] at hmm
  obtain ⟨⟨o1, μ1⟩, g1, d, g2, z', g3, g4⟩ := hmm
  cases g4
  refine o c B σ H μ o1 _ _ rel g1 fun B1 H1 x e1 r1 x1 => ?_
  have hx := look_ok r1 x1 g2
  unfold bitsD at g3
  split at g3
  · cases g3
    exact ⟨_, hx.int, (k.ext e1).go r1 (.int _)⟩
  · cases g3
theorem e_join {s : Str} (ha : DE X a (mC (.str s))) (hb : DO X b mb) (hs : starEach [b] X.env = [(false, eval b X.env)] := by rfl) (hbase : attributeBase a "join" X.env (eval a X.env) = eval a X.env := by rfl) (hline : (apos.endLine == pos.line) = true := by rfl) :
    DE X (.Call (.Attribute a "join" apos) [b] [] pos) (m1 (joinD s) mb) := by
  obtain ⟨t, pt, o⟩ := ha.ex
  obtain ⟨t2, pt2, o2⟩ := hb.ex
  refine ⟨_, pe_join pt pt2 hs hbase hline, fun c B σ H μ z μ' Q rel hmm k => ?_⟩
  unfold m1 at hmm
  simp only [Option.bind_eq_some_iff] at hmm
  obtain ⟨⟨o1, μ1⟩, g1, d, g2, z', g3, g4⟩ := hmm
  cases g4
  refine o c B σ H μ _ μ _ rel rfl fun B1 H1 x e1 r1 x1 => ⟨⟨s, by cases x1; rfl⟩, ?_⟩
  cases x1
  refine o2 c B1 σ H1 μ o1 _ _ r1 g1 fun B2 H2 y e2 r2 y2 => ?_
  have hy := look_ok r2 y2 g2
  unfold joinD at g3
  split at g3
  · simp only [Option.bind_eq_some_iff] at g3
    obtain ⟨ys, g5, g6⟩ := g3
    split at g6
    · rename_i hl
      cases g6
      obtain ⟨p, vs, rfl, h1, h2⟩ := hy.list r2.r0.ext
      rw [strs?_some g5] at h2
      exact ⟨_, p, ys, rfl, rfl, .inl (by rw [← h2.strs]; exact SqL.of h1), hl, (k.ext (e1.trans e2)).go r2 (.str _)⟩
    · cases g6
  · simp only [Option.bind_eq_some_iff] at g3
    obtain ⟨ys, g5, g6⟩ := g3
    split at g6
    · rename_i hl
      cases g6
      obtain ⟨p, vs, rfl, h1, h1', h2⟩ := hy.tuple r2.r0.ext
      rw [strs?_some g5] at h2
      exact ⟨_, p, ys, rfl, rfl, .inr (by rw [← h2.strs]; exact h1), hl, (k.ext (e1.trans e2)).go r2 (.str _)⟩
    · cases g6
  · cases g3
end

/-! ### list(range(..)), tuple(range(..)) -/
section
variable {X : Cx} {a : Expr} {ma : M O} {p q pos pos2 : Pos}
def rgD : D → Option (List D)
  | .int n => if 0 ≤ n ∧ n ≤ 16777216 then some (intsR 0 n.toNat) else none
  | _ => none
theorem rgV_rp {K : PySem.W.Frag} {st : Option (Addr × Addr)} {B : Hp} (n : Int) (h : 0 ≤ n) : RpA K st B (rgV 0 n) (intsR 0 n.toNat) := by
  have e1 : rgV 0 n = ((List.range n.toNat).map fun i => (0 + ((i : Nat) : Int))).map V.int := by
    unfold rgV
    rw [List.map_map]
    have : (n - 0).toNat = n.toNat := by omega
    rw [this]
    rfl
  have e2 : intsR 0 n.toNat = ((List.range n.toNat).map fun i => (0 + ((i : Nat) : Int))).map PyData.int := by
    unfold intsR
    rw [List.map_map]
    rfl
  rw [e1, e2]
  exact RpA.ofInts _
def mRg (ma : M O) : M (List D) := fun μ => (ma μ).bind fun p => (look p.1 p.2).bind fun d => (rgD d).bind fun z => some (z, p.2)
theorem f_listRg (hc : X.calm = true) (hm : X.mg "list" = none) (hm2 : X.mg "range" = none) (ha : DO X a ma) (hg : Gl X "list" := by rfl) (hg2 : Gl X "range" := by rfl) (na : starEach [a] X.env = (false, eval a X.env) :: starEach [] X.env := by rfl)
    (nb : starEach [.Call (.Name "range" q) [a] [] pos2] X.env = (false, eval (.Call (.Name "range" q) [a] [] pos2) X.env) :: starEach [] X.env := by rfl) :
    DF X (.Call (.Name "list" p) [.Call (.Name "range" q) [a] [] pos2] [] pos) (mRg ma) := by
  obtain ⟨t, pt, o⟩ := ha.ex
  refine ⟨_, pe_listRg hc hg hm (prg_1 hg2 hm2 pt na) nb, fun c B σ H μ z μ' Q rel hmm k => ?_⟩
  unfold mRg at hmm
  simp only [Option.bind_eq_some_iff] at hmm
  obtain ⟨⟨o1, μ1⟩, g1, d, g2, z', g3, g4⟩ := hmm
  cases g4
  refine o c B σ H μ o1 _ _ rel g1 fun B1 H1 x e1 r1 x1 => ?_
  have hx := look_ok r1 x1 g2
  unfold rgD at g3
  split at g3
  · split at g3
    · rename_i n hn
      cases g3
      refine ⟨n, hx.int, RgOk.of_le (by omega) (by omega) (by omega) hn.1, fun a ha => ?_⟩
      obtain ⟨f0, fb⟩ := r1.r0.fresh ha
      exact k B1 _ a _ e1 (r1.hide ha) upd_same fb f0 (r1.noOwn ha) (rgV_rp n hn.1)
    · cases g3
  · cases g3
end

/-! ### stores into lists of ours -/
def sIx (i : Nat) (mi me : M D) : MT := fun μ => match me μ with
  | some (d, μ1) => (match owned μ1 i with
    | some _ => (match mi μ1 with
      | some (.int k, μ2) => (match owned μ2 i with
        | some ds => (match ixN ds.length k with
          | some j => .nx (setS μ2 i (.own (ds.set j d)))
          | none => .bad)
        | none => .bad)
      | _ => .bad)
    | none => .bad)
  | none => .bad
section
variable {X : Cx} {x : Str} {px pos tpos : Pos} {ie e : Expr} {mi me : M D}
theorem s_ix (i : Nat) (he : DE X e me) (hi : DE X ie mi) (hN : X.N[i]? = some x := by rfl) (hv : Vis X.env.scope x := by first | exact Or.inl rfl | exact Or.inr (Or.inl rfl) | exact Or.inr (Or.inr rfl)) (hd : (x == ("__debug__" : Str)) = false := by decide)
    (hcd : (x == ("__classdict__" : Str)) = false := by decide) (ha : ∀ v, assign (.Subscript (.Name x px) ie tpos) X.env v = (do
      let ov ← holding [v] (eval (.Name x px) X.env)
      let iv ← holding [v, ov] (eval ie X.env)
      standAt tpos
      holding [v, ov, iv] (setItem ov iv v)
      release [v, ov, iv] []) := by intro _; rfl) (hs : swapsWithSole [.Subscript (.Name x px) ie tpos] e pos.line X.env = pure false := by rfl) (hw : swappedStores [.Subscript (.Name x px) ie tpos] e X.env = pure none := by rfl)
    (h1 : (assignEach [.Subscript (.Name x px) ie tpos] X.env).map (·.2) = [assign (.Subscript (.Name x px) ie tpos) X.env] := by rfl) : DS X (.Assign [.Subscript (.Name x px) ie tpos] e pos) (sIx i mi me) := by
  obtain ⟨t, pt, o⟩ := he.ex
  obtain ⟨t2, pt2, o2⟩ := hi.ex
  refine ⟨_, ps_asg pt (pg_sub (pv i hN hv hd hcd) pt2 set_list ha) hs hw h1, fun c B σ H μ E r a => ?_⟩
  unfold sIx at a
  split at a
  · rename_i d μ1 hm1
    split at a
    · rename_i ds0 ho1
      split at a
      · rename_i k μ2 hm2
        split at a
        · rename_i ds ho2
          split at a
          · rename_i j hj
            refine o c B σ H μ d μ1 _ r hm1 fun B1 H1 v e1 r1 hv1 => ?_
            obtain ⟨q, vs, s1, s2, s3, s4⟩ := r1.tyL ho1
            refine ⟨_, s1, o2 c B1 σ H1 μ1 _ μ2 _ r1 hm2 fun B2 H2 w e2 r2 hw2 => ?_⟩
            cases hw2
            obtain ⟨q', vs', t1, t2', t3, t4⟩ := r2.tyL ho2
            rw [s1] at t1; cases t1
            refine ⟨q, vs', k, j, rfl, rfl, t2', by rw [t3.length]; exact hj, ?_⟩
            exact a B2 σ _ (e1.trans e2) (r2.ownSet (owned_some ho2) s1 (RpA.set (hv1.mono e2) j t3))
          · exact a.elim
        · exact a.elim
      · exact a.elim
    · exact a.elim
  · exact a.elim
end
/-- x[i] op= e -/
def getL (K : PySem.W.Frag) : V → V → Hp → VK → Prop := fun o i H Q => ∃ p xs k v, o = .ref p ∧ i = .int k ∧ SqL K H p xs ∧ 0 ≤ k ∧ k < 2 ^ 63 ∧ xs[k.toNat]? = some v ∧ Q v H
theorem get_list {X : Cx} : PGet X (getL X.K) := by
  intro pins s σ H o i ov iv Q I ro ri h
  obtain ⟨p, xs, k, v, rfl, rfl, hq, h0, h1, hv, q⟩ := h
  cases ro
  obtain ⟨t, rfl⟩ := ri
  obtain ⟨its, r, pl, hz⟩ := I.list hq
  obtain ⟨u, hu, ru⟩ := r.get hv
  exact wpAny_getItem_list pl.isList h0 h1 (by simpa using hu) ⟨v, H, I, ru, q⟩
def sAugIx (g : D → D → Option D) (i : Nat) (mi me : M D) : MT := fun μ => match owned μ i with
  | some _ => (match mi μ with
    | some (.int k, μ1) => (match owned μ1 i with
      | some ds => if 0 ≤ k ∧ k < 2 ^ 63 then (match ds[k.toNat]? with
        | some old => (match me μ1 with
          | some (y, μ2) => (match g old y with
            | some z => (match owned μ2 i with
              | some ds' => (match ixN ds'.length k with
                | some j => .nx (setS μ2 i (.own (ds'.set j z)))
                | none => .bad)
              | none => .bad)
            | none => .bad)
          | none => .bad)
        | none => .bad) else .bad
      | none => .bad)
    | _ => .bad)
  | none => .bad
section
variable {X : Cx} {x : Str} {px pos tpos : Pos} {ie e : Expr} {mi me : M D}
theorem s_augIx (i : Nat) {op : Operator} {g : D → D → Option D} {f : Int → Int → Int} (ho : PIp X op (ipI f)) (hg : ∀ a b z, g a b = some z → ∃ i j, a = .int i ∧ b = .int j ∧ z = .int (f i j)) (hi : DE X ie mi) (he : DE X e me) (hN : X.N[i]? = some x := by rfl) (hv : Vis X.env.scope x := by first | exact Or.inl rfl | exact Or.inr (Or.inl rfl) | exact Or.inr (Or.inr rfl)) (hd : (x == ("__debug__" : Str)) = false := by decide)
    (hcd : (x == ("__classdict__" : Str)) = false := by decide) (ha : ∀ ov iv new, augStore ie ov iv new = (do holding [new, ov, iv] (setItem ov iv new); release [new, ov, iv] []; pure .next) := by intros; rfl) :
    DS X (.AugAssign (.Subscript (.Name x px) ie tpos) op e pos) (sAugIx g i mi me) := by
  obtain ⟨t, pt, o⟩ := he.ex
  obtain ⟨t2, pt2, o2⟩ := hi.ex
  refine ⟨_, ps_augS (pv i hN hv hd hcd) pt2 get_list pt ho set_list ha, fun c B σ H μ E r a => ?_⟩
  unfold sAugIx at a
  split at a
  · rename_i ds0 ho0
    split at a
    · rename_i k μ1 hm1
      split at a
      · rename_i ds ho1
        split at a
        · rename_i hk
          split at a
          · rename_i old hold
            split at a
            · rename_i y μ2 hm2
              split at a
              · rename_i z hz
                split at a
                · rename_i ds' ho2
                  split at a
                  · rename_i j hj
                    obtain ⟨i1, j1, rfl, rfl, rfl⟩ := hg _ _ _ hz
                    obtain ⟨q, vs, s1, s2, s3, s4⟩ := r.tyL ho0
                    refine ⟨_, s1, o2 c B σ H μ _ μ1 _ r hm1 fun B1 H1 v e1 r1 hv1 => ?_⟩
                    cases hv1
                    obtain ⟨q', vs', t1, t2', t3, t4⟩ := r1.tyL ho1
                    rw [s1] at t1; cases t1
                    obtain ⟨v, g1, g2⟩ := t3.get hold
                    cases g2
                    refine ⟨q, vs', k, _, rfl, rfl, SqL.of t2', hk.1, hk.2, g1, ?_⟩
                    refine o c B1 σ H1 μ1 _ μ2 _ r1 hm2 fun B2 H2 w e2 r2 hw2 => ?_
                    cases hw2
                    refine ⟨_, _, rfl, rfl, ?_⟩
                    obtain ⟨q'', vs'', u1, u2, u3, u4⟩ := r2.tyL ho2
                    rw [s1] at u1; cases u1
                    refine ⟨q, vs'', k, j, rfl, rfl, u2, by rw [u3.length]; exact hj, ?_⟩
                    exact a B2 σ _ (e1.trans e2) (r2.ownSet (owned_some ho2) s1 (RpA.set (.int _) j u3))
                  · exact a.elim
                · exact a.elim
              · exact a.elim
            · exact a.elim
          · exact a.elim
        · exact a.elim
      · exact a.elim
    · exact a.elim
  · exact a.elim
theorem addI_spec (a b z : D) (h : addI a b = some z) : ∃ i j, a = .int i ∧ b = .int j ∧ z = .int (i + j) := by
  unfold addI at h
  split at h
  · cases h; exact ⟨_, _, rfl, rfl, rfl⟩
  · cases h
end
end Mi
/-! Mi, seventh part: several names at once, the draws, a law's end. -/
namespace Mi
open PySem PySem.Spec PyProof.Rows L2

/-! ### a, b = e, f -/
inductive Sv where
  | val (d : D)
  | own (ds : List D)
def Sv.sl : Sv → Sl
  | .val d => .val d
  | .own ds => .own ds
def SvOk (K : PySem.W.Frag) (c : C) (B : Hp) (σ : St) (H : Hp) (μ : MS) (v : V) : Sv → Prop
  | .val d => Rp K c.st B v d
  | .own ds => ∃ p vs, v = .ref p ∧ H p = some (.lst vs) ∧ B p = none ∧ c.H0 p = none ∧ NoOwn σ μ p ∧ RpA K c.st B vs ds

/-- p is one of the new lists among these -/
def OwnsIn (p : Addr) : List V → List Sv → Prop
  | v :: vs, .own _ :: ss => v = .ref p ∨ OwnsIn p vs ss
  | _ :: vs, .val _ :: ss => OwnsIn p vs ss
  | _, _ => False
inductive SvA (K : PySem.W.Frag) (c : C) (B : Hp) (σ : St) (H : Hp) (μ : MS) : List V → List Sv → Prop
  | nil : SvA K c B σ H μ [] []
  | val {v : V} {vs : List V} {d : D} {ss : List Sv} : Rp K c.st B v d → SvA K c B σ H μ vs ss → SvA K c B σ H μ (v :: vs) (.val d :: ss)
  | own {p : Addr} {us : List V} {ds : List D} {vs : List V} {ss : List Sv} : H p = some (.lst us) → B p = none → c.H0 p = none → NoOwn σ μ p → RpA K c.st B us ds → ¬ OwnsIn p vs ss → SvA K c B σ H μ vs ss → SvA K c B σ H μ (.ref p :: vs) (.own ds :: ss)
section
variable {K : PySem.W.Frag} {c : C} {B B' H H' : Hp} {σ : St} {μ : MS} {vs : List V} {ss : List Sv}
theorem SvA.length (h : SvA K c B σ H μ vs ss) : vs.length = ss.length := by
  induction h with
  | nil => rfl
  | val _ _ ih => simp [ih]
  | own _ _ _ _ _ _ _ ih => simp [ih]
theorem SvA.unpin {p : Addr} {o : HO} (h : SvA K (c.pin p o) B σ H μ vs ss) : SvA K c B σ H μ vs ss ∧ ¬ OwnsIn p vs ss := by
  induction h with
  | nil => exact ⟨.nil, fun z => z⟩
  | val a _ ih => exact ⟨.val a ih.1, ih.2⟩
  | @own q us ds vs ss a1 a2 a3 a4 a5 a6 _ ih =>
    have a3' : upd c.H0 p o q = none := a3
    have nq : q ≠ p := fun z => by subst z; rw [upd_same] at a3'; cases a3'
    rw [upd_ne nq] at a3'
    refine ⟨.own a1 a2 a3' a4 a5 a6 ih.1, fun z => ?_⟩
    rcases z with z | z
    · cases z; exact nq rfl
    · exact ih.2 z
/-- a fresh object hides nothing of it -/
theorem SvA.hide {p : Addr} {o : HO} (h : SvA K c B σ H μ vs ss) (hp : H p = none) : SvA K c B σ (upd H p o) μ vs ss := by
  induction h with
  | nil => exact .nil
  | val a _ ih => exact .val a ih
  | own a1 a2 a3 a4 a5 a6 _ ih => exact .own (by rw [upd_ne (ne_of_none a1 hp)]; exact a1) a2 a3 a4 a5 a6 ih
end
def OkX (K : PySem.W.Frag) (t : TA) (m : M (List Sv)) : Prop := ∀ (c : C) (B : Hp) (σ : St) (H : Hp) (μ : MS) (ss : List Sv) (μ' : MS) (Q : List V → Hp → Prop), Rel K c B σ H μ → m μ = some (ss, μ') →
  (∀ B' H' vs, Ext B B' → Rel K c B' σ H' μ' → SvA K c B' σ H' μ' vs ss → Q vs H') → t σ H Q
structure DX (X : Cx) (es : List Expr) (m : M (List Sv)) : Prop where
  ex : ∃ t, PA X es t ∧ OkX X.K t m
def xNil : M (List Sv) := fun μ => some ([], μ)
def xVal (m : M D) (n : M (List Sv)) : M (List Sv) := fun μ => (m μ).bind fun p => (n p.2).bind fun q => some (.val p.1 :: q.1, q.2)
def xNew (m : M (List D)) (n : M (List Sv)) : M (List Sv) := fun μ => (m μ).bind fun p => (n p.2).bind fun q => some (.own p.1 :: q.1, q.2)
section
variable {X : Cx} {e : Expr} {es : List Expr}
theorem x_nil : DX X [] xNil := ⟨_, pa_nil, fun c B σ H μ os μ' Q r hm k => by cases hm; exact k B H [] (Ext.refl _) r .nil⟩
theorem x_val {m : M D} {n : M (List Sv)} (h : DE X e m) (hr : DX X es n) (hs : starEach (e :: es) X.env = (false, eval e X.env) :: starEach es X.env := by rfl) : DX X (e :: es) (xVal m n) := by
  obtain ⟨t, ht, ok⟩ := h.ex
  obtain ⟨t2, ht2, ok2⟩ := hr.ex
  refine ⟨_, pa_cons ht ht2 hs, fun c B σ H μ os μ' Q r hm k => ?_⟩
  unfold xVal at hm
  simp only [Option.bind_eq_some_iff] at hm
  obtain ⟨⟨d, μ1⟩, h1, ⟨ds, μ2⟩, h2, h3⟩ := hm
  cases h3
  refine ok c B σ H μ d μ1 _ r h1 fun B' H' v e r' hr => ?_
  refine ok2 c B' σ H' μ1 ds _ _ r' h2 fun B'' H'' vs e' r'' hrs => ?_
  exact k B'' H'' (v :: vs) (e.trans e') r'' (.val (hr.mono e') hrs)
theorem x_new {m : M (List D)} {n : M (List Sv)} (h : DF X e m) (hr : DX X es n) (hs : starEach (e :: es) X.env = (false, eval e X.env) :: starEach es X.env := by rfl) : DX X (e :: es) (xNew m n) := by
  obtain ⟨t, ht, ok⟩ := h.ex
  obtain ⟨t2, ht2, ok2⟩ := hr.ex
  refine ⟨_, pa_cons ht ht2 hs, fun c B σ H μ os μ' Q r hm k => ?_⟩
  unfold xNew at hm
  simp only [Option.bind_eq_some_iff] at hm
  obtain ⟨⟨d, μ1⟩, h1, ⟨ds, μ2⟩, h2, h3⟩ := hm
  cases h3
  refine ok c B σ H μ d μ1 _ r h1 fun B' H' p us e r' g1 g2 g3 g4 g5 => ?_
  refine ok2 (c.pin p (.lst us)) B' σ H' μ1 ds _ _ (r'.pin g1 g2 g3 g4) h2 fun B'' H'' vs e' r'' hrs => ?_
  obtain ⟨u1, u2, u3, u4⟩ := r''.unpin g3 (r'.r0.b0.none g2) (r'.r0.noSt g3)
  obtain ⟨w1, w2⟩ := hrs.unpin
  exact k B'' H'' (.ref p :: vs) (e.trans e') u1 (.own u2 u3 g3 u4 (g5.mono e') w2 w1)
end
def putA : List Nat → List Sv → MS → Option MS
  | [], [], μ => some μ
  | i :: is, s :: ss, μ => putA is ss (setS μ i s.sl)
  | _, _, _ => none
def setA : List Nat → List V → St → St
  | i :: is, v :: vs, σ => setA is vs (σ.set i (some v))
  | _, _, σ => σ
theorem putA_ok {K : PySem.W.Frag} {c : C} {B H : Hp} : ∀ {is : List Nat} {vs : List V} {ss : List Sv} {σ : St} {μ μ' : MS}, Rel K c B σ H μ → SvA K c B σ H μ vs ss → putA is ss μ = some μ' → Rel K c B (setA is vs σ) H μ'
  | [], _, _, σ, μ, μ', r, .nil, e => by cases e; exact r
  | [], _, _, σ, μ, μ', r, .val _ _, e => by cases e
  | [], _, _, σ, μ, μ', r, .own _ _ _ _ _ _ _, e => by cases e
  | i :: is, _, _, σ, μ, μ', r, .nil, e => by cases e
  | i :: is, _, _, σ, μ, μ', r, .val (v := v) (d := d) h t, e => by
    have r1 := r.putV (i := i) h
    refine putA_ok (is := is) r1 ?_ e
    have aux : ∀ {vs : List V} {ss : List Sv}, SvA K c B σ H μ vs ss → SvA K c B (σ.set i (some v)) H (setS μ i (.val d)) vs ss := by
      intro vs ss h
      induction h with
      | nil => exact .nil
      | val a _ ih => exact .val a ih
      | own a1 a2 a3 a4 a5 a6 _ ih =>
        refine .own a1 a2 a3 (fun j dj hj hs => ?_) a5 a6 ih
        by_cases hji : i = j
        · subst hji
          have hl : i < μ.sl.length := by
            have := (List.getElem?_eq_some_iff.mp hj).1
            simpa [setS] using this
          rw [show (setS μ i (.val d)).sl = μ.sl.set i (.val d) from rfl, List.getElem?_set_self hl] at hj
          cases hj
        · rw [show (setS μ i (.val d)).sl = μ.sl.set i (.val d) from rfl, List.getElem?_set_ne hji] at hj
          rw [List.getElem?_set_ne hji] at hs
          exact a4 j dj hj hs
    exact aux t
  | i :: is, _, _, σ, μ, μ', r, .own (p := p) (us := us) (ds := ds) g1 g2 g3 g4 g5 g6 t, e => by
    have r1 := r.putO (i := i) g1 g2 g3 g5 g4
    refine putA_ok (is := is) r1 ?_ e
    have aux : ∀ {vs : List V} {ss : List Sv}, SvA K c B σ H μ vs ss → ¬ OwnsIn p vs ss → SvA K c B (σ.set i (some (.ref p))) H (setS μ i (.own ds)) vs ss := by
      intro vs ss h
      induction h with
      | nil => exact fun _ => .nil
      | val a _ ih => exact fun n => .val a (ih n)
      | @own q us2 ds2 vs2 ss2 a1 a2 a3 a4 a5 a6 _ ih =>
        intro n
        have nqp : q ≠ p := fun z => n (.inl (by rw [z]))
        refine .own a1 a2 a3 (fun j dj hj hs => ?_) a5 a6 (ih fun z => n (.inr z))
        by_cases hji : i = j
        · subst hji
          have hl : i < μ.sl.length := by
            have := (List.getElem?_eq_some_iff.mp hj).1
            simpa [setS] using this
          rw [List.getElem?_set_self (by rw [r.len]; exact hl)] at hs
          cases hs
          exact nqp rfl
        · rw [show (setS μ i (.own ds)).sl = μ.sl.set i (.own ds) from rfl, List.getElem?_set_ne hji] at hj
          rw [List.getElem?_set_ne hji] at hs
          exact a4 j dj hj hs
    exact aux t g6
def sPar (is : List Nat) (m : M (List Sv)) : MT := fun μ => match m μ with
  | some (ss, μ') => (match putA is ss μ' with
    | some μ2 => .nx μ2
    | none => .bad)
  | none => .bad
/-- names alone as targets -/
def gNs : List Nat → TGs
  | [] => gNil
  | i :: is => gCons (gName i) (gNs is)
structure DN (X : Cx) (es : List Expr) (is : List Nat) : Prop where
  ex : PGs X es (gNs is)
theorem gNs_ok : ∀ {is : List Nat} {vs : List V} {σ : St} {H : Hp} {Q : St → Hp → Prop}, vs.length = is.length → Q (setA is vs σ) H → gNs is vs σ H Q
  | [], [], σ, H, Q, _, q => ⟨rfl, q⟩
  | i :: is, v :: vs, σ, H, Q, e, q => ⟨v, vs, rfl, gNs_ok (is := is) (by simpa using e) q⟩
section
variable {X : Cx} {pos : Pos}
theorem n_nil : DN X [] [] := ⟨pgs_nil⟩
theorem n_cons {x : Str} {p : Pos} {es : List Expr} {is : List Nat} (i : Nat) (hN : X.N.Nodup) (h : DN X es is) (hi : X.N[i]? = some x := by rfl) (hx : Loc X.env.scope x := by first | exact Or.inl rfl | exact Or.inr rfl) (hf : X.fn x = true ∨ X.env.scope.names.lookup x = some .local := by first | exact .inl rfl | exact .inr rfl | assumption)
    (hs : (assignEach (.Name x p :: es) X.env).map (·.2) = assign (.Name x p) X.env :: (assignEach es X.env).map (·.2) := by rfl) : DN X (.Name x p :: es) (i :: is) := ⟨pgs_cons (pg_name hN hi hx hf) h.ex hs⟩
theorem putA_len : ∀ {is : List Nat} {ss : List Sv} {μ μ' : MS}, putA is ss μ = some μ' → ss.length = is.length
  | [], [], _, _, _ => rfl
  | i :: is, s :: ss, μ, μ', e => by
    have := putA_len (is := is) (ss := ss) e
    simp [this]
  | [], _ :: _, _, _, e => by cases e
  | _ :: _, [], _, _, e => by cases e
/-- a, b = e, f through a tuple -/
theorem s_parT {tgs es : List Expr} {k k2 : Nat} {pt pt2 : Pos} {is : List Nat} {m : M (List Sv)} (hc : X.calm = true) (ha : DX X es m) (hg : DN X tgs is) (hsm : is.length ≤ 1000 := by decide)
    (hn : (assignEach tgs X.env).length = is.length := by rfl) (hst : (assignEach tgs X.env).findIdx? (·.1) = none := by rfl) (hs : swapsWithSole [.Tuple tgs k pt] (.Tuple es k2 pt2) pos.line X.env = pure false := by rfl) (hw : swappedStores [.Tuple tgs k pt] (.Tuple es k2 pt2) X.env = pure none := by rfl)
    (h1 : (assignEach [.Tuple tgs k pt] X.env).map (·.2) = [assign (.Tuple tgs k pt) X.env] := by rfl) : DS X (.Assign [.Tuple tgs k pt] (.Tuple es k2 pt2) pos) (sPar is m) := by
  obtain ⟨t, p, o⟩ := ha.ex
  refine ⟨_, ps_asg (pe_tup p) (pg_tup hc hg.ex hn hst) hs hw h1, fun c B σ H μ E r a => ?_⟩
  unfold sPar at a
  split at a
  · rename_i ss μ' hm
    split at a
    · rename_i μ2 hp
      have hl := putA_len hp
      refine o c B σ H μ ss μ' _ r hm fun B1 H1 vs e1 r1 sv => ⟨?_, fun q hq => ?_⟩
      · rw [sv.length, hl]; exact Nat.le_trans hsm (by decide)
      · refine ⟨q, vs, rfl, SqT.of upd_same, by rw [sv.length, hl], gNs_ok (by rw [sv.length, hl]) ?_⟩
        exact a B1 _ _ e1 (putA_ok (r1.hide hq) (sv.hide hq) hp)
    · exact a.elim
  · exact a.elim
/-- a, b = e, f of plain local names: no tuple -/
theorem s_par2 {i j : Nat} {x y : Str} {a b : Expr} {px py pt : Pos} {kt k2 pt2} {m : M (List Sv)} (hc : X.calm = true) (hN : X.N.Nodup) (hij : i ≠ j) (ha : DX X [a, b] m) (hi : X.N[i]? = some x := by rfl) (hj : X.N[j]? = some y := by rfl)
    (hx : X.env.scope.names.lookup x = some .local := by rfl) (hy : X.env.scope.names.lookup y = some .local := by rfl)
    (hw : swappedStores [.Tuple [.Name x px, .Name y py] kt pt] (.Tuple [a, b] k2 pt2) X.env = pure (some [x, y]) := by rfl)
    (hs : swapsWithSole [.Tuple [.Name x px, .Name y py] kt pt] (.Tuple [a, b] k2 pt2) pos.line X.env = pure false := by rfl) :
    DS X (.Assign [.Tuple [.Name x px, .Name y py] kt pt] (.Tuple [a, b] k2 pt2) pos) (sPar [i, j] m) := by
  obtain ⟨t, p, o⟩ := ha.ex
  refine ⟨_, ps_par hc hN hi hj hij hx hy p hw hs, fun c B σ H μ E r h => ?_⟩
  unfold sPar at h
  split at h
  · rename_i ss μ' hm
    split at h
    · rename_i μ2 hp
      have hl := putA_len hp
      refine o c B σ H μ ss μ' _ r hm fun B1 H1 vs e1 r1 sv => ?_
      have hlv : vs.length = 2 := by rw [sv.length, hl]; rfl
      match vs, hlv, sv with
      | [v, w], _, sv => exact ⟨v, w, rfl, h B1 _ _ e1 (putA_ok r1 sv hp)⟩
    · exact h.elim
  · exact h.elim
theorem s_par3 {i j l : Nat} {x y z : Str} {a b c : Expr} {px py pz pt : Pos} {kt k2 pt2} {m : M (List Sv)} (hc : X.calm = true) (hN : X.N.Nodup) (hij : i ≠ j) (hil : i ≠ l) (hjl : j ≠ l) (ha : DX X [a, b, c] m) (hi : X.N[i]? = some x := by rfl) (hj : X.N[j]? = some y := by rfl) (hk : X.N[l]? = some z := by rfl)
    (hx : X.env.scope.names.lookup x = some .local := by rfl) (hy : X.env.scope.names.lookup y = some .local := by rfl) (hz : X.env.scope.names.lookup z = some .local := by rfl)
    (hw : swappedStores [.Tuple [.Name x px, .Name y py, .Name z pz] kt pt] (.Tuple [a, b, c] k2 pt2) X.env = pure (some [x, y, z]) := by rfl)
    (hs : swapsWithSole [.Tuple [.Name x px, .Name y py, .Name z pz] kt pt] (.Tuple [a, b, c] k2 pt2) pos.line X.env = pure false := by rfl) :
    DS X (.Assign [.Tuple [.Name x px, .Name y py, .Name z pz] kt pt] (.Tuple [a, b, c] k2 pt2) pos) (sPar [i, j, l] m) := by
  obtain ⟨t, p, o⟩ := ha.ex
  refine ⟨_, ps_par3 hc hN hi hj hk hij hil hjl hx hy hz p hw hs, fun c B σ H μ E r h => ?_⟩
  unfold sPar at h
  split at h
  · rename_i ss μ' hm
    split at h
    · rename_i μ2 hp
      have hl := putA_len hp
      refine o c B σ H μ ss μ' _ r hm fun B1 H1 vs e1 r1 sv => ?_
      have hlv : vs.length = 3 := by rw [sv.length, hl]; rfl
      match vs, hlv, sv with
      | [u, v, w], _, sv => exact ⟨u, v, w, rfl, h B1 _ _ e1 (putA_ok r1 sv hp)⟩
    · exact h.elim
  · exact h.elim
end

/-! ### the draws -/
def drawM (many : Int) (dr : Dr) : Int × Dr :=
  match dr.1.dropWhile (fun n => n == 0) with
  | v :: r => (v % many, (v / many :: r, dr.2))
  | [] => ((((dr.2 * 48271 + 12345) % 2147483647) / 64) % many, ([], (dr.2 * 48271 + 12345) % 2147483647))
def drawF : FM := fun ds dr => match ds with
  | [.dict [], .int many] => if 0 < many ∧ many.natAbs.log2 < 9000 then some (.int (drawM many dr).1, (drawM many dr).2) else none
  | _ => none
def seedOf (ns : List Int) : Int := ns.foldl (fun s c => (s * 31 + c) % 1000003) 7
def drOf (ns : List Int) : Dr := (ns.map fun n => if n < 0 then -n else n, seedOf ns + 1)
/-- what the first def of the law promises: the state of the draws, new -/
def spState (K : PySem.W.Frag) : Sp := fun vs H Q _ => ∃ (a : Addr) (ns : List Int), vs = [.ref a] ∧ SqL K H a (ns.map V.int) ∧ ns.length ≤ 63 ∧
  ∀ H' p q, H p = none → H q = none → p ≠ q → Ext H H' → H' p = some (.lst [.ref q, .int (drOf ns).2]) → H' q = some (.lst ((drOf ns).1.map V.int)) → Q (.ref p) H'
/-- what the law promises, f its mirror behind the state -/
def spLaw (K : PySem.W.Frag) (f : Dr → SR) : Sp := fun vs H Q _ => ∃ (a : Addr) (ns : List Int), vs = [.ref a] ∧ SqL K H a (ns.map V.int) ∧ ns.length ≤ 63 ∧ (∃ dr, f (drOf ns) = .rt (.bool true) dr) ∧ ∀ H', Q (.bl true) H'
/-- behind the state's making -/
theorem law_start {K : PySem.W.Frag} {H' : Hp} {p q : Addr} {dr : Dr} {σ : St} {i : Nat} {n : Nat} (hp : H' p = some (.lst [.ref q, .int dr.2])) (hq : H' q = some (.lst (dr.1.map V.int))) (npq : p ≠ q) (hs : σ[i]? = some (some (.ref p))) (hl : σ.length = n) :
    Rel K ⟨some (p, q), H', fun _ => none⟩ (fun _ => none) σ H' ⟨(List.replicate n Sl.un).set i (.val (.dict [])), dr⟩ := by
  refine ⟨⟨(fun a o e => by cases e), fun x y e => ?_, fun a o e _ => e, (fun a o e => by cases e), (fun a o e => by cases e)⟩, by simp [hl], fun j s hj => ?_, fun a b da db _ ha _ => ?_⟩
  · cases e
    exact ⟨npq, hp, hq, rfl, rfl, (fun z => by rw [show H' p = none from z] at hp; cases hp), (fun z => by rw [show H' q = none from z] at hq; cases hq)⟩
  · by_cases hji : i = j
    · subst hji
      have hl2 : i < n := by
        have := (List.getElem?_eq_some_iff.mp hj).1
        simpa using this
      rw [List.getElem?_set_self (by simpa using hl2)] at hj
      cases hj
      exact ⟨_, hs, .stt rfl⟩
    · rw [List.getElem?_set_ne hji, List.getElem?_replicate] at hj
      split at hj
      · cases hj; trivial
      · cases hj
  · by_cases hji : i = a
    · subst hji
      have hl2 : i < n := by
        have := (List.getElem?_eq_some_iff.mp ha).1
        simpa using this
      rw [List.getElem?_set_self (by simpa using hl2)] at ha
      cases ha
    · rw [List.getElem?_set_ne hji, List.getElem?_replicate] at ha
      split at ha
      · cases ha
      · cases ha
end Mi
/-! Mi, eighth part: constants of a module, the draw's promise opened. -/
namespace Mi
open PySem PySem.Spec PyProof.Rows L2

def isiN (T : String) (d : D) : Option D := match d with | .dict _ => none | d => isiD T d
def flatOf : D → Option V
  | .none => some .non
  | .bool b => some (.bl b)
  | .int i => some (.int i)
  | .str x => some (.str x)
  | _ => none
def valIs : Value → D → Bool
  | .int i _, .int j => i == j
  | .str x _, .str y => x == y
  | .none, .none => true
  | .bool b, .bool c => b == c
  | _, _ => false
def valsAre : List Value → List D → Bool
  | [], [] => true
  | v :: vs, d :: ds => valIs v d && valsAre vs ds
  | _, _ => false
def constIs (its : Array Value) : D → Bool
  | .tuple ds => (decide (ds.length ≤ 1000) && !mixd ds) && valsAre its.toList ds
  | _ => false
theorem valIs_rp {K : PySem.W.Frag} {st : Option (Addr × Addr)} {B : Hp} : ∀ {v : Value} {d : D}, valIs v d = true → ∃ x, RelV x v ∧ Rp K st B x d := by
  intro v d h
  cases v <;> cases d <;> simp only [valIs] at h <;> first
    | (cases h; done)
    | skip
  · exact ⟨.non, rfl, .non⟩
  · rw [beq_iff_eq] at h; subst h; exact ⟨.bl _, rfl, .bl _⟩
  · rw [beq_iff_eq] at h; subst h; exact ⟨.int _, ⟨_, rfl⟩, .int _⟩
  · rw [beq_iff_eq] at h; subst h; exact ⟨.str _, ⟨_, rfl⟩, .str _⟩
theorem valsAre_rp {K : PySem.W.Frag} {st : Option (Addr × Addr)} {B : Hp} : ∀ {vs : List Value} {ds : List D}, valsAre vs ds = true → ∃ xs, Vals xs vs ∧ RpA K st B xs ds
  | [], [], _ => ⟨[], .nil, .nil⟩
  | v :: vs, d :: ds, h => by
    simp only [valsAre, Bool.and_eq_true] at h
    obtain ⟨x, h1, h2⟩ := valIs_rp (K := K) (st := st) (B := B) h.1
    obtain ⟨xs, h3, h4⟩ := valsAre_rp (K := K) (st := st) (B := B) h.2
    exact ⟨x :: xs, .cons h1 h3, .cons h2 h4⟩
  | [], _ :: _, h => by cases h
  | _ :: _, [], h => by cases h
theorem const_rp {K : PySem.W.Frag} {st : Option (Addr × Addr)} {B : Hp} {a : Addr} {od : Option Addr} {its : Array Value} {n : Nat} {sl : Array (Option Value)} {d : D} (h : K.lookup a = some ⟨.type "tuple", od, .seq its n, sl⟩) (w : constIs its d = true) : Rp K st B (.ref a) d := by
  cases d <;> simp only [constIs] at w <;> try (cases w; done)
  rename_i ds
  rw [Bool.and_eq_true, Bool.and_eq_true, decide_eq_true_eq, Bool.not_eq_true'] at w
  obtain ⟨xs, h1, h2⟩ := valsAre_rp (K := K) (st := st) (B := B) w.2
  refine .tup (.inr ⟨.inr ⟨_, its, n, h, rfl, rfl, ?_, h1⟩, w.1.2⟩) h2
  have e1 := h1.length
  have e2 := h2.length
  have e3 : its.toList.length = its.size := Array.length_toList
  rw [sizeLine_eq]
  omega
theorem seq0 {α : Type} {x : α} {xs : List α} : seqIndex? 0 (x :: xs).length = some 0 := by
  unfold seqIndex?
  simp
theorem ixN0 {α : Type} {x : α} {xs : List α} : ixN (x :: xs).length 0 = some 0 := by
  unfold ixN
  simp
theorem draw_open {K : PySem.W.Frag} {vs : List V} {H : Hp} {Q : VK} {E : XK} (h : spM K 2 drawF vs H Q E) : ∃ (x y : Addr) (m : Int) (dr : Dr), vs = [.ref x, .int m] ∧ 0 < m ∧ m.natAbs.log2 < 9000 ∧ x ≠ y ∧ H x = some (.lst [.ref y, .int dr.2]) ∧ H y = some (.lst (dr.1.map V.int)) ∧
    ∀ H', (∀ a, a ≠ x → a ≠ y → H' a = H a) → H' x = some (.lst [.ref y, .int (drawM m dr).2.2]) → H' y = some (.lst ((drawM m dr).2.1.map V.int)) → Q (.int (drawM m dr).1) H' := by
  obtain ⟨_, st, B, ds, dr, d, dr', r0, hv, hf, k⟩ := h
  unfold drawF at hf
  split at hf
  · rename_i m
    split at hf
    · rename_i hm
      cases hf
      cases hv with
      | cons h1 h2 =>
        cases h2 with
        | cons h2 h3 =>
          cases h3
          cases h2
          cases h1 with
          | @stt x y h1 =>
            obtain ⟨z1, z2, z3, z4, z5, z6, z7⟩ := r0.dr x y h1
            refine ⟨x, y, m, dr, rfl, hm.1, hm.2, z1, z2, z3, fun H' a1 a2 a3 => k B H' _ (Ext.refl _) ?_ (.int _)⟩
            have nst : ∀ a, ¬ IsSt ⟨st, H, B⟩ a → a ≠ x ∧ a ≠ y := fun a s => ⟨fun e => s ⟨x, y, h1, .inl e⟩, fun e => s ⟨x, y, h1, .inr e⟩⟩
            refine ⟨fun a o e => ?_, fun x' y' e => ?_, fun a o e s => ?_, r0.nw, r0.b0⟩
            · have nx : a ≠ x := fun q => by subst q; rw [z4] at e; cases e
              have ny : a ≠ y := fun q => by subst q; rw [z5] at e; cases e
              rw [a1 a nx ny]; exact r0.ext a o e
            · have e' : st = some (x', y') := e
              rw [h1] at e'; cases e'
              exact ⟨z1, a2, a3, z4, z5, z6, z7⟩
            · obtain ⟨nx, ny⟩ := nst a s
              rw [a1 a nx ny]; exact e
    · cases hf
  · cases hf
end Mi
/-! Mi, ninth part: further rules. -/
namespace Mi
open PySem PySem.Spec PyProof.Rows L2

/-! ### range(a, b, c) -/
def rng3 : List D → Option (List D)
  | [.int i, .int j, .int c] => if c ≠ 0 ∧ c.natAbs < 1073741824 ∧ Builtin.Range.small i j c = true ∧ 0 ≤ Builtin.Range.rangeSize i j c then some (intsC i c (Builtin.Range.rangeSize i j c).toNat) else none
  | _ => none
section
variable {X : Cx} {tg : Expr}
theorem i_range3 {a b c : Expr} {ma : M (List O)} {p pos : Pos} (hm : X.mg "range" = none) (ha : DA X [a, b, c] ma) (hg : Gl X "range" := by rfl) (hs : starEach [a, b, c] X.env = (false, eval a X.env) :: starEach [b, c] X.env := by rfl) (hpl : (backTo pos (starEach [b, c] X.env)).any (·.1) = false := by rfl) :
    DI X tg (.Call (.Name "range" p) [a, b, c] [] pos) (mCall rng3 ma) := by
  obtain ⟨t, pt, o⟩ := ha.ex
  refine ⟨_, pi_range3 hg hm pt hs hpl, fun c B σ H μ ds μ' R r hmm k => ?_⟩
  obtain ⟨os, xs, h1, h2, h3⟩ := mCall_some hmm
  refine o c B σ H μ os μ' _ r h1 fun B' H' vs e' r' hv => ?_
  have hl := looks_ok r' hv h2
  unfold rng3 at h3
  split at h3
  · split at h3
    · rename_i hc
      cases h3
      obtain ⟨x, y, z, rfl, hx, hy, hz⟩ := lka3 hl
      exact ⟨_, _, _, _, by rw [hx.int, hy.int, hz.int], ⟨hc.1, hc.2.1, hc.2.2.1, (Int.toNat_of_nonneg hc.2.2.2).symm⟩, k B' H' _ e' r' (walk_rangeC _ _ _)⟩
    · cases h3
  · cases h3
end

/-! ### f() -/
section
variable {X : Cx} {CX : CXT} {k : Nat} {f : Addr} {fd : FuncData} {ps : List Str} {x : Str} {p pos : Pos} {fm : FM} {E : XK}
theorem e_callU0 (F : FnOk X.prog X.w X.K X.mg X.base CX k f fd ps (spM X.K 0 fm)) (hr : Room k X.A) (hm : X.mg x = some (.ref f)) (hk : PySem.W.keepIn X.K (.ref f) = true) (hb : Binds X.K fd ps []) (hx : Passes CX X E) (hg : Gl X x := by rfl) (hdb : (x == ("__debug__" : Str)) = false := by decide) :
    DE X (.Call (.Name x p) [] [] pos) (mCallU fm aNil) := by
  obtain ⟨t, pt, o⟩ := (a_nil (X := X)).ex
  refine ⟨_, pe_call0 F hr hg hm hk hb .nil hx hdb, ?_⟩
  have := ok_callU (fm := fm) (E := E) (n := 0) (t := tNil) (X := X) (m := aNil) (fun c B σ H μ os μ' Q r hm k => by cases hm; exact k B H [] (Ext.refl _) r .nil) aNil_len
  exact this
end

/-! ### xs[::-1] of a list -/
def mRev (ma : M O) : M (List D) := fun μ => (ma μ).bind fun p => (look p.1 p.2).bind fun d => match d with
  | .list ds => some (ds.reverse, p.2)
  | _ => none
section
variable {X : Cx} {a : Expr} {ma : M O}
theorem f_rev {k : Nat} {p1 p2 p3 pos : Pos} (ha : DO X a ma) : DF X (.Subscript a (.Slice none none (some (.UnaryOp .USub (.Constant (.int 1) k p1) p2)) p3) pos) (mRev ma) := by
  obtain ⟨t, pt, o⟩ := ha.ex
  refine ⟨_, pe_revL pt, fun c B σ H μ ds μ' Q r hmm k => ?_⟩
  unfold mRev at hmm
  simp only [Option.bind_eq_some_iff] at hmm
  obtain ⟨⟨o1, μ1⟩, g1, d, g2, g3⟩ := hmm
  split at g3
  · cases g3
    refine o c B σ H μ o1 _ _ r g1 fun B1 H1 x e1 r1 x1 => ?_
    obtain ⟨p, vs, rfl, h1, h2⟩ := (look_ok r1 x1 g2).list r1.r0.ext
    refine ⟨p, vs, rfl, SqL.of h1, fun a ha => ?_⟩
    obtain ⟨f0, fb⟩ := r1.r0.fresh ha
    exact k B1 _ a _ e1 (r1.hide ha) upd_same fb f0 (r1.noOwn ha) h2.reverse
  · cases g3
end

/-! ### zip of two lists, of two tuples -/
def zipD : List D → Option (List D)
  | [.list a, .list b] => some (List.zipWith (fun x y => PyData.tuple [x, y]) a b)
  | [.tuple a, .tuple b] => some (List.zipWith (fun x y => PyData.tuple [x, y]) a b)
  | _ => none
def mZip (m : M (List D)) : M (List D) := fun μ => (m μ).bind fun p => (zipD p.1).bind fun z => some (z, p.2)
theorem zw_get {a b : List D} {i : Nat} {d : D} (h : (List.zipWith (fun x y => PyData.tuple [x, y]) a b)[i]? = some d) : ∃ x y, a[i]? = some x ∧ b[i]? = some y ∧ d = .tuple [x, y] := by
  rw [List.getElem?_zipWith] at h
  cases q1 : a[i]? with
  | none => rw [q1] at h; cases h
  | some x =>
    cases q2 : b[i]? with
    | none => rw [q1, q2] at h; cases h
    | some y =>
      rw [q1, q2] at h
      exact ⟨x, y, rfl, rfl, (Option.some.inj h).symm⟩
section
variable {K : PySem.W.Frag} {st : Option (Addr × Addr)} {B0 : Hp} {a b : Addr} {xs ys : List V} {ds es : List D}
theorem walk_zip (h1 : B0 a = some (.lst xs)) (r1 : RpA K st B0 xs ds) (h2 : B0 b = some (.lst ys)) (r2 : RpA K st B0 ys es) : Walk K st (List.zipWith (fun x y => PyData.tuple [x, y]) ds es) (Itz K a b) B0 := by
  intro c B σ H μ hs e rel
  have hH1 : SqL K H a xs := SqL.of (rel.r0.ext _ _ (e _ _ h1))
  have hH2 : SqL K H b ys := SqL.of (rel.r0.ext _ _ (e _ _ h2))
  refine ⟨fun i d hi => ?_, ⟨xs, ys, hH1, hH2, ?_⟩⟩
  · obtain ⟨x, y, g1, g2, rfl⟩ := zw_get hi
    obtain ⟨v, a1, a2⟩ := r1.get g1
    obtain ⟨w, b1, b2⟩ := r2.get g2
    refine ⟨⟨xs, ys, v, w, hH1, hH2, a1, b1⟩, fun z H' hy => ?_⟩
    obtain ⟨T, v', w', rfl, hT, rfl, q1, q2⟩ := hy
    have z1 := q1 xs hH1
    have z2 := q2 ys hH2
    rw [a1] at z1; cases z1
    rw [b1] at z2; cases z2
    have ex : Ext B (upd B T (.tup [v, w])) := Ext.new (rel.r0.fresh hT).2
    exact ⟨_, ex, rel.know hT, .tup (.inl upd_same) (.cons ((a2.mono e).mono ex) (.cons ((b2.mono e).mono ex) .nil))⟩
  · rw [List.length_zipWith, r1.length, r2.length]
    omega
theorem walk_zipT (h1 : SqT K B0 a xs) (r1 : RpA K st B0 xs ds) (h2 : SqT K B0 b ys) (r2 : RpA K st B0 ys es) : Walk K st (List.zipWith (fun x y => PyData.tuple [x, y]) ds es) (RZ.ItzT K a b) B0 := by
  intro c B σ H μ hs e rel
  have hH1 : SqT K H a xs := (e.trans rel.r0.ext).sqt h1
  have hH2 : SqT K H b ys := (e.trans rel.r0.ext).sqt h2
  refine ⟨fun i d hi => ?_, ⟨xs, ys, hH1, hH2, ?_⟩⟩
  · obtain ⟨x, y, g1, g2, rfl⟩ := zw_get hi
    obtain ⟨v, a1, a2⟩ := r1.get g1
    obtain ⟨w, b1, b2⟩ := r2.get g2
    refine ⟨⟨xs, ys, v, w, hH1, hH2, a1, b1⟩, fun z H' hy => ?_⟩
    obtain ⟨T, v', w', rfl, hT, rfl, q1, q2⟩ := hy
    have z1 := q1 xs hH1
    have z2 := q2 ys hH2
    rw [a1] at z1; cases z1
    rw [b1] at z2; cases z2
    have ex : Ext B (upd B T (.tup [v, w])) := Ext.new (rel.r0.fresh hT).2
    exact ⟨_, ex, rel.know hT, .tup (.inl upd_same) (.cons ((a2.mono e).mono ex) (.cons ((b2.mono e).mono ex) .nil))⟩
  · rw [List.length_zipWith, r1.length, r2.length]
    omega
end
section
variable {X : Cx} {elts : List Expr} {kk : Nat} {tpos p pos : Pos} {e e2 : Expr} {m : M (List D)}
theorem i_zip (hm : X.mg "zip" = none) (ha : DV X [e, e2] m) (hg : Gl X "zip" := by rfl) (hs : starEach [e, e2] X.env = (false, eval e X.env) :: starEach [e2] X.env := by rfl) (hpl : (backTo pos (starEach [e2] X.env)).any (·.1) = false := by rfl) :
    DI X (.Tuple elts kk tpos) (.Call (.Name "zip" p) [e, e2] [] pos) (mZip m) := by
  obtain ⟨t, pt, o⟩ := ha.ex
  refine ⟨_, RZ.pi_zipA hg hm pt hs hpl, fun c B σ H μ ds μ' R r hmm k => ?_⟩
  unfold mZip at hmm
  simp only [Option.bind_eq_some_iff] at hmm
  obtain ⟨⟨xs, μ1⟩, h1, z, h2, h3⟩ := hmm
  cases h3
  refine o c B σ H μ xs _ _ r h1 fun B' H' vs e' r' hv => ?_
  unfold zipD at h2
  split at h2
  · rename_i hx
    have hx' : xs = _ := hx
    subst hx'
    cases h2
    cases hv with
    | cons a1 a2 =>
      cases a2 with
      | cons a2 a3 =>
        cases a3
        cases a1 with
        | lst p1 p2 =>
          cases a2 with
          | lst q1 q2 => exact ⟨_, _, _, _, rfl, .inl ⟨SqL.of (r'.r0.ext _ _ p1), SqL.of (r'.r0.ext _ _ q1), k B' H' _ e' r' (walk_zip p1 p2 q1 q2)⟩⟩
  · rename_i hx
    have hx' : xs = _ := hx
    subst hx'
    cases h2
    cases hv with
    | cons a1 a2 =>
      cases a2 with
      | cons a2 a3 =>
        cases a3
        cases a1 with
        | tup p1 p2 =>
          cases a2 with
          | tup q1 q2 => exact ⟨_, _, _, _, rfl, .inr ⟨r'.r0.ext.sqt p1.sqt, r'.r0.ext.sqt q1.sqt, k B' H' _ e' r' (walk_zipT p1.sqt p2 q1.sqt q2)⟩⟩
  · cases h2
end
end Mi
/-! Mi, tenth part: the mirrors reckoned (no program in sight). -/
namespace Mi
open PySem PySem.Spec PyProof.Rows L2

/-! ### what is wanted of a mirror's outcome -/
/-- a Prop whose type names what comes behind, so that simp leaves it alone before its turn -/
abbrev PropOf.{u} {α : Sort u} (_ : α) : Type := Prop
abbrev PropOf4 (_ : MS → Prop) (_ : D → Dr → Prop) (_ _ : MS → Prop) : Type := Prop
def W0 (r : SR) (N : MS → Prop) (R : D → Dr → Prop) (Bk Ct : MS → Prop) : PropOf4 N R Bk Ct :=
  match r with
  | .nx μ => N μ
  | .rt d dr => R d dr
  | .bk μ => Bk μ
  | .ct μ => Ct μ
  | .bad => False
def WM0 {α : Type} (o : Option (α × MS)) (P : α → MS → Prop) : PropOf P :=
  match o with
  | some p => P p.1 p.2
  | none => False
def WO0 {α : Type} (o : Option α) (P : α → Prop) : PropOf P :=
  match o with
  | some a => P a
  | none => False
/-- a goal as a plain Prop -/
def Go (p : Prop) : Prop := p
@[simp] theorem go_eq {p : Prop} : Go p = p := propext Iff.rfl
section
variable {α β : Type} {N : MS → Prop} {R : D → Dr → Prop} {Bk Ct : MS → Prop} {μ : MS} {P : D → MS → Prop}
@[simp] theorem W0_nx : W0 (.nx μ) N R Bk Ct = N μ := rfl
@[simp] theorem W0_rt {d : D} {dr : Dr} : W0 (.rt d dr) N R Bk Ct = R d dr := rfl
@[simp] theorem W0_bk : W0 (.bk μ) N R Bk Ct = Bk μ := rfl
@[simp] theorem W0_ct : W0 (.ct μ) N R Bk Ct = Ct μ := rfl
@[simp] theorem W0_bad : W0 .bad N R Bk Ct = False := rfl
@[simp] theorem WM0_some {a : α} {Q : α → MS → Prop} : WM0 (some (a, μ)) Q = Q a μ := rfl
@[simp] theorem WM0_none {Q : α → MS → Prop} : WM0 none Q = False := rfl
@[simp] theorem WO0_some {a : α} {Q : α → Prop} : WO0 (some a) Q = Q a := rfl
@[simp] theorem WO0_none {Q : α → Prop} : WO0 none Q = False := rfl
@[simp] theorem WM0_bind {γ : Type} {o : Option γ} {f : γ → Option (α × MS)} {Q : α → MS → Prop} : WM0 (o.bind f) Q = WO0 o fun x => WM0 (f x) Q := by cases o <;> rfl
@[simp] theorem WO0_bind {γ : Type} {o : Option γ} {f : γ → Option α} {Q : α → Prop} : WO0 (o.bind f) Q = WO0 o fun x => WO0 (f x) Q := by cases o <;> rfl
theorem WM0_WO {o : Option (α × MS)} {Q : α → MS → Prop} : WM0 o Q = WO0 o fun p => Q p.1 p.2 := by cases o <;> rfl
theorem WO0_ext {o : Option α} {Q Q' : α → Prop} (h : ∀ a, Q a = Q' a) : WO0 o Q = WO0 o Q' := by rw [show Q = Q' from funext h]
@[simp] theorem WO0_ite {c : Prop} [Decidable c] {o p : Option α} {Q : α → Prop} : WO0 (if c then o else p) Q = if c then WO0 o Q else WO0 p Q := by split <;> rfl
@[simp] theorem WM0_ite {c : Prop} [Decidable c] {o p : Option (α × MS)} {Q : α → MS → Prop} : WM0 (if c then o else p) Q = if c then WM0 o Q else WM0 p Q := by split <;> rfl
@[simp] theorem W0_ite {c : Prop} [Decidable c] {o p : SR} : W0 (if c then o else p) N R Bk Ct = if c then W0 o N R Bk Ct else W0 p N R Bk Ct := by split <;> rfl
theorem W0_mono {r : SR} {N' : MS → Prop} {R' : D → Dr → Prop} {Bk' Ct' : MS → Prop} (h : W0 r N R Bk Ct) (h1 : ∀ μ, N μ → N' μ) (h2 : ∀ d dr, R d dr → R' d dr) (h3 : ∀ μ, Bk μ → Bk' μ) (h4 : ∀ μ, Ct μ → Ct' μ) : W0 r N' R' Bk' Ct' := by
  cases r with
  | nx μ => exact h1 _ h
  | rt d dr => exact h2 _ _ h
  | bk μ => exact h3 _ h
  | ct μ => exact h4 _ h
  | bad => exact h
theorem WM0_mono {o : Option (α × MS)} {Q Q' : α → MS → Prop} (h : WM0 o Q) (h1 : ∀ a μ, Q a μ → Q' a μ) : WM0 o Q' := by
  cases o with
  | none => exact h
  | some p => exact h1 _ _ h
theorem WO0_mono {o : Option α} {Q Q' : α → Prop} (h : WO0 o Q) (h1 : ∀ a, Q a → Q' a) : WO0 o Q' := by
  cases o with
  | none => exact h
  | some p => exact h1 _ h
theorem WO0_eq {o : Option α} {a : α} {Q : α → Prop} (h : o = some a) (q : Q a) : WO0 o Q := by rw [h]; exact q
/-! ### statements -/
theorem w0_seq {s t : MT} : W0 (sSeq s t μ) N R Bk Ct = W0 (s μ) (fun μ' => W0 (t μ') N R Bk Ct) R Bk Ct := by
  unfold sSeq
  cases s μ <;> rfl
theorem w0_nil : W0 (sNil μ) N R Bk Ct = N μ := rfl
theorem w0_if {m : M Bool} {s t : MT} : W0 (sIf m s t μ) N R Bk Ct = WM0 (m μ) fun b μ' => if b = true then W0 (s μ') N R Bk Ct else W0 (t μ') N R Bk Ct := by
  unfold sIf
  cases h : m μ with
  | none => rfl
  | some p =>
    obtain ⟨b, μ'⟩ := p
    cases b <;> simp [WM0]
theorem w0_ret {m : M D} : W0 (sRet m μ) N R Bk Ct = WM0 (m μ) fun d μ' => R d μ'.dr := by
  unfold sRet
  cases h : m μ with
  | none => rfl
  | some p => rfl
theorem w0_retN : W0 (sRetN μ) N R Bk Ct = R .none μ.dr := rfl
theorem w0_drop {m : M D} : W0 (sDrop m μ) N R Bk Ct = WM0 (m μ) fun _ μ' => N μ' := by
  unfold sDrop
  cases h : m μ with
  | none => rfl
  | some p => rfl
theorem w0_set {i : Nat} {m : M D} : W0 (sSet i m μ) N R Bk Ct = WM0 (m μ) fun d μ' => N (setS μ' i (.val d)) := by
  unfold sSet
  cases h : m μ with
  | none => rfl
  | some p => rfl
theorem w0_new {i : Nat} {m : M (List D)} : W0 (sNew i m μ) N R Bk Ct = WM0 (m μ) fun d μ' => N (setS μ' i (.own d)) := by
  unfold sNew
  cases h : m μ with
  | none => rfl
  | some p => rfl
theorem w0_break : W0 (sBreak μ) N R Bk Ct = Bk μ := rfl
theorem w0_cont : W0 (sCont μ) N R Bk Ct = Ct μ := rfl
def valAt (μ : MS) (i : Nat) : Option D := match μ.sl[i]? with
  | some (.val d) => some d
  | _ => none
theorem w0_aug {g : D → D → Option D} {i : Nat} {m : M D} : W0 (sAug g i m μ) N R Bk Ct = WO0 (valAt μ i) fun x => WM0 (m μ) fun y μ' => WO0 (g x y) fun z => N (setS μ' i (.val z)) := by
  unfold sAug valAt
  cases h : μ.sl[i]? with
  | none => rfl
  | some s =>
    cases s with
    | un => rfl
    | ow ds => rfl
    | val d =>
      simp only [WO0_some]
      cases h : m μ with
      | none => rfl
      | some p =>
        obtain ⟨y, μ'⟩ := p
        simp only [WM0_some]
        cases g d y <;> rfl
theorem w0_unp {g : D → MS → Option MS} {m : M D} : W0 (sUnp g m μ) N R Bk Ct = WM0 (m μ) fun d μ' => WO0 (g d μ') N := by
  unfold sUnp
  cases h : m μ with
  | none => rfl
  | some p =>
    obtain ⟨y, μ'⟩ := p
    simp only [WM0_some]
    cases g y μ' <;> rfl
theorem w0_par {is : List Nat} {m : M (List Sv)} : W0 (sPar is m μ) N R Bk Ct = WM0 (m μ) fun ss μ' => WO0 (putA is ss μ') N := by
  unfold sPar
  cases h : m μ with
  | none => rfl
  | some p =>
    obtain ⟨y, μ'⟩ := p
    simp only [WM0_some]
    cases putA is y μ' <;> rfl
theorem w0_ix {i : Nat} {mi me : M D} : W0 (sIx i mi me μ) N R Bk Ct = WM0 (me μ) fun d μ1 => WO0 (owned μ1 i) fun _ => WM0 (mi μ1) fun k μ2 => match k with
    | .int k => WO0 (owned μ2 i) fun ds => WO0 (ixN ds.length k) fun j => N (setS μ2 i (.own (ds.set j d)))
    | _ => False := by
  unfold sIx
  cases h : me μ with
  | none => rfl
  | some p =>
    obtain ⟨d, μ1⟩ := p
    simp only [WM0_some]
    cases owned μ1 i with
    | none => rfl
    | some ds0 =>
      simp only [WO0_some]
      cases h2 : mi μ1 with
      | none => rfl
      | some p =>
        obtain ⟨k, μ2⟩ := p
        simp only [WM0_some]
        cases k <;> try rfl
        simp only
        cases owned μ2 i with
        | none => rfl
        | some ds =>
          simp only [WO0_some]
          cases ixN ds.length _ <;> rfl
/-! ### for, while -/
/-- a loop whose turns go on, leave or hand back -/
theorem w0_for {γ δ : Type} {m : M (List D)} {g : D → MS → Option MS} {s : MT} (emb : δ → D) (A : γ → MS → Prop) (f : γ → δ → γ) {xs : List δ} {μ1 : MS} (hm : m μ = some (xs.map emb, μ1)) {a : γ} (h0 : A a μ1)
    (hs : ∀ (pre : List δ) (x : δ) (post : List δ) (μ : MS), xs = pre ++ x :: post → A (pre.foldl f a) μ → WO0 (g (emb x) μ) fun μ2 => W0 (s μ2) (A ((pre ++ [x]).foldl f a)) R N (A ((pre ++ [x]).foldl f a)))
    (hd : ∀ μ, A (xs.foldl f a) μ → N μ) : W0 (sFor m g s μ) N R Bk Ct := by
  unfold sFor
  rw [hm]
  simp only
  have key : ∀ (post pre : List δ) (μ : MS), xs = pre ++ post → A (pre.foldl f a) μ → W0 (loopF g s (post.map emb) μ) N R Bk Ct := by
    intro post
    induction post with
    | nil =>
      intro pre μ e h
      rw [List.append_nil] at e
      subst e
      exact hd μ h
    | cons x post ih =>
      intro pre μ e h
      have q := hs pre x post μ e h
      simp only [List.map_cons, loopF]
      cases hg : g (emb x) μ with
      | none => rw [hg] at q; exact q.elim
      | some μ2 =>
        rw [hg] at q
        simp only [WO0_some] at q
        simp only
        cases hb : s μ2 with
        | nx μ3 => rw [hb] at q; exact ih (pre ++ [x]) μ3 (by rw [e, List.append_assoc]; rfl) q
        | ct μ3 => rw [hb] at q; exact ih (pre ++ [x]) μ3 (by rw [e, List.append_assoc]; rfl) q
        | bk μ3 => rw [hb] at q; exact q
        | rt d dr => rw [hb] at q; exact q
        | bad => rw [hb] at q; exact q.elim
  exact key xs [] μ1 rfl h0
/-- the same, by the number of the turn -/
theorem w0_forI {δ : Type} {m : M (List D)} {g : D → MS → Option MS} {s : MT} (emb : δ → D) (A : Nat → MS → Prop) {xs : List δ} {μ1 : MS} (hm : m μ = some (xs.map emb, μ1)) (h0 : A 0 μ1)
    (hs : ∀ (i : Nat) (x : δ) (μ : MS), xs[i]? = some x → A i μ → WO0 (g (emb x) μ) fun μ2 => W0 (s μ2) (A (i + 1)) R N (A (i + 1)))
    (hd : ∀ μ, A xs.length μ → N μ) : W0 (sFor m g s μ) N R Bk Ct := by
  have fl : ∀ (l : List δ) (n : Nat), l.foldl (fun n _ => n + 1) n = n + l.length := by
    intro l
    induction l with
    | nil => intro n; rfl
    | cons x l ih => intro n; rw [List.foldl_cons, ih, List.length_cons]; omega
  refine w0_for (γ := Nat) emb A (fun n _ => n + 1) hm h0 (fun pre x post μ e h => ?_) (fun μ h => hd μ (by rw [fl] at h; simpa using h))
  rw [fl] at h ⊢
  rw [Nat.zero_add] at h ⊢
  have hx : xs[pre.length]? = some x := by rw [e]; simp
  rw [List.length_append, List.length_singleton]
  exact hs pre.length x μ hx h
theorem w0_forW {γ δ : Type} {m : M (List D)} {g : D → MS → Option MS} {s : MT} (emb : δ → D) (A : γ → MS → Prop) (f : γ → δ → γ) (xs : List δ) (a : γ) (hm : Go (WM0 (m μ) fun ds μ1 => ds = xs.map emb ∧ A a μ1))
    (hs : ∀ (pre : List δ) (x : δ) (post : List δ) (μ : MS), xs = pre ++ x :: post → A (pre.foldl f a) μ → Go (WO0 (g (emb x) μ) fun μ2 => W0 (s μ2) (A (f (pre.foldl f a) x)) R N (A (f (pre.foldl f a) x))))
    (hd : ∀ μ, A (xs.foldl f a) μ → Go (N μ)) : W0 (sFor m g s μ) N R Bk Ct := by
  unfold Go at hm hs hd
  cases h : m μ with
  | none => rw [h] at hm; exact hm.elim
  | some p =>
    obtain ⟨ds, μ1⟩ := p
    rw [h] at hm
    obtain ⟨rfl, hA⟩ := hm
    refine w0_for emb A f h hA (fun pre x post μ e h => ?_) hd
    have q := hs pre x post μ e h
    rw [List.foldl_append, List.foldl_cons, List.foldl_nil]
    exact q
theorem w0_forN {δ : Type} {m : M (List D)} {g : D → MS → Option MS} {s : MT} (emb : δ → D) (A : Nat → MS → Prop) (xs : List δ) (hm : Go (WM0 (m μ) fun ds μ1 => ds = xs.map emb ∧ A 0 μ1))
    (hs : ∀ (i : Nat) (x : δ) (μ : MS), xs[i]? = some x → A i μ → Go (WO0 (g (emb x) μ) fun μ2 => W0 (s μ2) (A (i + 1)) R N (A (i + 1))))
    (hd : ∀ μ, A xs.length μ → Go (N μ)) : W0 (sFor m g s μ) N R Bk Ct := by
  unfold Go at hm hs hd
  cases h : m μ with
  | none => rw [h] at hm; exact hm.elim
  | some p =>
    obtain ⟨ds, μ1⟩ := p
    rw [h] at hm
    obtain ⟨rfl, hA⟩ := hm
    exact w0_forI emb A h hA hs hd
theorem w0_while {m : M Bool} {s : MT} (A : Nat → MS → Prop) {n : Nat} (hn : n < fuel) (h0 : A n μ)
    (hs : ∀ n μ, A n μ → Go (WM0 (m μ) fun b μ1 => if b = true then W0 (s μ1) (fun μ2 => ∃ k, k < n ∧ A k μ2) R N (fun μ2 => ∃ k, k < n ∧ A k μ2) else N μ1)) : W0 (sWhile m s μ) N R Bk Ct := by
  unfold Go at hs
  unfold sWhile
  have key : ∀ (fu : Nat) (n : Nat) (μ : MS), n < fu → A n μ → W0 (whileF m s fu μ) N R Bk Ct := by
    intro fu
    induction fu with
    | zero => intro n μ h _; omega
    | succ fu ih =>
      intro n μ hl h
      have q := hs n μ h
      unfold whileF
      cases hm : m μ with
      | none => rw [hm] at q; exact q.elim
      | some p =>
        obtain ⟨b, μ1⟩ := p
        rw [hm] at q
        cases b with
        | false => simpa using q
        | true =>
          simp only [WM0_some, if_true] at q
          simp only
          cases hb : s μ1 with
          | nx μ3 =>
            rw [hb] at q
            obtain ⟨k, hk, q⟩ := q
            exact ih k μ3 (by omega) q
          | ct μ3 =>
            rw [hb] at q
            obtain ⟨k, hk, q⟩ := q
            exact ih k μ3 (by omega) q
          | bk μ3 => rw [hb] at q; exact q
          | rt d dr => rw [hb] at q; exact q
          | bad => rw [hb] at q; exact q.elim
  exact key fuel n μ hn h0
end
/-! ### expressions -/
section
variable {P : D → MS → Prop} {μ : MS}
theorem wm0_c {d : D} : WM0 (mC d μ) P = P d μ := rfl
theorem wm0_oVal {m : M D} {Q : O → MS → Prop} : WM0 (oVal m μ) Q = WM0 (m μ) fun d μ' => Q (.v d) μ' := by
  unfold oVal
  rw [WM0_bind, WM0_WO]; rfl
theorem wm0_oName {i : Nat} {Q : O → MS → Prop} : WM0 (oName i μ) Q = WO0 (look (.s i) μ) fun _ => Q (.s i) μ := by
  unfold oName
  rw [WM0_bind]; rfl
theorem wm0_m2 {g : D → D → Option D} {ma mb : M O} : WM0 (m2 g ma mb μ) P = WM0 (ma μ) fun o1 μ1 => WM0 (mb μ1) fun o2 μ2 => WO0 (look o1 μ2) fun d => WO0 (look o2 μ2) fun e => WO0 (g d e) fun z => P z μ2 := by
  unfold m2
  simp only [WM0_WO, WO0_bind, WO0_some]
  repeat (refine WO0_ext fun _ => ?_; try simp only [WM0_WO, WO0_bind, WO0_some])
theorem wm0_m2F {g : D → D → Option (List D)} {ma mb : M O} {Q : List D → MS → Prop} : WM0 (m2F g ma mb μ) Q = WM0 (ma μ) fun o1 μ1 => WM0 (mb μ1) fun o2 μ2 => WO0 (look o1 μ2) fun d => WO0 (look o2 μ2) fun e => WO0 (g d e) fun z => Q z μ2 := by
  unfold m2F
  simp only [WM0_WO, WO0_bind, WO0_some]
  repeat (refine WO0_ext fun _ => ?_; try simp only [WM0_WO, WO0_bind, WO0_some])
theorem wm0_m1 {g : D → Option D} {ma : M O} : WM0 (m1 g ma μ) P = WM0 (ma μ) fun o1 μ1 => WO0 (look o1 μ1) fun d => WO0 (g d) fun z => P z μ1 := by
  unfold m1
  simp only [WM0_WO, WO0_bind, WO0_some]
  repeat (refine WO0_ext fun _ => ?_; try simp only [WM0_WO, WO0_bind, WO0_some])
theorem wm0_mB {m : M D} {Q : Bool → MS → Prop} : WM0 (mB m μ) Q = WM0 (m μ) fun d μ1 => match d with
    | .bool b => Q b μ1
    | _ => False := by
  unfold mB
  rw [WM0_bind, WM0_WO]
  cases m μ with
  | none => rfl
  | some p =>
    obtain ⟨d, μ1⟩ := p
    cases d <;> rfl
theorem wm0_chain {g g' : D → D → Option D} {ma mb mc : M O} : WM0 (mChain g g' ma mb mc μ) P = WM0 (ma μ) fun o1 μ1 => WM0 (mb μ1) fun o2 μ2 => WO0 (look o1 μ2) fun d => WO0 (look o2 μ2) fun e => WO0 (g d e) fun z => match z with
    | .bool true => WM0 (mc μ2) fun o3 μ3 => WO0 (look o2 μ3) fun e' => WO0 (look o3 μ3) fun f => WO0 (g' e' f) fun z' => P z' μ3
    | .bool false => P (.bool false) μ2
    | _ => False := by
  unfold mChain
  simp only [WM0_WO, WO0_bind]
  refine WO0_ext fun p => ?_; try simp only [WM0_WO, WO0_bind]
  refine WO0_ext fun q => ?_; try simp only [WM0_WO, WO0_bind]
  refine WO0_ext fun d => ?_; try simp only [WM0_WO, WO0_bind]
  refine WO0_ext fun e => ?_; try simp only [WM0_WO, WO0_bind]
  refine WO0_ext fun z => ?_; try simp only [WM0_WO, WO0_bind]
  cases z <;> try rfl
  rename_i b
  cases b
  · rfl
  · simp only [WM0_WO, WO0_bind, WO0_some]
    repeat (refine WO0_ext fun _ => ?_; try simp only [WM0_WO, WO0_bind, WO0_some])
theorem wm0_aNil {Q : List O → MS → Prop} : WM0 (aNil μ) Q = Q [] μ := rfl
theorem wm0_aCons {m : M O} {n : M (List O)} {Q : List O → MS → Prop} : WM0 (aCons m n μ) Q = WM0 (m μ) fun o μ1 => WM0 (n μ1) fun os μ2 => Q (o :: os) μ2 := by
  unfold aCons
  simp only [WM0_WO, WO0_bind, WO0_some]
  repeat (refine WO0_ext fun _ => ?_; try simp only [WM0_WO, WO0_bind, WO0_some])
theorem wm0_call {α : Type} {g : List D → Option α} {ma : M (List O)} {Q : α → MS → Prop} : WM0 (mCall g ma μ) Q = WM0 (ma μ) fun os μ1 => WO0 (looks os μ1) fun ds => WO0 (g ds) fun z => Q z μ1 := by
  unfold mCall
  simp only [WM0_WO, WO0_bind, WO0_some]
  repeat (refine WO0_ext fun _ => ?_; try simp only [WM0_WO, WO0_bind, WO0_some])
theorem wm0_callU {f : FM} {ma : M (List O)} : WM0 (mCallU f ma μ) P = WM0 (ma μ) fun os μ1 => WO0 (looks os μ1) fun ds => WO0 (f ds μ1.dr) fun z => P z.1 (if flat z.1 = true then { μ1 with dr := z.2 } else { frzA os μ1 with dr := z.2 }) := by
  unfold mCallU
  simp only [WM0_WO, WO0_bind, WO0_some]
  repeat (refine WO0_ext fun _ => ?_; try simp only [WM0_WO, WO0_bind, WO0_some])
theorem wm0_truth {ma : M O} {Q : Bool → MS → Prop} : WM0 (mTruth ma μ) Q = WM0 (ma μ) fun o μ1 => WO0 (look o μ1) fun d => WO0 (truth d) fun b => Q b μ1 := by
  unfold mTruth
  simp only [WM0_WO, WO0_bind, WO0_some]
  repeat (refine WO0_ext fun _ => ?_; try simp only [WM0_WO, WO0_bind, WO0_some])
theorem wm0_and {m n : M Bool} {Q : Bool → MS → Prop} : WM0 (bAnd m n μ) Q = WM0 (m μ) fun b μ1 => if b = true then WM0 (n μ1) Q else Q false μ1 := by
  unfold bAnd
  rw [WM0_bind, WM0_WO]
  refine WO0_ext fun p => ?_; try simp only [WM0_WO, WO0_bind]
  split <;> rfl
theorem wm0_or {m n : M Bool} {Q : Bool → MS → Prop} : WM0 (bOr m n μ) Q = WM0 (m μ) fun b μ1 => if b = true then Q true μ1 else WM0 (n μ1) Q := by
  unfold bOr
  rw [WM0_bind, WM0_WO]
  refine WO0_ext fun p => ?_; try simp only [WM0_WO, WO0_bind]
  split <;> rfl
theorem wm0_not {m : M Bool} {Q : Bool → MS → Prop} : WM0 (bNot m μ) Q = WM0 (m μ) fun b μ1 => Q (!b) μ1 := by
  unfold bNot
  simp only [WM0_WO, WO0_bind, WO0_some]
  repeat (refine WO0_ext fun _ => ?_; try simp only [WM0_WO, WO0_bind, WO0_some])
theorem wm0_ife {m : M Bool} {n k : M D} : WM0 (eIf m n k μ) P = WM0 (m μ) fun b μ1 => if b = true then WM0 (n μ1) P else WM0 (k μ1) P := by
  unfold eIf
  rw [WM0_bind, WM0_WO]
  refine WO0_ext fun p => ?_; try simp only [WM0_WO, WO0_bind]
  split <;> rfl
theorem wm0_eand {m n : M D} : WM0 (eAnd m n μ) P = WM0 (m μ) fun d μ1 => WO0 (truth d) fun b => if b = true then WM0 (n μ1) P else P d μ1 := by
  unfold eAnd
  simp only [WM0_WO, WO0_bind]
  refine WO0_ext fun p => ?_; try simp only [WM0_WO, WO0_bind]
  refine WO0_ext fun b => ?_; try simp only [WM0_WO, WO0_bind]
  split <;> rfl
theorem wm0_eor {m n : M D} : WM0 (eOr m n μ) P = WM0 (m μ) fun d μ1 => WO0 (truth d) fun b => if b = true then P d μ1 else WM0 (n μ1) P := by
  unfold eOr
  simp only [WM0_WO, WO0_bind]
  refine WO0_ext fun p => ?_; try simp only [WM0_WO, WO0_bind]
  refine WO0_ext fun b => ?_; try simp only [WM0_WO, WO0_bind]
  split <;> rfl
theorem wm0_enot {ma : M O} : WM0 (eNot ma μ) P = WM0 (ma μ) fun o μ1 => WO0 (look o μ1) fun d => WO0 (truth d) fun b => P (.bool (!b)) μ1 := by
  unfold eNot
  simp only [WM0_bind]
  rw [← wm0_truth (Q := fun b μ1 => P (.bool (!b)) μ1), WM0_WO]
  rfl
theorem wm0_tup {m : M (List D)} : WM0 (mTup m μ) P = WM0 (m μ) fun ds μ1 => if ds.length ≤ 16777216 then P (.tuple ds) μ1 else False := by
  unfold mTup
  rw [WM0_bind, WM0_WO]
  refine WO0_ext fun p => ?_; try simp only [WM0_WO, WO0_bind]
  split <;> rfl
theorem wm0_lst {m : M (List D)} {Q : List D → MS → Prop} : WM0 (mLst m μ) Q = WM0 (m μ) fun ds μ1 => if ds.length ≤ 16777216 then Q ds μ1 else False := by
  unfold mLst
  rw [WM0_bind, WM0_WO]
  refine WO0_ext fun p => ?_; try simp only [WM0_WO, WO0_bind]
  split <;> rfl
theorem wm0_ds_nil {Q : List D → MS → Prop} : WM0 (mDs [] μ) Q = Q [] μ := rfl
theorem wm0_ds_cons {m : M D} {ms : List (M D)} {Q : List D → MS → Prop} : WM0 (mDs (m :: ms) μ) Q = WM0 (m μ) fun d μ1 => WM0 (mDs ms μ1) fun ds μ2 => Q (d :: ds) μ2 := by
  conv => lhs; unfold mDs
  simp only [WM0_WO, WO0_bind, WO0_some]
  repeat (refine WO0_ext fun _ => ?_; try simp only [WM0_WO, WO0_bind, WO0_some])
theorem wm0_new {m : M (List D)} : WM0 (eNew m μ) P = WM0 (m μ) fun ds μ1 => P (.list ds) μ1 := by
  unfold eNew
  simp only [WM0_WO, WO0_bind, WO0_some]
  repeat (refine WO0_ext fun _ => ?_; try simp only [WM0_WO, WO0_bind, WO0_some])
theorem wm0_seq {m : M D} {Q : List D → MS → Prop} : WM0 (mSeq m μ) Q = WM0 (m μ) fun d μ1 => WO0 (items d) fun ds => Q ds μ1 := by
  unfold mSeq
  simp only [WM0_WO, WO0_bind, WO0_some]
  repeat (refine WO0_ext fun _ => ?_; try simp only [WM0_WO, WO0_bind, WO0_some])
theorem wm0_xNil {Q : List Sv → MS → Prop} : WM0 (xNil μ) Q = Q [] μ := rfl
theorem wm0_xVal {m : M D} {n : M (List Sv)} {Q : List Sv → MS → Prop} : WM0 (xVal m n μ) Q = WM0 (m μ) fun d μ1 => WM0 (n μ1) fun ss μ2 => Q (.val d :: ss) μ2 := by
  unfold xVal
  simp only [WM0_WO, WO0_bind, WO0_some]
  repeat (refine WO0_ext fun _ => ?_; try simp only [WM0_WO, WO0_bind, WO0_some])
theorem wm0_xNew {m : M (List D)} {n : M (List Sv)} {Q : List Sv → MS → Prop} : WM0 (xNew m n μ) Q = WM0 (m μ) fun d μ1 => WM0 (n μ1) fun ss μ2 => Q (.own d :: ss) μ2 := by
  unfold xNew
  simp only [WM0_WO, WO0_bind, WO0_some]
  repeat (refine WO0_ext fun _ => ?_; try simp only [WM0_WO, WO0_bind, WO0_some])
theorem wm0_pNone {Q : Option Int → MS → Prop} : WM0 (pNone μ) Q = Q none μ := rfl
theorem wm0_pSome {m : M D} {Q : Option Int → MS → Prop} : WM0 (pSome m μ) Q = WM0 (m μ) fun d μ1 => match d with
    | .int i => Q (some i) μ1
    | _ => False := by
  unfold pSome
  rw [WM0_bind, WM0_WO]
  refine WO0_ext fun p => ?_; try simp only [WM0_WO, WO0_bind]
  obtain ⟨d, μ1⟩ := p
  cases d <;> rfl
theorem wm0_sl {α : Type} {g : D → Option Int → Option Int → Option α} {ma : M O} {ml mh : M (Option Int)} {Q : α → MS → Prop} : WM0 (mSl g ma ml mh μ) Q = WM0 (ma μ) fun o μ1 => WM0 (ml μ1) fun l μ2 => WM0 (mh μ2) fun h μ3 => WO0 (look o μ3) fun d => WO0 (g d l h) fun z => Q z μ3 := by
  unfold mSl
  simp only [WM0_WO, WO0_bind, WO0_some]
  repeat (refine WO0_ext fun _ => ?_; try simp only [WM0_WO, WO0_bind, WO0_some])
theorem wm0_app {i : Nat} {m : M D} : WM0 (mApp i m μ) P = WO0 (owned μ i) fun _ => WM0 (m μ) fun d μ1 => WO0 (owned μ1 i) fun ds => if ds.length < 16777216 then P .none (setS μ1 i (.own (ds ++ [d]))) else False := by
  unfold mApp
  simp only [WM0_WO, WO0_bind]
  refine WO0_ext fun _ => ?_; try simp only [WM0_WO, WO0_bind]
  refine WO0_ext fun p => ?_; try simp only [WM0_WO, WO0_bind]
  refine WO0_ext fun ds => ?_; try simp only [WM0_WO, WO0_bind]
  split <;> rfl
theorem wm0_ext {i : Nat} {m : M O} : WM0 (mExt i m μ) P = WO0 (owned μ i) fun _ => WM0 (m μ) fun o μ1 => WO0 (owned μ1 i) fun ds => WO0 (look o μ1) fun e => match e with
    | .list es => if ds.length + es.length ≤ 16777216 then P .none (setS μ1 i (.own (ds ++ es))) else False
    | _ => False := by
  unfold mExt
  simp only [WM0_WO, WO0_bind]
  refine WO0_ext fun _ => ?_; try simp only [WM0_WO, WO0_bind]
  refine WO0_ext fun p => ?_; try simp only [WM0_WO, WO0_bind]
  refine WO0_ext fun ds => ?_; try simp only [WM0_WO, WO0_bind]
  refine WO0_ext fun e => ?_; try simp only [WM0_WO, WO0_bind]
  cases e <;> try rfl
  simp only
  split <;> rfl
theorem wm0_pop {i : Nat} : WM0 (mPop i μ) P = WO0 (owned μ i) fun ds => WO0 (ds[ds.length - 1]?) fun d => P d (setS μ i (.own ds.dropLast)) := by
  unfold mPop
  simp only [WM0_WO, WO0_bind, WO0_some]
  repeat (refine WO0_ext fun _ => ?_; try simp only [WM0_WO, WO0_bind, WO0_some])
theorem wm0_popAt {i : Nat} {m : M D} : WM0 (mPopAt i m μ) P = WO0 (owned μ i) fun _ => WM0 (m μ) fun k μ1 => WO0 (owned μ1 i) fun ds => match k with
    | .int j => if -(2 ^ 63) ≤ j ∧ j < 2 ^ 63 then WO0 (seqIndex? j ds.length) fun k => WO0 (ds[k]?) fun d => P d (setS μ1 i (.own (ds.eraseIdx k))) else False
    | _ => False := by
  unfold mPopAt
  simp only [WM0_WO, WO0_bind]
  refine WO0_ext fun _ => ?_; try simp only [WM0_WO, WO0_bind]
  refine WO0_ext fun p => ?_; try simp only [WM0_WO, WO0_bind]
  refine WO0_ext fun ds => ?_; try simp only [WM0_WO, WO0_bind]
  obtain ⟨k, μ1⟩ := p
  cases k <;> try rfl
  simp only
  split
  · simp only [WM0_WO, WO0_bind, WO0_some]
    repeat (refine WO0_ext fun _ => ?_; try simp only [WM0_WO, WO0_bind, WO0_some])
  · rfl
/-- the data in a slot -/
def slDt : Sl → Option D
  | .val d => some d
  | .ow o => some o.dat
  | .un => none
@[simp] theorem dat_l {ds : List D} : (Ob.l ds).dat = .list ds := rfl
@[simp] theorem dat_d {tk : Bool} {ks : List (D × D)} : (Ob.d tk ks).dat = .dict ((.bool tk, .none) :: ks) := rfl
@[simp] theorem slDt_ow {o : Ob} : slDt (.ow o) = some o.dat := rfl
@[simp] theorem slDt_val {d : D} : slDt (.val d) = some d := rfl
@[simp] theorem slDt_own {ds : List D} : slDt (.own ds) = some (.list ds) := rfl
@[simp] theorem slDt_un : slDt .un = none := rfl
theorem set_get {α : Type} {l : List α} {i : Nat} {a : α} (h : l[i]? = some a) : l.set i a = l := by
  apply List.ext_getElem?
  intro j
  by_cases hj : i = j
  · subst hj
    rw [List.getElem?_set_self (List.getElem?_eq_some_iff.mp h).1, h]
  · rw [List.getElem?_set_ne hj]
theorem wm0_var {i : Nat} : WM0 (mVar i μ) P = WO0 ((μ.sl[i]?).bind slDt) fun d => P d (setS μ i (.val d)) := by
  obtain ⟨l, dr⟩ := μ
  unfold mVar frz oName look
  cases h : l[i]? with
  | none => simp [h]
  | some s =>
    cases s with
    | un => simp [h]
    | val d => simp [h, setS, set_get h]
    | ow ds => simp [h]
@[simp] theorem look_v {d : D} : look (.v d) μ = some d := rfl
@[simp] theorem look_s {i : Nat} : look (.s i) μ = (μ.sl[i]?).bind slDt := by
  unfold look
  cases h : μ.sl[i]? with
  | none => simp [h]
  | some s => cases s <;> simp [h]
@[simp] theorem looks_nil : looks [] μ = some [] := rfl
@[simp] theorem looks_cons {o : O} {os : List O} : looks (o :: os) μ = (look o μ).bind fun d => (looks os μ).bind fun ds => some (d :: ds) := rfl
@[simp] theorem owned_mk {l : List Sl} {dr : Dr} {i : Nat} : owned ⟨l, dr⟩ i = match l[i]? with
    | some (.ow (.l ds)) => some ds
    | _ => none := rfl
@[simp] theorem valAt_mk {l : List Sl} {dr : Dr} {i : Nat} : valAt ⟨l, dr⟩ i = match l[i]? with
    | some (.val ds) => some ds
    | _ => none := rfl
@[simp] theorem setS_mk {l : List Sl} {dr : Dr} {i : Nat} {s : Sl} : setS ⟨l, dr⟩ i s = ⟨l.set i s, dr⟩ := rfl
@[simp] theorem gN_ev {i : Nat} {d : D} : gN i d μ = some (setS μ i (.val d)) := rfl
@[simp] theorem gsNil_ev : gsNil [] μ = some μ := rfl
@[simp] theorem gsCons_ev {m : D → MS → Option MS} {n : List D → MS → Option MS} {d : D} {ds : List D} : gsCons m n (d :: ds) μ = (m d μ).bind fun μ' => n ds μ' := rfl
@[simp] theorem gT_ev {n : Nat} {m : List D → MS → Option MS} {ds : List D} : gT n m (.tuple ds) μ = if ds.length = n then m ds μ else none := rfl
@[simp] theorem putA_nil : putA [] [] μ = some μ := rfl
@[simp] theorem putA_cons {i : Nat} {is : List Nat} {s : Sv} {ss : List Sv} : putA (i :: is) (s :: ss) μ = putA is ss (setS μ i s.sl) := rfl
@[simp] theorem sv_val {d : D} : (Sv.val d).sl = .val d := rfl
@[simp] theorem sv_own {d : List D} : (Sv.own d).sl = .own d := rfl
@[simp] theorem frzA_nil : frzA [] μ = μ := rfl
@[simp] theorem frzA_v {d : D} {os : List O} : frzA (.v d :: os) μ = frzA os μ := rfl
@[simp] theorem frzA_s {i : Nat} {os : List O} : frzA (.s i :: os) μ = frzA os (match μ.sl[i]? with
    | some (.ow o) => setS μ i (.val o.dat)
    | _ => μ) := rfl
@[simp] theorem flat_int {i : Int} : flat (.int i) = true := rfl
@[simp] theorem flat_bool {i : Bool} : flat (.bool i) = true := rfl
@[simp] theorem flat_str {i : Str} : flat (.str i) = true := rfl
@[simp] theorem flat_none : flat .none = true := rfl
@[simp] theorem flat_tuple {ds : List D} : flat (.tuple ds) = false := rfl
@[simp] theorem flat_list {ds : List D} : flat (.list ds) = false := rfl
end
/-! ### comprehensions -/
/-- over a source, every element told by the item alone -/
theorem mLc_map {δ : Type} {mi : M (List D)} {i : Nat} {m : M D} {μ : MS} {l : List Sl} {dr : Dr} (emb : δ → D) (f : δ → D) {xs : List δ} (hm : mi μ = some (xs.map emb, ⟨l, dr⟩)) (hl : xs.length ≤ 16777216) (hi : ∀ ds, l[i]? ≠ some (.ow ds))
    (he : ∀ x ∈ xs, m ⟨l.set i (.val (emb x)), dr⟩ = some (f x, ⟨l.set i (.val (emb x)), dr⟩)) : mLc mi (gN i) tYesM m [i] μ = some (xs.map f, ⟨l, dr⟩) := by
  unfold mLc
  rw [hm]
  have key : ∀ (ys : List δ) (acc : List D), (∀ x ∈ ys, x ∈ xs) → acc.length + ys.length ≤ xs.length → loopC (gN i) tYesM m [i] (ys.map emb) acc ⟨l.set i .un, dr⟩ = some (acc ++ ys.map f, ⟨l.set i .un, dr⟩) := by
    intro ys
    induction ys with
    | nil => intro acc _ _; simp [loopC]
    | cons y ys ih =>
      intro acc hs hln
      rw [List.length_cons] at hln
      have hy := he y (hs y List.mem_cons_self)
      simp only [List.map_cons, loopC, gN_ev, setS_mk, Option.bind_some, tYesM, if_true, List.set_set, hy]
      rw [if_pos (by show acc.length < 16777216; omega)]
      have e1 : wipeS ⟨l.set i (.val (emb y)), dr⟩ [i] = ⟨l.set i .un, dr⟩ := by simp [wipeS]
      rw [e1, ih _ (fun x hx => hs x (List.mem_cons_of_mem _ hx)) (by rw [List.length_append, List.length_singleton]; omega)]
      simp
  have e1 : wipeS ⟨l, dr⟩ [i] = ⟨l.set i .un, dr⟩ := by simp [wipeS]
  simp only [Option.bind_some, e1]
  rw [key xs [] (fun _ h => h) (by simp)]
  simp only [Option.bind_some, List.nil_append]
  have e2 : restS ⟨l, dr⟩ [i] ⟨l.set i .un, dr⟩ = ⟨l, dr⟩ := by
    unfold restS
    split
    · rename_i d hd
      simp only [restS, setS_mk, List.set_set]
      have hd' : l[i]? = some (.val d) := hd
      congr 1
      apply List.ext_getElem?
      intro j
      by_cases hj : i = j
      · subst hj
        have hl : i < l.length := (List.getElem?_eq_some_iff.mp hd').1
        rw [List.getElem?_set_self hl, hd']
      · rw [List.getElem?_set_ne hj]
    · rename_i hd
      simp only [restS]
      congr 1
      apply List.ext_getElem?
      intro j
      by_cases hj : i = j
      · subst hj
        by_cases hl : i < l.length
        · rw [List.getElem?_set_self hl]
          cases q : l[i]? with
          | none => rw [List.getElem?_eq_none_iff] at q; omega
          | some s =>
            cases s with
            | un => rfl
            | val d => exact absurd q (hd d)
            | ow ds => exact absurd q (hi ds)
        · rw [List.getElem?_eq_none (by simpa using hl), List.getElem?_eq_none (by simpa using hl)]
      · rw [List.getElem?_set_ne hj]
  rw [e2]
/-! ### defs -/
/-- a def's mirror, by what is wanted of its body -/
theorem fnM_eq0 {n : Nat} {b : MT} {ds : List D} {dr : Dr} {d : D} {dr' : Dr} (h : Go (W0 (b ⟨ds.map Sl.val ++ List.replicate (n - ds.length) Sl.un, dr⟩) (fun μ => d = .none ∧ μ.dr = dr') (fun e er => e = d ∧ er = dr') (fun _ => False) (fun _ => False))) : fnM n b ds dr = some (d, dr') := by
  unfold Go at h
  unfold fnM
  cases hb : b ⟨ds.map Sl.val ++ List.replicate (n - ds.length) Sl.un, dr⟩ with
  | nx μ => rw [hb] at h; obtain ⟨h1, h2⟩ := h; simp [h1, h2]
  | rt e er => rw [hb] at h; obtain ⟨h1, h2⟩ := h; simp [h1, h2]
  | bk μ => rw [hb] at h; exact h.elim
  | ct μ => rw [hb] at h; exact h.elim
  | bad => rw [hb] at h; exact h.elim
theorem fnM_wo0 {n : Nat} {b : MT} {ds : List D} {dr : Dr} {Q : D × Dr → Prop} (h : Go (W0 (b ⟨ds.map Sl.val ++ List.replicate (n - ds.length) Sl.un, dr⟩) (fun μ => Q (.none, μ.dr)) (fun e er => Q (e, er)) (fun _ => False) (fun _ => False))) : WO0 (fnM n b ds dr) Q := by
  unfold Go at h
  unfold fnM
  cases hb : b ⟨ds.map Sl.val ++ List.replicate (n - ds.length) Sl.un, dr⟩ with
  | nx μ => rw [hb] at h; exact h
  | rt e er => rw [hb] at h; exact h
  | bk μ => rw [hb] at h; exact h.elim
  | ct μ => rw [hb] at h; exact h.elim
  | bad => rw [hb] at h; exact h.elim
/-- a draw is told by its bounds -/
theorem draw_wo0 {m : Int} {dr : Dr} {Q : D × Dr → Prop} (h0 : 0 < m) (h1 : m < 2 ^ 8000) (h : ∀ r dr', 0 ≤ r → r < m → Go (Q (.int r, dr'))) : WO0 (drawF [.dict [], .int m] dr) Q := by
  unfold drawF
  have hl : m.natAbs.log2 < 9000 := by
    have : m.natAbs < 2 ^ 8000 := by omega
    have h2 := PySem.Flt.log2_lt_of (by decide : 0 < 8000) this
    omega
  simp only [if_pos (show 0 < m ∧ m.natAbs.log2 < 9000 from ⟨h0, hl⟩), WO0_some]
  unfold drawM
  split
  · exact h _ _ (Int.emod_nonneg _ (by omega)) (Int.emod_lt_of_pos _ h0)
  · exact h _ _ (Int.emod_nonneg _ (by omega)) (Int.emod_lt_of_pos _ h0)
/-! ### sizes -/
theorem bits_of {i : Int} {n : Nat} (h : i.natAbs < 2 ^ n) : Builtin.Int.intBits i ≤ n := PyProof.Rows.intBits_le h
theorem mulD_of {a b : Int} (m n : Nat) (ha : a.natAbs < 2 ^ m) (hb : b.natAbs < 2 ^ n) (h : m + n ≤ 134217728) : mulD (.int a) (.int b) = some (.int (a * b)) := by
  unfold mulD
  have h1 := bits_of ha
  have h2 := bits_of hb
  simp only
  rw [if_pos (by omega)]
theorem fdivD_of {a b : Int} (h0 : 0 < b) (h : b.natAbs < 2 ^ 8000) : fdivD (.int a) (.int b) = some (.int (a / b)) := by
  unfold fdivD
  have h2 := PySem.Flt.log2_lt_of (by decide : 0 < 8000) h
  simp only
  rw [if_pos ⟨h0, by omega⟩]
theorem modD_of {a b : Int} (h0 : 0 < b) : modD (.int a) (.int b) = some (.int (a % b)) := by
  unfold modD
  simp only
  rw [if_pos h0]
@[simp] theorem addD_int {a b : Int} : addD (.int a) (.int b) = some (.int (a + b)) := rfl
@[simp] theorem subD_int {a b : Int} : subD (.int a) (.int b) = some (.int (a - b)) := rfl
@[simp] theorem addI_int {a b : Int} : addI (.int a) (.int b) = some (.int (a + b)) := rfl
@[simp] theorem negD_int {a : Int} : negD (.int a) = some (.int (-a)) := rfl
@[simp] theorem lenD_list {ds : List D} : lenD [.list ds] = some (.int ds.length) := rfl
@[simp] theorem lenD_tuple {ds : List D} : lenD [.tuple ds] = some (.int ds.length) := rfl
@[simp] theorem listF_list {ds : List D} : listF [.list ds] = some ds := rfl
@[simp] theorem listF_tuple {ds : List D} : listF [.tuple ds] = some ds := rfl
@[simp] theorem tupD_list {ds : List D} : tupD [.list ds] = some (.tuple ds) := rfl
@[simp] theorem tupD_tuple {ds : List D} : tupD [.tuple ds] = some (.tuple ds) := rfl
@[simp] theorem intD_int {i : Int} : intD [.int i] = some (.int i) := rfl
@[simp] theorem intD_bool {k : Bool} : intD [.bool k] = some (.int (if k then 1 else 0)) := rfl
@[simp] theorem ltD_int {a b : Int} : ltD (.int a) (.int b) = some (.bool (decide (a < b))) := rfl
@[simp] theorem leD_int {a b : Int} : leD (.int a) (.int b) = some (.bool (decide (a ≤ b))) := rfl
@[simp] theorem gtD_int {a b : Int} : gtD (.int a) (.int b) = some (.bool (decide (b < a))) := rfl
@[simp] theorem geD_int {a b : Int} : geD (.int a) (.int b) = some (.bool (decide (b ≤ a))) := rfl
@[simp] theorem eqD_int {a b : Int} : eqD (.int a) (.int b) = some (.bool (a == b)) := by simp [eqD, SeqAt.shaped, PyData.canLay0, PyData.depth, PyData.eqv]
@[simp] theorem neD_int {a b : Int} : neD (.int a) (.int b) = some (.bool (!(a == b))) := by simp [neD, SeqAt.shaped, PyData.canLay0, PyData.depth, PyData.eqv]
@[simp] theorem isD_none {d : D} : isD d .none = some (.bool (isNone d)) := by cases d <;> rfl
@[simp] theorem isNotD_none {d : D} : isNotD d .none = some (.bool (!isNone d)) := by cases d <;> rfl
@[simp] theorem isNone_none : isNone .none = true := rfl
@[simp] theorem isNone_int {i : Int} : isNone (.int i) = false := rfl
@[simp] theorem isNone_tuple {ds : List D} : isNone (.tuple ds) = false := rfl
@[simp] theorem isNone_list {ds : List D} : isNone (.list ds) = false := rfl
@[simp] theorem isNone_str {x : Str} : isNone (.str x) = false := rfl
@[simp] theorem isNone_bool {x : Bool} : isNone (.bool x) = false := rfl
@[simp] theorem truth_bool {b : Bool} : truth (.bool b) = some b := rfl
@[simp] theorem truth_int {i : Int} : truth (.int i) = some (i != 0) := rfl
@[simp] theorem truth_list {ds : List D} : truth (.list ds) = some (!ds.isEmpty) := rfl
@[simp] theorem truth_tuple {ds : List D} : truth (.tuple ds) = some (!ds.isEmpty) := rfl
@[simp] theorem truth_none : truth .none = some false := rfl
@[simp] theorem items_list {ds : List D} : items (.list ds) = some ds := rfl
@[simp] theorem items_tuple {ds : List D} : items (.tuple ds) = some ds := rfl
/-! ### items by place -/
theorem atI_get {α : Type} {xs : List α} {i : Nat} {x : α} (h : xs[i]? = some x) : atI xs (i : Int) = some x := L2.atI_nat h
theorem atI_int {α : Type} {xs : List α} {i : Int} {x : α} (h0 : 0 ≤ i) (h : xs[i.toNat]? = some x) : atI xs i = some x := by
  have e : i = (i.toNat : Int) := by omega
  rw [e]
  exact L2.atI_nat h
/-- a comprehension whose elements are told in order; the state may move -/
theorem wm0_lc_forN {δ : Type} {mi : M (List D)} {g : D → MS → Option MS} {m : M D} {vs : List Nat} {μ : MS} {Q : List D → MS → Prop} (emb : δ → D) (A : Nat → List D → MS → Prop) (xs : List δ) (hl : xs.length ≤ 16777216)
    (hm : Go (WM0 (mi μ) fun ds μ1 => ds = xs.map emb ∧ A 0 [] (wipeS μ1 vs) ∧ ∀ acc μ2, A xs.length acc μ2 → Go (Q acc (restS μ1 vs μ2))))
    (hs : ∀ (i : Nat) (x : δ) (acc : List D) (μ : MS), xs[i]? = some x → acc.length = i → A i acc μ → Go (WO0 (g (emb x) μ) fun μ2 => WM0 (m μ2) fun d μ3 => A (i + 1) (acc ++ [d]) (wipeS μ3 vs))) : WM0 (mLc mi g tYesM m vs μ) Q := by
  unfold Go at hm hs
  unfold mLc
  cases h : mi μ with
  | none => rw [h] at hm; exact hm.elim
  | some p =>
    obtain ⟨ds, μ1⟩ := p
    rw [h] at hm
    obtain ⟨rfl, hA, hQ⟩ := hm
    simp only [Option.bind_some]
    have key : ∀ (ys : List δ) (i : Nat) (acc : List D) (μ : MS), ys = xs.drop i → i + ys.length = xs.length → acc.length = i → A i acc μ → ∃ acc' μ', loopC g tYesM m vs (ys.map emb) acc μ = some (acc', μ') ∧ A xs.length acc' μ' := by
      intro ys
      induction ys with
      | nil =>
        intro i acc μ e hi ha hA
        simp only [List.length_nil, Nat.add_zero] at hi
        exact ⟨acc, μ, rfl, hi ▸ hA⟩
      | cons y ys ih =>
        intro i acc μ e hi ha hA
        simp only [List.length_cons] at hi
        have hy : xs[i]? = some y := by
          have := List.getElem?_drop (xs := xs) (i := i) (j := 0)
          rw [← e] at this
          simpa using this.symm
        have q := hs i y acc μ hy ha hA
        simp only [List.map_cons, loopC]
        cases hg : g (emb y) μ with
        | none => rw [hg] at q; exact q.elim
        | some μ2 =>
          rw [hg] at q
          simp only [WO0_some] at q
          simp only [Option.bind_some, tYesM, if_true]
          cases hb : m μ2 with
          | none => rw [hb] at q; exact q.elim
          | some r =>
            obtain ⟨d, μ3⟩ := r
            rw [hb] at q
            simp only [Option.bind_some]
            rw [if_pos (show acc.length < lineN by show acc.length < 16777216; omega)]
            refine ih (i + 1) _ _ ?_ (by omega) (by rw [List.length_append, List.length_singleton]; omega) q
            have := congrArg List.tail e
            simpa [List.tail_drop] using this
    obtain ⟨acc', μ', e, hA'⟩ := key xs 0 [] _ rfl (by simp) rfl hA
    rw [e]
    exact hQ _ _ hA'
/-- the mirror of range -/
theorem rng1_nat {n : Nat} (h : n < 2 ^ 62) : rng1 [.int (n : Int)] = some ((List.range n).map fun (i : Nat) => .int (i : Int)) := by
  unfold rng1 intsR
  simp only
  rw [if_pos (by constructor <;> omega)]
  simp
theorem rng1_int {j : Int} (h0 : 0 ≤ j) (h : j < 2 ^ 62) : rng1 [.int j] = some ((List.range j.toNat).map fun (i : Nat) => .int (i : Int)) := by
  have e : j = (j.toNat : Int) := by omega
  rw [e]
  exact rng1_nat (by omega)
theorem rng2_int {i j : Int} (h0 : 0 ≤ i) (hi : i < 2 ^ 62) (h1 : 0 ≤ j) (h : j < 2 ^ 62) : rng2 [.int i, .int j] = some ((List.range (j - i).toNat).map fun (k : Nat) => .int (i + (k : Int))) := by
  unfold rng2 intsR
  simp only
  rw [if_pos (by omega)]
theorem bools_map {α : Type} (p : α → Bool) : ∀ xs : List α, bools? (xs.map fun x => .bool (p x)) = some (xs.map p)
  | [] => rfl
  | x :: xs => by simp [bools?, bools_map p xs]
theorem allD_map {α : Type} {p : α → Bool} {xs : List α} : allD [.list (xs.map fun x => .bool (p x))] = some (.bool (xs.all p)) := by
  simp [allD, bools_map, List.all_map]
theorem anyD_map {α : Type} {p : α → Bool} {xs : List α} : anyD [.list (xs.map fun x => .bool (p x))] = some (.bool (xs.any p)) := by
  simp [anyD, bools_map, List.any_map]
theorem powD_of {a b : Int} (h0 : 0 ≤ b) (h1 : b ≤ 1000000) (h2 : a.natAbs < 2 ^ 64) : powD (.int a) (.int b) = some (.int (a ^ b.toNat)) := by
  unfold powD
  simp only
  rw [if_pos ⟨h0, h1, h2⟩]
theorem shlD_of {a b : Int} (n : Nat) (h0 : 0 ≤ b) (h1 : a.natAbs < 2 ^ n) (h2 : n + b ≤ 134217728) : shlD (.int a) (.int b) = some (.int (a * 2 ^ b.toNat)) := by
  unfold shlD
  have := bits_of h1
  simp only
  rw [if_pos ⟨h0, by omega⟩]
theorem mulB {a b : Int} (m n : Nat) (ha : a.natAbs < 2 ^ m) (hb : b.natAbs < 2 ^ n) : (a * b).natAbs < 2 ^ (m + n) := by
  rw [Int.natAbs_mul, Nat.pow_add]
  exact Nat.mul_lt_mul_of_lt_of_lt ha hb
theorem ixD_list {ds : List D} {i : Nat} {d : D} (h : ds[i]? = some d) : ixD (.list ds) (.int (i : Int)) = some d := atI_get h
theorem ixD_tuple {ds : List D} {i : Nat} {d : D} (h : ds[i]? = some d) : ixD (.tuple ds) (.int (i : Int)) = some d := atI_get h
theorem ixD_listI {ds : List D} {i : Int} {d : D} (h0 : 0 ≤ i) (h : ds[i.toNat]? = some d) : ixD (.list ds) (.int i) = some d := atI_int h0 h
theorem ixD_tupleI {ds : List D} {i : Int} {d : D} (h0 : 0 ≤ i) (h : ds[i.toNat]? = some d) : ixD (.tuple ds) (.int i) = some d := atI_int h0 h
theorem ixD_last {ds : List D} {d : D} : ixD (.list (ds ++ [d])) (.int (-1)) = some d := by
  show atI _ _ = _
  unfold atI ixN
  rw [if_neg (by decide), if_pos (by simp; omega), List.length_append, List.length_singleton, show ((-1 : Int) + ((ds.length + 1 : Nat) : Int)).toNat = ds.length by omega]
  simp
theorem of_W00 {r : SR} (h : W0 r (fun _ => False) (fun d _ => d = .bool true) (fun _ => False) (fun _ => False)) : ∃ dr, r = .rt (.bool true) dr := by
  cases r with
  | rt d dr => exact ⟨dr, by rw [show d = .bool true from h]⟩
  | nx μ => exact h.elim
  | bk μ => exact h.elim
  | ct μ => exact h.elim
  | bad => exact h.elim
/-! ### the shape of data -/
theorem shaped_of {d : D} (h1 : d.canLay0 = true) (h2 : d.depth ≤ 64) : SeqAt.shaped d = true := by
  unfold SeqAt.shaped
  rw [h1, decide_eq_true h2]
  rfl
theorem lay_ints : ∀ ns : List Int, PyData.canLayAll0 (ns.map PyData.int) = true ∧ PyData.depthAll (ns.map PyData.int) = 0
  | [] => ⟨rfl, rfl⟩
  | n :: ns => by
    obtain ⟨h1, h2⟩ := lay_ints ns
    simp only [List.map_cons, PyData.canLayAll0, PyData.depthAll, PyData.canLay0, PyData.depth, h1, h2]
    exact ⟨rfl, rfl⟩
theorem eqv_ints : ∀ ns ms : List Int, PyData.eqvAll (ns.map PyData.int) (ms.map PyData.int) = decide (ns = ms)
  | [], [] => rfl
  | [], _ :: _ => rfl
  | _ :: _, [] => rfl
  | n :: ns, m :: ms => by
    simp only [List.map_cons, PyData.eqvAll, PyData.eqv, eqv_ints ns ms, List.cons.injEq, Bool.decide_and, Bool.beq_eq_decide_eq]
theorem shaped_ints {ns : List Int} : SeqAt.shaped (.tuple (ns.map PyData.int)) = true ∧ SeqAt.shaped (.list (ns.map PyData.int)) = true := by
  obtain ⟨h1, h2⟩ := lay_ints ns
  constructor
  · exact shaped_of (by rw [PyData.canLay0]; exact h1) (by rw [PyData.depth, h2]; decide)
  · exact shaped_of (by rw [PyData.canLay0]; exact h1) (by rw [PyData.depth, h2]; decide)
theorem eqD_list_ints {ns ms : List Int} : eqD (.list (ns.map PyData.int)) (.list (ms.map PyData.int)) = some (.bool (decide (ns = ms))) := by
  unfold eqD
  rw [(shaped_ints (ns := ns)).2, (shaped_ints (ns := ms)).2]
  simp [PyData.eqv, eqv_ints]
theorem eqD_tuple_ints {ns ms : List Int} : eqD (.tuple (ns.map PyData.int)) (.tuple (ms.map PyData.int)) = some (.bool (decide (ns = ms))) := by
  unfold eqD
  rw [(shaped_ints (ns := ns)).1, (shaped_ints (ns := ms)).1]
  simp [PyData.eqv, eqv_ints]
theorem neD_of_eqD {d e : D} {b : Bool} (h : eqD d e = some (.bool b)) : neD d e = some (.bool (!b)) := by
  unfold eqD at h
  unfold neD
  split at h
  · rename_i hs
    cases h
    rw [if_pos hs]
  · cases h
/-! ### equal data -/
mutual
theorem eqv_rfl : ∀ d : D, d.canLay0 = true → PyData.eqv d d = true
  | .none, _ => rfl
  | .bool b, _ => by simp [PyData.eqv]
  | .int i, _ => by simp [PyData.eqv]
  | .str s, _ => by simp [PyData.eqv]
  | .list xs, h => by
    rw [PyData.canLay0] at h
    rw [PyData.eqv]
    exact eqvAll_rfl xs h
  | .tuple xs, h => by
    rw [PyData.canLay0] at h
    rw [PyData.eqv]
    exact eqvAll_rfl xs h
  | .dict _, h => by simp [PyData.canLay0] at h
theorem eqvAll_rfl : ∀ ds : List D, PyData.canLayAll0 ds = true → PyData.eqvAll ds ds = true
  | [], _ => rfl
  | d :: ds, h => by
    rw [PyData.canLayAll0, Bool.and_eq_true] at h
    rw [PyData.eqvAll, eqv_rfl d h.1, eqvAll_rfl ds h.2]
    rfl
end
theorem eqD_self {d : D} (h : SeqAt.shaped d = true) : eqD d d = some (.bool true) := by
  unfold eqD
  rw [h, eqv_rfl d (SeqAt.canLay_of_shaped h)]
  rfl
theorem neD_self {d : D} (h : SeqAt.shaped d = true) : neD d d = some (.bool false) := neD_of_eqD (eqD_self h)
/-! ### made of parts -/
theorem lay_all (n : Nat) : ∀ ds : List D, (∀ d ∈ ds, d.canLay0 = true ∧ d.depth ≤ n) → PyData.canLayAll0 ds = true ∧ PyData.depthAll ds ≤ n
  | [], _ => ⟨rfl, by simp [PyData.depthAll]⟩
  | d :: ds, h => by
    obtain ⟨h1, h2⟩ := lay_all n ds fun e he => h e (List.mem_cons_of_mem _ he)
    obtain ⟨h3, h4⟩ := h d List.mem_cons_self
    simp only [PyData.canLayAll0, PyData.depthAll, h1, h3]
    exact ⟨rfl, by omega⟩
theorem lay_tuple {n : Nat} {ds : List D} (h : ∀ d ∈ ds, d.canLay0 = true ∧ d.depth ≤ n) : (PyData.tuple ds).canLay0 = true ∧ (PyData.tuple ds).depth ≤ n + 1 := by
  obtain ⟨h1, h2⟩ := lay_all n ds h
  rw [PyData.canLay0, PyData.depth]
  exact ⟨h1, by omega⟩
theorem lay_list {n : Nat} {ds : List D} (h : ∀ d ∈ ds, d.canLay0 = true ∧ d.depth ≤ n) : (PyData.list ds).canLay0 = true ∧ (PyData.list ds).depth ≤ n + 1 := by
  obtain ⟨h1, h2⟩ := lay_all n ds h
  rw [PyData.canLay0, PyData.depth]
  exact ⟨h1, by omega⟩
theorem lay_int {i : Int} : (PyData.int i).canLay0 = true ∧ (PyData.int i).depth ≤ 0 := ⟨rfl, by simp [PyData.depth]⟩
theorem lay_str {i : Str} (h : (PyData.str i).canLay0 = true) : (PyData.str i).canLay0 = true ∧ (PyData.str i).depth ≤ 0 := ⟨h, by simp [PyData.depth]⟩
theorem lay_none : (PyData.none).canLay0 = true ∧ (PyData.none).depth ≤ 0 := ⟨rfl, by simp [PyData.depth]⟩
theorem shaped_lay {n : Nat} {d : D} (h : d.canLay0 = true ∧ d.depth ≤ n) (hn : n ≤ 64) : SeqAt.shaped d = true := shaped_of h.1 (by omega)
/-- a draw, the bound as a plain number -/
theorem draw_w0 {m : Int} {dr : Dr} {Q : D × Dr → Prop} (h0 : 0 < m) (h1 : m < 1180591620717411303424) (h : ∀ r dr', 0 ≤ r → r < m → Go (Q (.int r, dr'))) : WO0 (drawF [.dict [], .int m] dr) Q := draw_wo0 h0 (by omega) h
end Mi
/-! Mi, eleventh part: the same, in a form in which simp leaves alone what comes behind until its turn. -/
namespace Mi
open PySem PySem.Spec PyProof.Rows L2
/-- a Prop whose type names its parts, so that simp does not go into them -/
abbrev P1.{u} {α : Sort u} (_ : α) : Type := Prop
abbrev P2.{u, v} {α : Sort u} {β : Sort v} (_ : α) (_ : β) : Type := Prop
abbrev P5 (_ : SR) (_ : MS → Prop) (_ : D → Dr → Prop) (_ _ : MS → Prop) : Type := Prop
@[irreducible] def W (r : SR) (N : MS → Prop) (R : D → Dr → Prop) (Bk Ct : MS → Prop) : P5 r N R Bk Ct := W0 r N R Bk Ct
@[irreducible] def WM {α : Type} (o : Option (α × MS)) (P : α → MS → Prop) : P2 o P := WM0 o P
@[irreducible] def WO {α : Type} (o : Option α) (P : α → Prop) : P1 P := WO0 o P
def WS (μ : MS) (N : MS → Prop) : P1 N := N μ
@[simp] theorem WS_mk {l : List Sl} {dr : Dr} {N : MS → Prop} : @Eq Prop (WS ⟨l, dr⟩ N) (N ⟨l, dr⟩) := propext Iff.rfl
/-- a goal as a plain Prop -/
theorem un_go {p : Prop} (h : Go p) : p := h
section
variable {α β : Type} {N : MS → Prop} {R : D → Dr → Prop} {Bk Ct : MS → Prop} {μ : MS} {P : D → MS → Prop}
@[simp ↓] theorem W_nx : @Eq Prop (W (.nx μ) N R Bk Ct) (N μ) := by with_unfolding_all exact W0_nx
@[simp ↓] theorem W_rt {d : D} {dr : Dr} : @Eq Prop (W (.rt d dr) N R Bk Ct) (R d dr) := by with_unfolding_all exact W0_rt
@[simp ↓] theorem W_bk : @Eq Prop (W (.bk μ) N R Bk Ct) (Bk μ) := by with_unfolding_all exact W0_bk
@[simp ↓] theorem W_ct : @Eq Prop (W (.ct μ) N R Bk Ct) (Ct μ) := by with_unfolding_all exact W0_ct
@[simp ↓] theorem W_bad : @Eq Prop (W .bad N R Bk Ct) (False) := by with_unfolding_all exact W0_bad
@[simp ↓] theorem WM_some {a : α} {Q : α → MS → Prop} : @Eq Prop (WM (some (a, μ)) Q) (Q a μ) := by with_unfolding_all exact WM0_some
@[simp ↓] theorem WM_none {Q : α → MS → Prop} : @Eq Prop (WM none Q) (False) := by with_unfolding_all exact WM0_none
@[simp] theorem WO_some {a : α} {Q : α → Prop} : @Eq Prop (WO (some a) Q) (Q a) := by with_unfolding_all exact WO0_some
@[simp] theorem WO_none {Q : α → Prop} : @Eq Prop (WO none Q) (False) := by with_unfolding_all exact WO0_none
@[simp ↓] theorem WM_bind {γ : Type} {o : Option γ} {f : γ → Option (α × MS)} {Q : α → MS → Prop} : @Eq Prop (WM (o.bind f) Q) (WO o fun x => WM (f x) Q) := by with_unfolding_all exact WM0_bind
@[simp] theorem WO_bind {γ : Type} {o : Option γ} {f : γ → Option α} {Q : α → Prop} : @Eq Prop (WO (o.bind f) Q) (WO o fun x => WO (f x) Q) := by with_unfolding_all exact WO0_bind
theorem WM_WO {o : Option (α × MS)} {Q : α → MS → Prop} : WM o Q = WO o fun p => Q p.1 p.2 := by with_unfolding_all exact WM0_WO
theorem WO_ext {o : Option α} {Q Q' : α → Prop} (h : ∀ a, Q a = Q' a) : WO o Q = WO o Q' := by with_unfolding_all exact WO0_ext h
@[simp] theorem WO_ite {c : Prop} [Decidable c] {o p : Option α} {Q : α → Prop} : @Eq Prop (WO (if c then o else p) Q) (if c then WO o Q else WO p Q) := by with_unfolding_all exact WO0_ite
@[simp ↓] theorem WM_ite {c : Prop} [Decidable c] {o p : Option (α × MS)} {Q : α → MS → Prop} : @Eq Prop (WM (if c then o else p) Q) (if c then WM o Q else WM p Q) := by with_unfolding_all exact WM0_ite
@[simp ↓] theorem W_ite {c : Prop} [Decidable c] {o p : SR} : @Eq Prop (W (if c then o else p) N R Bk Ct) (if c then W o N R Bk Ct else W p N R Bk Ct) := by with_unfolding_all exact W0_ite
theorem W_mono {r : SR} {N' : MS → Prop} {R' : D → Dr → Prop} {Bk' Ct' : MS → Prop} (h : W r N R Bk Ct) (h1 : ∀ μ, N μ → N' μ) (h2 : ∀ d dr, R d dr → R' d dr) (h3 : ∀ μ, Bk μ → Bk' μ) (h4 : ∀ μ, Ct μ → Ct' μ) : W r N' R' Bk' Ct' := by with_unfolding_all exact W0_mono h h1 h2 h3 h4
theorem WM_mono {o : Option (α × MS)} {Q Q' : α → MS → Prop} (h : WM o Q) (h1 : ∀ a μ, Q a μ → Q' a μ) : WM o Q' := by with_unfolding_all exact WM0_mono h h1
theorem WO_mono {o : Option α} {Q Q' : α → Prop} (h : WO o Q) (h1 : ∀ a, Q a → Q' a) : WO o Q' := by with_unfolding_all exact WO0_mono h h1
theorem WO_eq {o : Option α} {a : α} {Q : α → Prop} (h : o = some a) (q : Q a) : WO o Q := by with_unfolding_all exact WO0_eq h q
@[simp ↓] theorem w_seq {s t : MT} : @Eq Prop (W (sSeq s t μ) N R Bk Ct) (W (s μ) (fun μ' => W (t μ') N R Bk Ct) R Bk Ct) := by with_unfolding_all exact w0_seq
@[simp ↓] theorem w_nil : @Eq Prop (W (sNil μ) N R Bk Ct) (N μ) := by with_unfolding_all exact w0_nil
@[simp ↓] theorem w_if {m : M Bool} {s t : MT} : @Eq Prop (W (sIf m s t μ) N R Bk Ct) (WM (m μ) fun b μ' => if b = true then W (s μ') N R Bk Ct else W (t μ') N R Bk Ct) := by with_unfolding_all exact w0_if
@[simp ↓] theorem w_ret {m : M D} : @Eq Prop (W (sRet m μ) N R Bk Ct) (WM (m μ) fun d μ' => R d μ'.dr) := by with_unfolding_all exact w0_ret
@[simp ↓] theorem w_retN : @Eq Prop (W (sRetN μ) N R Bk Ct) (R .none μ.dr) := by with_unfolding_all exact w0_retN
@[simp ↓] theorem w_drop {m : M D} : @Eq Prop (W (sDrop m μ) N R Bk Ct) (WM (m μ) fun _ μ' => N μ') := by with_unfolding_all exact w0_drop
@[simp ↓] theorem w_set {i : Nat} {m : M D} : @Eq Prop (W (sSet i m μ) N R Bk Ct) (WM (m μ) fun d μ' => WS (setS μ' i (.val d)) N) := by with_unfolding_all exact w0_set
@[simp ↓] theorem w_new {i : Nat} {m : M (List D)} : @Eq Prop (W (sNew i m μ) N R Bk Ct) (WM (m μ) fun d μ' => WS (setS μ' i (.own d)) N) := by with_unfolding_all exact w0_new
@[simp ↓] theorem w_break : @Eq Prop (W (sBreak μ) N R Bk Ct) (Bk μ) := by with_unfolding_all exact w0_break
@[simp ↓] theorem w_cont : @Eq Prop (W (sCont μ) N R Bk Ct) (Ct μ) := by with_unfolding_all exact w0_cont
@[simp ↓] theorem w_aug {g : D → D → Option D} {i : Nat} {m : M D} : @Eq Prop (W (sAug g i m μ) N R Bk Ct) (WO (valAt μ i) fun x => WM (m μ) fun y μ' => WO (g x y) fun z => WS (setS μ' i (.val z)) N) := by with_unfolding_all exact w0_aug
@[simp ↓] theorem w_unp {g : D → MS → Option MS} {m : M D} : @Eq Prop (W (sUnp g m μ) N R Bk Ct) (WM (m μ) fun d μ' => WO (g d μ') N) := by with_unfolding_all exact w0_unp
@[simp ↓] theorem w_par {is : List Nat} {m : M (List Sv)} : @Eq Prop (W (sPar is m μ) N R Bk Ct) (WM (m μ) fun ss μ' => WO (putA is ss μ') N) := by with_unfolding_all exact w0_par
@[simp ↓] theorem w_ix {i : Nat} {mi me : M D} : @Eq Prop (W (sIx i mi me μ) N R Bk Ct) (WM (me μ) fun d μ1 => WO (owned μ1 i) fun _ => WM (mi μ1) fun k μ2 => match k with
    | .int k => WO (owned μ2 i) fun ds => WO (ixN ds.length k) fun j => WS (setS μ2 i (.own (ds.set j d))) N
    | _ => False) := by with_unfolding_all exact w0_ix
theorem w_for {γ δ : Type} {m : M (List D)} {g : D → MS → Option MS} {s : MT} (emb : δ → D) (A : γ → MS → Prop) (f : γ → δ → γ) {xs : List δ} {μ1 : MS} (hm : m μ = some (xs.map emb, μ1)) {a : γ} (h0 : A a μ1)
    (hs : ∀ (pre : List δ) (x : δ) (post : List δ) (μ : MS), xs = pre ++ x :: post → A (pre.foldl f a) μ → WO (g (emb x) μ) fun μ2 => W (s μ2) (A ((pre ++ [x]).foldl f a)) R N (A ((pre ++ [x]).foldl f a)))
    (hd : ∀ μ, A (xs.foldl f a) μ → N μ) : W (sFor m g s μ) N R Bk Ct := by with_unfolding_all exact w0_for emb A f hm h0 hs hd
theorem w_forI {δ : Type} {m : M (List D)} {g : D → MS → Option MS} {s : MT} (emb : δ → D) (A : Nat → MS → Prop) {xs : List δ} {μ1 : MS} (hm : m μ = some (xs.map emb, μ1)) (h0 : A 0 μ1)
    (hs : ∀ (i : Nat) (x : δ) (μ : MS), xs[i]? = some x → A i μ → WO (g (emb x) μ) fun μ2 => W (s μ2) (A (i + 1)) R N (A (i + 1)))
    (hd : ∀ μ, A xs.length μ → N μ) : W (sFor m g s μ) N R Bk Ct := by with_unfolding_all exact w0_forI emb A hm h0 hs hd
theorem w_forW {γ δ : Type} {m : M (List D)} {g : D → MS → Option MS} {s : MT} (emb : δ → D) (A : γ → MS → Prop) (f : γ → δ → γ) (xs : List δ) (a : γ) (hm : Go (WM (m μ) fun ds μ1 => ds = xs.map emb ∧ A a μ1))
    (hs : ∀ (pre : List δ) (x : δ) (post : List δ) (μ : MS), xs = pre ++ x :: post → A (pre.foldl f a) μ → Go (WO (g (emb x) μ) fun μ2 => W (s μ2) (A (f (pre.foldl f a) x)) R N (A (f (pre.foldl f a) x))))
    (hd : ∀ μ, A (xs.foldl f a) μ → Go (N μ)) : W (sFor m g s μ) N R Bk Ct := by with_unfolding_all exact w0_forW emb A f xs a hm hs hd
theorem w_forN {δ : Type} {m : M (List D)} {g : D → MS → Option MS} {s : MT} (emb : δ → D) (A : Nat → MS → Prop) (xs : List δ) (hm : Go (WM (m μ) fun ds μ1 => ds = xs.map emb ∧ A 0 μ1))
    (hs : ∀ (i : Nat) (x : δ) (μ : MS), xs[i]? = some x → A i μ → Go (WO (g (emb x) μ) fun μ2 => W (s μ2) (A (i + 1)) R N (A (i + 1))))
    (hd : ∀ μ, A xs.length μ → Go (N μ)) : W (sFor m g s μ) N R Bk Ct := by with_unfolding_all exact w0_forN emb A xs hm hs hd
theorem w_while {m : M Bool} {s : MT} (A : Nat → MS → Prop) {n : Nat} (hn : n < fuel) (h0 : A n μ)
    (hs : ∀ n μ, A n μ → Go (WM (m μ) fun b μ1 => if b = true then W (s μ1) (fun μ2 => ∃ k, k < n ∧ A k μ2) R N (fun μ2 => ∃ k, k < n ∧ A k μ2) else N μ1)) : W (sWhile m s μ) N R Bk Ct := by with_unfolding_all exact w0_while A hn h0 hs
@[simp ↓] theorem wm_c {d : D} : @Eq Prop (WM (mC d μ) P) (P d μ) := by with_unfolding_all exact wm0_c
@[simp ↓] theorem wm_oVal {m : M D} {Q : O → MS → Prop} : @Eq Prop (WM (oVal m μ) Q) (WM (m μ) fun d μ' => Q (.v d) μ') := by with_unfolding_all exact wm0_oVal
@[simp ↓] theorem wm_oName {i : Nat} {Q : O → MS → Prop} : @Eq Prop (WM (oName i μ) Q) (WO (look (.s i) μ) fun _ => Q (.s i) μ) := by with_unfolding_all exact wm0_oName
@[simp ↓] theorem wm_m2 {g : D → D → Option D} {ma mb : M O} : @Eq Prop (WM (m2 g ma mb μ) P) (WM (ma μ) fun o1 μ1 => WM (mb μ1) fun o2 μ2 => WO (look o1 μ2) fun d => WO (look o2 μ2) fun e => WO (g d e) fun z => P z μ2) := by with_unfolding_all exact wm0_m2
@[simp ↓] theorem wm_m2F {g : D → D → Option (List D)} {ma mb : M O} {Q : List D → MS → Prop} : @Eq Prop (WM (m2F g ma mb μ) Q) (WM (ma μ) fun o1 μ1 => WM (mb μ1) fun o2 μ2 => WO (look o1 μ2) fun d => WO (look o2 μ2) fun e => WO (g d e) fun z => Q z μ2) := by with_unfolding_all exact wm0_m2F
@[simp ↓] theorem wm_m1 {g : D → Option D} {ma : M O} : @Eq Prop (WM (m1 g ma μ) P) (WM (ma μ) fun o1 μ1 => WO (look o1 μ1) fun d => WO (g d) fun z => P z μ1) := by with_unfolding_all exact wm0_m1
@[simp ↓] theorem wm_mB {m : M D} {Q : Bool → MS → Prop} : @Eq Prop (WM (mB m μ) Q) (WM (m μ) fun d μ1 => match d with
    | .bool b => Q b μ1
    | _ => False) := by with_unfolding_all exact wm0_mB
@[simp ↓] theorem wm_chain {g g' : D → D → Option D} {ma mb mc : M O} : @Eq Prop (WM (mChain g g' ma mb mc μ) P) (WM (ma μ) fun o1 μ1 => WM (mb μ1) fun o2 μ2 => WO (look o1 μ2) fun d => WO (look o2 μ2) fun e => WO (g d e) fun z => match z with
    | .bool true => WM (mc μ2) fun o3 μ3 => WO (look o2 μ3) fun e' => WO (look o3 μ3) fun f => WO (g' e' f) fun z' => P z' μ3
    | .bool false => P (.bool false) μ2
    | _ => False) := by with_unfolding_all exact wm0_chain
@[simp ↓] theorem wm_aNil {Q : List O → MS → Prop} : @Eq Prop (WM (aNil μ) Q) (Q [] μ) := by with_unfolding_all exact wm0_aNil
@[simp ↓] theorem wm_aCons {m : M O} {n : M (List O)} {Q : List O → MS → Prop} : @Eq Prop (WM (aCons m n μ) Q) (WM (m μ) fun o μ1 => WM (n μ1) fun os μ2 => Q (o :: os) μ2) := by with_unfolding_all exact wm0_aCons
@[simp ↓] theorem wm_call {α : Type} {g : List D → Option α} {ma : M (List O)} {Q : α → MS → Prop} : @Eq Prop (WM (mCall g ma μ) Q) (WM (ma μ) fun os μ1 => WO (looks os μ1) fun ds => WO (g ds) fun z => Q z μ1) := by with_unfolding_all exact wm0_call
@[simp ↓] theorem wm_callU {f : FM} {ma : M (List O)} : @Eq Prop (WM (mCallU f ma μ) P) (WM (ma μ) fun os μ1 => WO (looks os μ1) fun ds => WO (f ds μ1.dr) fun z => WS (if flat z.1 = true then { μ1 with dr := z.2 } else { frzA os μ1 with dr := z.2 }) (P z.1)) := by with_unfolding_all exact wm0_callU
@[simp ↓] theorem wm_truth {ma : M O} {Q : Bool → MS → Prop} : @Eq Prop (WM (mTruth ma μ) Q) (WM (ma μ) fun o μ1 => WO (look o μ1) fun d => WO (truth d) fun b => Q b μ1) := by with_unfolding_all exact wm0_truth
@[simp ↓] theorem wm_and {m n : M Bool} {Q : Bool → MS → Prop} : @Eq Prop (WM (bAnd m n μ) Q) (WM (m μ) fun b μ1 => if b = true then WM (n μ1) Q else Q false μ1) := by with_unfolding_all exact wm0_and
@[simp ↓] theorem wm_or {m n : M Bool} {Q : Bool → MS → Prop} : @Eq Prop (WM (bOr m n μ) Q) (WM (m μ) fun b μ1 => if b = true then Q true μ1 else WM (n μ1) Q) := by with_unfolding_all exact wm0_or
@[simp ↓] theorem wm_not {m : M Bool} {Q : Bool → MS → Prop} : @Eq Prop (WM (bNot m μ) Q) (WM (m μ) fun b μ1 => Q (!b) μ1) := by with_unfolding_all exact wm0_not
@[simp ↓] theorem wm_ife {m : M Bool} {n k : M D} : @Eq Prop (WM (eIf m n k μ) P) (WM (m μ) fun b μ1 => if b = true then WM (n μ1) P else WM (k μ1) P) := by with_unfolding_all exact wm0_ife
@[simp ↓] theorem wm_eand {m n : M D} : @Eq Prop (WM (eAnd m n μ) P) (WM (m μ) fun d μ1 => WO (truth d) fun b => if b = true then WM (n μ1) P else P d μ1) := by with_unfolding_all exact wm0_eand
@[simp ↓] theorem wm_eor {m n : M D} : @Eq Prop (WM (eOr m n μ) P) (WM (m μ) fun d μ1 => WO (truth d) fun b => if b = true then P d μ1 else WM (n μ1) P) := by with_unfolding_all exact wm0_eor
@[simp ↓] theorem wm_enot {ma : M O} : @Eq Prop (WM (eNot ma μ) P) (WM (ma μ) fun o μ1 => WO (look o μ1) fun d => WO (truth d) fun b => P (.bool (!b)) μ1) := by with_unfolding_all exact wm0_enot
@[simp ↓] theorem wm_tup {m : M (List D)} : @Eq Prop (WM (mTup m μ) P) (WM (m μ) fun ds μ1 => if ds.length ≤ 16777216 then P (.tuple ds) μ1 else False) := by with_unfolding_all exact wm0_tup
@[simp ↓] theorem wm_lst {m : M (List D)} {Q : List D → MS → Prop} : @Eq Prop (WM (mLst m μ) Q) (WM (m μ) fun ds μ1 => if ds.length ≤ 16777216 then Q ds μ1 else False) := by with_unfolding_all exact wm0_lst
@[simp ↓] theorem wm_ds_nil {Q : List D → MS → Prop} : @Eq Prop (WM (mDs [] μ) Q) (Q [] μ) := by with_unfolding_all exact wm0_ds_nil
@[simp ↓] theorem wm_ds_cons {m : M D} {ms : List (M D)} {Q : List D → MS → Prop} : @Eq Prop (WM (mDs (m :: ms) μ) Q) (WM (m μ) fun d μ1 => WM (mDs ms μ1) fun ds μ2 => Q (d :: ds) μ2) := by with_unfolding_all exact wm0_ds_cons
@[simp ↓] theorem wm_new {m : M (List D)} : @Eq Prop (WM (eNew m μ) P) (WM (m μ) fun ds μ1 => P (.list ds) μ1) := by with_unfolding_all exact wm0_new
@[simp ↓] theorem wm_seq {m : M D} {Q : List D → MS → Prop} : @Eq Prop (WM (mSeq m μ) Q) (WM (m μ) fun d μ1 => WO (items d) fun ds => Q ds μ1) := by with_unfolding_all exact wm0_seq
@[simp ↓] theorem wm_xNil {Q : List Sv → MS → Prop} : @Eq Prop (WM (xNil μ) Q) (Q [] μ) := by with_unfolding_all exact wm0_xNil
@[simp ↓] theorem wm_xVal {m : M D} {n : M (List Sv)} {Q : List Sv → MS → Prop} : @Eq Prop (WM (xVal m n μ) Q) (WM (m μ) fun d μ1 => WM (n μ1) fun ss μ2 => Q (.val d :: ss) μ2) := by with_unfolding_all exact wm0_xVal
@[simp ↓] theorem wm_xNew {m : M (List D)} {n : M (List Sv)} {Q : List Sv → MS → Prop} : @Eq Prop (WM (xNew m n μ) Q) (WM (m μ) fun d μ1 => WM (n μ1) fun ss μ2 => Q (.own d :: ss) μ2) := by with_unfolding_all exact wm0_xNew
@[simp ↓] theorem wm_pNone {Q : Option Int → MS → Prop} : @Eq Prop (WM (pNone μ) Q) (Q none μ) := by with_unfolding_all exact wm0_pNone
@[simp ↓] theorem wm_pSome {m : M D} {Q : Option Int → MS → Prop} : @Eq Prop (WM (pSome m μ) Q) (WM (m μ) fun d μ1 => match d with
    | .int i => Q (some i) μ1
    | _ => False) := by with_unfolding_all exact wm0_pSome
@[simp ↓] theorem wm_sl {α : Type} {g : D → Option Int → Option Int → Option α} {ma : M O} {ml mh : M (Option Int)} {Q : α → MS → Prop} : @Eq Prop (WM (mSl g ma ml mh μ) Q) (WM (ma μ) fun o μ1 => WM (ml μ1) fun l μ2 => WM (mh μ2) fun h μ3 => WO (look o μ3) fun d => WO (g d l h) fun z => Q z μ3) := by with_unfolding_all exact wm0_sl
@[simp ↓] theorem wm_app {i : Nat} {m : M D} : @Eq Prop (WM (mApp i m μ) P) (WO (owned μ i) fun _ => WM (m μ) fun d μ1 => WO (owned μ1 i) fun ds => if ds.length < 16777216 then WS (setS μ1 i (.own (ds ++ [d]))) (P .none) else False) := by with_unfolding_all exact wm0_app
@[simp ↓] theorem wm_ext {i : Nat} {m : M O} : @Eq Prop (WM (mExt i m μ) P) (WO (owned μ i) fun _ => WM (m μ) fun o μ1 => WO (owned μ1 i) fun ds => WO (look o μ1) fun e => match e with
    | .list es => if ds.length + es.length ≤ 16777216 then WS (setS μ1 i (.own (ds ++ es))) (P .none) else False
    | _ => False) := by with_unfolding_all exact wm0_ext
@[simp ↓] theorem wm_pop {i : Nat} : @Eq Prop (WM (mPop i μ) P) (WO (owned μ i) fun ds => WO (ds[ds.length - 1]?) fun d => WS (setS μ i (.own ds.dropLast)) (P d)) := by with_unfolding_all exact wm0_pop
@[simp ↓] theorem wm_popAt {i : Nat} {m : M D} : @Eq Prop (WM (mPopAt i m μ) P) (WO (owned μ i) fun _ => WM (m μ) fun k μ1 => WO (owned μ1 i) fun ds => match k with
    | .int j => if -(2 ^ 63) ≤ j ∧ j < 2 ^ 63 then WO (seqIndex? j ds.length) fun k => WO (ds[k]?) fun d => WS (setS μ1 i (.own (ds.eraseIdx k))) (P d) else False
    | _ => False) := by with_unfolding_all exact wm0_popAt
@[simp ↓] theorem wm_var {i : Nat} : @Eq Prop (WM (mVar i μ) P) (WO ((μ.sl[i]?).bind slDt) fun d => WS (setS μ i (.val d)) (P d)) := by with_unfolding_all exact wm0_var
theorem fnM_eq {n : Nat} {b : MT} {ds : List D} {dr : Dr} {d : D} {dr' : Dr} (h : Go (W (b ⟨ds.map Sl.val ++ List.replicate (n - ds.length) Sl.un, dr⟩) (fun μ => d = .none ∧ μ.dr = dr') (fun e er => e = d ∧ er = dr') (fun _ => False) (fun _ => False))) : fnM n b ds dr = some (d, dr') := by with_unfolding_all exact fnM_eq0 h
theorem fnM_wo {n : Nat} {b : MT} {ds : List D} {dr : Dr} {Q : D × Dr → Prop} (h : Go (W (b ⟨ds.map Sl.val ++ List.replicate (n - ds.length) Sl.un, dr⟩) (fun μ => Q (.none, μ.dr)) (fun e er => Q (e, er)) (fun _ => False) (fun _ => False))) : WO (fnM n b ds dr) Q := by with_unfolding_all exact fnM_wo0 h
theorem draw_wo {m : Int} {dr : Dr} {Q : D × Dr → Prop} (h0 : 0 < m) (h1 : m < 2 ^ 8000) (h : ∀ r dr', 0 ≤ r → r < m → Go (Q (.int r, dr'))) : WO (drawF [.dict [], .int m] dr) Q := by with_unfolding_all exact draw_wo0 h0 h1 h
theorem wm_lc_forN {δ : Type} {mi : M (List D)} {g : D → MS → Option MS} {m : M D} {vs : List Nat} {μ : MS} {Q : List D → MS → Prop} (emb : δ → D) (A : Nat → List D → MS → Prop) (xs : List δ) (hl : xs.length ≤ 16777216)
    (hm : Go (WM (mi μ) fun ds μ1 => ds = xs.map emb ∧ A 0 [] (wipeS μ1 vs) ∧ ∀ acc μ2, A xs.length acc μ2 → Go (Q acc (restS μ1 vs μ2))))
    (hs : ∀ (i : Nat) (x : δ) (acc : List D) (μ : MS), xs[i]? = some x → acc.length = i → A i acc μ → Go (WO (g (emb x) μ) fun μ2 => WM (m μ2) fun d μ3 => A (i + 1) (acc ++ [d]) (wipeS μ3 vs))) : WM (mLc mi g tYesM m vs μ) Q := by with_unfolding_all exact wm0_lc_forN emb A xs hl hm hs
theorem of_W {r : SR} (h : W r (fun _ => False) (fun d _ => d = .bool true) (fun _ => False) (fun _ => False)) : ∃ dr, r = .rt (.bool true) dr := by with_unfolding_all exact of_W00 h
theorem draw_w {m : Int} {dr : Dr} {Q : D × Dr → Prop} (h0 : 0 < m) (h1 : m < 1180591620717411303424) (h : ∀ r dr', 0 ≤ r → r < m → Go (Q (.int r, dr'))) : WO (drawF [.dict [], .int m] dr) Q := by with_unfolding_all exact draw_w0 h0 h1 h
end
end Mi
/-! Mi, twelfth part: comprehensions and calls in the sealed form. -/
namespace Mi
open PySem PySem.Spec PyProof.Rows L2
@[simp] theorem restS_nil {μ0 μ : MS} : restS μ0 [] μ = μ := rfl
def keepS (s t : Sl) : Sl := match s with
  | .val d => .val d
  | _ => t
@[simp] theorem keepS_val {d : D} {t : Sl} : keepS (.val d) t = .val d := rfl
@[simp] theorem keepS_un {t : Sl} : keepS .un t = t := rfl
@[simp] theorem keepS_own {ds : List D} {t : Sl} : keepS (.own ds) t = t := rfl
@[simp] theorem keepS_keepS {s t : Sl} : keepS (keepS s t) t = keepS s t := by cases s <;> cases t <;> rfl
@[simp] theorem restS_cons {l l' : List Sl} {dr dr' : Dr} {v : Nat} {vs : List Nat} : restS ⟨l, dr⟩ (v :: vs) ⟨l', dr'⟩ = match l[v]?, l'[v]? with
    | some s, some t => restS ⟨l, dr⟩ vs ⟨l'.set v (keepS s t), dr'⟩
    | _, _ => restS ⟨l, dr⟩ vs ⟨l', dr'⟩ := by
  conv => lhs; unfold restS
  cases h : l[v]? with
  | none => simp [h]
  | some s =>
    cases h2 : l'[v]? with
    | none =>
      have : l'.length ≤ v := List.getElem?_eq_none_iff.mp h2
      cases s <;> simp [h, List.set_eq_of_length_le this]
    | some t =>
      have e : l'.set v t = l' := by
        apply List.ext_getElem?
        intro j
        by_cases hj : v = j
        · subst hj
          rw [List.getElem?_set_self (List.getElem?_eq_some_iff.mp h2).1, h2]
        · rw [List.getElem?_set_ne hj]
      cases s <;> simp [h, keepS, e]
@[simp] theorem wipeS_nil {μ : MS} : wipeS μ [] = μ := rfl
@[simp] theorem wipeS_cns {μ : MS} {v : Nat} {vs : List Nat} : wipeS μ (v :: vs) = setS (wipeS μ vs) v .un := rfl
theorem wm_lc3 {δ : Type} {mi : M (List D)} {g : D → MS → Option MS} {m : M D} {vs : List Nat} {μ : MS} {Q : List D → MS → Prop} (emb : δ → D) (μ1 : MS) (A : Nat → List D → MS → Prop) (xs : List δ) (hl : xs.length ≤ 16777216)
    (hm : Go (WM (mi μ) fun ds μ' => ds = xs.map emb ∧ μ' = μ1)) (h0 : Go (WS (wipeS μ1 vs) fun μ2 => A 0 [] μ2))
    (hs : ∀ (i : Nat) (x : δ) (acc : List D) (μ : MS), xs[i]? = some x → acc.length = i → A i acc μ → Go (WO (g (emb x) μ) fun μ2 => WM (m μ2) fun d μ3 => WS (wipeS μ3 vs) fun μ4 => A (i + 1) (acc ++ [d]) μ4))
    (hd : ∀ acc μ2, A xs.length acc μ2 → Go (WS (restS μ1 vs μ2) fun μ3 => Q acc μ3)) : WM (mLc mi g tYesM m vs μ) Q := by
  refine wm_lc_forN emb A xs hl (WM_mono hm fun ds μ' h => ?_) hs
  obtain ⟨rfl, rfl⟩ := h
  exact ⟨rfl, h0, hd⟩
/-- the whole comprehension told at once: every element by its item, the state as it was -/
theorem wm_lcmap {δ : Type} {mi : M (List D)} {g : D → MS → Option MS} {m : M D} {vs : List Nat} {μ : MS} {Q : List D → MS → Prop} (emb : δ → D) (f : δ → D) (μ1 : MS) (xs : List δ) (hl : xs.length ≤ 16777216)
    (hm : Go (WM (mi μ) fun ds μ' => ds = xs.map emb ∧ μ' = μ1))
    (hs : ∀ x ∈ xs, Go (WS (wipeS μ1 vs) fun μ2 => WO (g (emb x) μ2) fun μ2 => WM (m μ2) fun d μ3 => d = f x ∧ wipeS μ3 vs = wipeS μ1 vs))
    (hd : Go (WS (restS μ1 vs (wipeS μ1 vs)) fun μ3 => Q (xs.map f) μ3)) : WM (mLc mi g tYesM m vs μ) Q := by
  refine wm_lc3 emb μ1 (fun i acc μ2 => acc = (xs.take i).map f ∧ μ2 = wipeS μ1 vs) xs hl hm ⟨rfl, rfl⟩ ?_ ?_
  · rintro i x acc μ hx ha ⟨rfl, rfl⟩
    have hx' : x ∈ xs := List.mem_of_getElem? hx
    refine WO_mono (hs x hx') fun μ2 h => ?_
    refine WM_mono h fun d μ3 h => ?_
    refine ⟨?_, h.2⟩
    rw [List.take_add_one, hx, List.map_append, h.1]
    rfl
  · rintro acc μ2 ⟨rfl, rfl⟩
    rw [List.take_length]
    exact hd
theorem range_get {n i j : Nat} (h : (List.range n)[i]? = some j) : i = j ∧ i < n := by
  rw [List.getElem?_eq_some_iff] at h
  obtain ⟨h1, h2⟩ := h
  rw [List.getElem_range] at h2
  rw [List.length_range] at h1
  exact ⟨h2, h1⟩
theorem ix2_0 {a b : D} : ixD (.tuple [a, b]) (.int 0) = some a := rfl
theorem ix2_1 {a b : D} : ixD (.tuple [a, b]) (.int 1) = some b := rfl
/-- a comprehension over a drawn number of turns -/
theorem wm_lcD {mi : M (List D)} {m : M D} {v : Nat} {μ : MS} {Q : List D → MS → Prop} (B : Nat) (hB : B ≤ 1000000) (l l' : List Sl) (f : Int → Prop)
    (hm : Go (WM (mi μ) fun ds μ' => ∃ n : Nat, n ≤ B ∧ ds = (List.range n).map (fun i : Nat => .int i) ∧ μ'.sl = l))
    (hw : ∀ dr, wipeS ⟨l, dr⟩ [v] = ⟨l', dr⟩)
    (hs : ∀ (i : Nat) dr, i < B → Go (WO (gN v (.int (i : Int)) ⟨l', dr⟩) fun μ2 => WM (m μ2) fun d μ3 => ∃ k, d = .int k ∧ f k ∧ (wipeS μ3 [v]).sl = l'))
    (hd : ∀ row : List Int, row.length ≤ B → (∀ k ∈ row, f k) → ∀ dr dr', Go (WS (restS ⟨l, dr⟩ [v] ⟨l', dr'⟩) fun μ3 => Q (row.map .int) μ3)) : WM (mLc mi (gN v) tYesM m [v] μ) Q := by
  cases h : mi μ with
  | none => rw [h] at hm; simp at hm
  | some p =>
    obtain ⟨ds, μ1⟩ := p
    rw [h] at hm
    simp only [go_eq, WM_some] at hm
    obtain ⟨n, hn, rfl, rfl⟩ := hm
    obtain ⟨l, dr⟩ := μ1
    refine wm_lc3 (fun i : Nat => .int i) ⟨l, dr⟩ (fun i acc μ2 => ∃ row : List Int, acc = row.map .int ∧ row.length = i ∧ (∀ k ∈ row, f k) ∧ μ2.sl = l') (List.range n) (by simp; omega) ?_ ?_ ?_ ?_
    · rw [h]
      simp
    · rw [hw dr]
      exact ⟨[], rfl, rfl, (fun _ h => by cases h), rfl⟩
    · rintro i x acc ⟨l2, dr2⟩ hx ha ⟨row, rfl, rfl, hf, rfl⟩
      obtain ⟨rfl, hi⟩ := range_get hx
      refine WO_mono (hs row.length dr2 (by omega)) fun μ2 h => WM_mono h fun d μ3 h => ?_
      obtain ⟨k, hd, hk, e⟩ := h
      refine ⟨row ++ [k], by rw [List.map_append, hd]; rfl, by simp, fun j hj => ?_, e⟩
      rw [List.mem_append, List.mem_singleton] at hj
      rcases hj with hj | rfl
      · exact hf j hj
      · exact hk
    · rintro acc ⟨l2, dr2⟩ ⟨row, rfl, hl, hf, rfl⟩
      exact hd row (by rw [hl, List.length_range]; exact hn) hf dr dr2
/-- a comprehension over a known number of turns -/
theorem wm_lcX {mi : M (List D)} {m : M D} {v : Nat} {μ : MS} {Q : List D → MS → Prop} (n : Nat) (hB : n ≤ 1000000) (l l' : List Sl) (f : Int → Prop)
    (hm : Go (WM (mi μ) fun ds μ' => ds = (List.range n).map (fun i : Nat => .int i) ∧ μ'.sl = l))
    (hw : ∀ dr, wipeS ⟨l, dr⟩ [v] = ⟨l', dr⟩)
    (hs : ∀ (i : Nat) dr, i < n → Go (WO (gN v (.int (i : Int)) ⟨l', dr⟩) fun μ2 => WM (m μ2) fun d μ3 => ∃ k, d = .int k ∧ f k ∧ (wipeS μ3 [v]).sl = l'))
    (hd : ∀ row : List Int, row.length = n → (∀ k ∈ row, f k) → ∀ dr dr', Go (WS (restS ⟨l, dr⟩ [v] ⟨l', dr'⟩) fun μ3 => Q (row.map .int) μ3)) : WM (mLc mi (gN v) tYesM m [v] μ) Q := by
  cases h : mi μ with
  | none => rw [h] at hm; simp at hm
  | some p =>
    obtain ⟨ds, μ1⟩ := p
    rw [h] at hm
    simp only [go_eq, WM_some] at hm
    obtain ⟨rfl, rfl⟩ := hm
    obtain ⟨l, dr⟩ := μ1
    refine wm_lc3 (fun i : Nat => .int i) ⟨l, dr⟩ (fun i acc μ2 => ∃ row : List Int, acc = row.map .int ∧ row.length = i ∧ (∀ k ∈ row, f k) ∧ μ2.sl = l') (List.range n) (by simp; omega) ?_ ?_ ?_ ?_
    · rw [h]
      simp
    · rw [hw dr]
      exact ⟨[], rfl, rfl, (fun _ h => by cases h), rfl⟩
    · rintro i x acc ⟨l2, dr2⟩ hx ha ⟨row, rfl, rfl, hf, rfl⟩
      obtain ⟨rfl, hi⟩ := range_get hx
      refine WO_mono (hs row.length dr2 (by omega)) fun μ2 h => WM_mono h fun d μ3 h => ?_
      obtain ⟨k, hd, hk, e⟩ := h
      refine ⟨row ++ [k], by rw [List.map_append, hd]; rfl, by simp, fun j hj => ?_, e⟩
      rw [List.mem_append, List.mem_singleton] at hj
      rcases hj with hj | rfl
      · exact hf j hj
      · exact hk
    · rintro acc ⟨l2, dr2⟩ ⟨row, rfl, hl, hf, rfl⟩
      exact hd row (by rw [hl, List.length_range]) hf dr dr2
end Mi
/-! Mi, thirteenth part: slices, sums, the greatest and the least. -/
namespace Mi
open PySem PySem.Spec PyProof.Rows L2
theorem slA_from {ds : List D} {i : Int} (h : 0 ≤ i) : slA (.tuple ds) (some i) none = some (.tuple (ds.drop i.toNat)) := by
  have e : i = (i.toNat : Int) := by omega
  show some (PyData.tuple ((ds.drop (HT.sIx ds.length 0 (some i))).take (HT.sIx ds.length ds.length none - HT.sIx ds.length 0 (some i)))) = _
  rw [e, HT.sIx_nat, HT.sIx_none, Int.toNat_natCast]
  rcases Nat.le_total i.toNat ds.length with hl | hl
  · rw [Nat.min_eq_left hl, List.take_of_length_le (by rw [List.length_drop]; exact Nat.le_refl _)]
  · rw [Nat.min_eq_right hl, List.drop_of_length_le (Nat.le_refl _), List.drop_of_length_le hl, List.take_nil]
theorem slA_cut {ds : List D} {i j : Int} (h : 0 ≤ i) (hij : i ≤ j) (hj : j ≤ ds.length) : slA (.tuple ds) (some i) (some j) = some (.tuple ((ds.drop i.toNat).take (j - i).toNat)) := by
  obtain ⟨i, rfl⟩ := Int.eq_ofNat_of_zero_le h
  obtain ⟨j, rfl⟩ := Int.eq_ofNat_of_zero_le (Int.le_trans h hij)
  show some (PyData.tuple ((ds.drop (HT.sIx ds.length 0 (some (i : Int)))).take (HT.sIx ds.length ds.length (some (j : Int)) - HT.sIx ds.length 0 (some (i : Int))))) = _
  rw [HT.sIx_nat, HT.sIx_nat, Nat.min_eq_left (by omega), Nat.min_eq_left (by omega), Int.toNat_natCast, show ((j : Int) - (i : Int)).toNat = j - i by omega]
theorem slA_listFrom {ds : List D} {i : Int} (h : 0 ≤ i) : slA (.list ds) (some i) none = some (.list (ds.drop i.toNat)) := by
  have e : i = (i.toNat : Int) := by omega
  show some (PyData.list ((ds.drop (HT.sIx ds.length 0 (some i))).take (HT.sIx ds.length ds.length none - HT.sIx ds.length 0 (some i)))) = _
  rw [e, HT.sIx_nat, HT.sIx_none, Int.toNat_natCast]
  rcases Nat.le_total i.toNat ds.length with hl | hl
  · rw [Nat.min_eq_left hl, List.take_of_length_le (by rw [List.length_drop]; exact Nat.le_refl _)]
  · rw [Nat.min_eq_right hl, List.drop_of_length_le (Nat.le_refl _), List.drop_of_length_le hl, List.take_nil]
theorem sumD_tuple {ns : List Int} : sumD [.tuple (ns.map .int)] = some (.int ns.sum) := by simp [sumD, ints?_map]
theorem sumD_list {ns : List Int} : sumD [.list (ns.map .int)] = some (.int ns.sum) := by simp [sumD, ints?_map]
theorem maxD_list {ns : List Int} (h : 0 < ns.length) : maxD [.list (ns.map .int)] = some (.int (maxL ns)) := by simp [maxD, ints?_map, h]
theorem maxD_tuple {ns : List Int} (h : 0 < ns.length) : maxD [.tuple (ns.map .int)] = some (.int (maxL ns)) := by simp [maxD, ints?_map, h]
theorem minDL_list {ns : List Int} (h : 0 < ns.length) : minDL [.list (ns.map .int)] = some (.int (minL ns)) := by simp [minDL, ints?_map, h]
@[simp] theorem addD_tuple {a b : List D} : addD (.tuple a) (.tuple b) = if a.length + b.length ≤ 16777216 then some (.tuple (a ++ b)) else none := rfl
@[simp] theorem addD_list {a b : List D} : addD (.list a) (.list b) = if a.length + b.length ≤ 16777216 then some (.list (a ++ b)) else none := rfl
theorem isi_tuple {ds : List D} : isiN "tuple" (.tuple ds) = some (.bool true) := by rfl
theorem isi_i {i : Int} : isiN "int" (.int i) = some (.bool true) := by rfl
theorem isi_b {i : Int} : isiN "bool" (.int i) = some (.bool false) := by rfl
theorem wm_ex {α : Type} {o : Option (α × MS)} {P : α → MS → Prop} (h : WM o P) : ∃ a μ, o = some (a, μ) ∧ P a μ := by
  cases o with
  | none => simp at h
  | some p => obtain ⟨a, μ⟩ := p; simp at h; exact ⟨a, μ, rfl, h⟩
theorem wo_ex {α : Type} {o : Option α} {P : α → Prop} (h : WO o P) : ∃ a, o = some a ∧ P a := by
  cases o with
  | none => simp at h
  | some p => simp at h; exact ⟨p, rfl, h⟩
/-- a comprehension with a condition; the state may move -/
theorem wm_lcc {δ : Type} {mi : M (List D)} {g : D → MS → Option MS} {tc : M Bool} {m : M D} {vs : List Nat} {μ : MS} {Q : List D → MS → Prop} (emb : δ → D) (μ1 : MS) (A : Nat → List D → MS → Prop) (xs : List δ) (hl : xs.length ≤ 16777216)
    (hm : Go (WM (mi μ) fun ds μ' => ds = xs.map emb ∧ μ' = μ1)) (h0 : Go (WS (wipeS μ1 vs) fun μ2 => A 0 [] μ2))
    (hs : ∀ (i : Nat) (x : δ) (acc : List D) (μ : MS), xs[i]? = some x → acc.length ≤ i → A i acc μ → Go (WO (g (emb x) μ) fun μ2 => WM (tc μ2) fun b μ3 => if b = true then WM (m μ3) fun d μ4 => WS (wipeS μ4 vs) fun μ5 => A (i + 1) (acc ++ [d]) μ5 else WS (wipeS μ3 vs) fun μ5 => A (i + 1) acc μ5))
    (hd : ∀ acc μ2, A xs.length acc μ2 → Go (WS (restS μ1 vs μ2) fun μ3 => Q acc μ3)) : WM (mLc mi g tc m vs μ) Q := by
  obtain ⟨ds, μ', e, rfl, rfl⟩ := wm_ex hm
  unfold mLc
  rw [e]
  simp only [Option.bind_some]
  have key : ∀ (ys : List δ) (i : Nat) (acc : List D) (μ : MS), ys = xs.drop i → i + ys.length = xs.length → acc.length ≤ i → A i acc μ → ∃ acc' μ', loopC g tc m vs (ys.map emb) acc μ = some (acc', μ') ∧ A xs.length acc' μ' := by
    intro ys
    induction ys with
    | nil =>
      intro i acc μ e hi ha hA
      simp only [List.length_nil, Nat.add_zero] at hi
      exact ⟨acc, μ, rfl, hi ▸ hA⟩
    | cons y ys ih =>
      intro i acc μ e hi ha hA
      simp only [List.length_cons] at hi
      have hy : xs[i]? = some y := by
        have := List.getElem?_drop (xs := xs) (i := i) (j := 0)
        rw [← e] at this
        simpa using this.symm
      have hys : ys = xs.drop (i + 1) := by
        have := congrArg List.tail e
        simpa [List.tail_drop] using this
      have q := hs i y acc μ hy ha hA
      obtain ⟨μ2, e2, q⟩ := wo_ex q
      obtain ⟨b, μ3, e3, q⟩ := wm_ex q
      simp only [List.map_cons, loopC, e2, e3, Option.bind_some]
      cases b with
      | false =>
        simp only [Bool.false_eq_true, if_false] at q ⊢
        exact ih (i + 1) acc _ hys (by omega) (by omega) (by with_unfolding_all exact q)
      | true =>
        simp only [if_true] at q ⊢
        obtain ⟨d, μ4, e4, q⟩ := wm_ex q
        simp only [e4, Option.bind_some]
        rw [if_pos (show acc.length < lineN by show acc.length < 16777216; omega)]
        exact ih (i + 1) _ _ hys (by omega) (by rw [List.length_append, List.length_singleton]; omega) (by with_unfolding_all exact q)
  obtain ⟨acc', μ2, e5, hA'⟩ := key xs 0 [] _ rfl (by simp) (Nat.zero_le _) (by with_unfolding_all exact h0)
  rw [e5]
  simp only [Option.bind_some, WM_some]
  have := hd _ _ hA'
  with_unfolding_all exact this
/-- the whole told at once: those that are taken -/
theorem wm_lcfil {δ : Type} {mi : M (List D)} {g : D → MS → Option MS} {tc : M Bool} {m : M D} {vs : List Nat} {μ : MS} {Q : List D → MS → Prop} (emb : δ → D) (c : δ → Bool) (f : δ → D) (μ1 : MS) (xs : List δ) (hl : xs.length ≤ 16777216)
    (hm : Go (WM (mi μ) fun ds μ' => ds = xs.map emb ∧ μ' = μ1))
    (hs : ∀ x ∈ xs, Go (WS (wipeS μ1 vs) fun μ2 => WO (g (emb x) μ2) fun μ2 => WM (tc μ2) fun b μ3 => b = c x ∧ if b = true then WM (m μ3) fun d μ4 => d = f x ∧ wipeS μ4 vs = wipeS μ1 vs else wipeS μ3 vs = wipeS μ1 vs))
    (hd : Go (WS (restS μ1 vs (wipeS μ1 vs)) fun μ3 => Q ((xs.filter c).map f) μ3)) : WM (mLc mi g tc m vs μ) Q := by
  refine wm_lcc emb μ1 (fun i acc μ2 => acc = ((xs.take i).filter c).map f ∧ μ2 = wipeS μ1 vs) xs hl hm ⟨rfl, rfl⟩ ?_ ?_
  · rintro i x acc μ hx ha ⟨rfl, rfl⟩
    have hx' : x ∈ xs := List.mem_of_getElem? hx
    refine WO_mono (hs x hx') fun μ2 h => ?_
    refine WM_mono h fun b μ3 h => ?_
    obtain ⟨rfl, h⟩ := h
    rw [List.take_add_one, hx]
    cases hc : c x with
    | false =>
      rw [hc] at h
      simp only [Bool.false_eq_true, if_false] at h ⊢
      refine ⟨?_, h⟩
      simp [hc]
    | true =>
      rw [hc] at h
      simp only [if_true] at h ⊢
      refine WM_mono h fun d μ4 h => ?_
      refine ⟨?_, h.2⟩
      simp [hc, h.1]
  · rintro acc μ2 ⟨rfl, rfl⟩
    rw [List.take_length]
    exact hd
end Mi
/-! Mi, fourteenth part: sorted(set(t)). -/
namespace Mi
open PySem PySem.Spec PyProof.Rows L2
def insU (x : Int) : List Int → List Int
  | [] => [x]
  | y :: r => if x < y then x :: y :: r else if x = y then y :: r else y :: insU x r
def srtU (ns : List Int) : List Int := ns.foldr insU []
theorem mem_insU {x k : Int} : ∀ {r : List Int}, k ∈ insU x r ↔ k = x ∨ k ∈ r
  | [] => by simp [insU]
  | y :: r => by
    unfold insU
    split
    · simp
    · split
      · rename_i h; subst h; simp
      · rw [List.mem_cons, mem_insU (r := r), List.mem_cons]
        constructor
        · rintro (h | h | h)
          · exact .inr (.inl h)
          · exact .inl h
          · exact .inr (.inr h)
        · rintro (h | h | h)
          · exact .inr (.inl h)
          · exact .inl h
          · exact .inr (.inr h)
theorem insU_srt {x : Int} : ∀ {r : List Int}, r.Pairwise (· < ·) → (insU x r).Pairwise (· < ·)
  | [], _ => by simp [insU]
  | y :: r, h => by
    rw [List.pairwise_cons] at h
    unfold insU
    split
    · rename_i hx
      refine List.pairwise_cons.mpr ⟨fun z hz => ?_, List.pairwise_cons.mpr h⟩
      rcases List.mem_cons.mp hz with rfl | hz
      · exact hx
      · exact Int.lt_trans hx (h.1 z hz)
    · split
      · exact List.pairwise_cons.mpr h
      · refine List.pairwise_cons.mpr ⟨fun z hz => ?_, insU_srt h.2⟩
        rcases mem_insU.mp hz with rfl | hz
        · omega
        · exact h.1 z hz
theorem srtU_mem {k : Int} : ∀ {ns : List Int}, k ∈ srtU ns ↔ k ∈ ns
  | [] => by simp [srtU]
  | n :: ns => by
    show k ∈ insU n (srtU ns) ↔ _
    rw [mem_insU, srtU_mem, List.mem_cons]
theorem srtU_srt : ∀ (ns : List Int), (srtU ns).Pairwise (· < ·)
  | [] => by simp [srtU]
  | n :: ns => insU_srt (srtU_srt ns)
theorem srt_eq : ∀ {as bs : List Int}, as.Pairwise (· < ·) → bs.Pairwise (· < ·) → (∀ k, k ∈ as ↔ k ∈ bs) → as = bs
  | [], [], _, _, _ => rfl
  | [], b :: bs, _, _, h => by have := (h b).mpr List.mem_cons_self; cases this
  | a :: as, [], _, _, h => by have := (h a).mp List.mem_cons_self; cases this
  | a :: as, b :: bs, ha, hb, h => by
    rw [List.pairwise_cons] at ha hb
    have e : a = b := by
      rcases List.mem_cons.mp ((h a).mp List.mem_cons_self) with e | e
      · exact e
      · rcases List.mem_cons.mp ((h b).mpr List.mem_cons_self) with e2 | e2
        · exact e2.symm
        · have := hb.1 a e
          have := ha.1 b e2
          omega
    subst e
    rw [srt_eq ha.2 hb.2 fun k => ?_]
    have hk := h k
    constructor
    · intro hm
      rcases List.mem_cons.mp (hk.mp (List.mem_cons_of_mem _ hm)) with e | e
      · have := ha.1 k hm; omega
      · exact e
    · intro hm
      rcases List.mem_cons.mp (hk.mpr (List.mem_cons_of_mem _ hm)) with e | e
      · have := hb.1 k hm; omega
      · exact e
theorem srtU_self {ns : List Int} : srtU ns = ns ↔ ns.Pairwise (· < ·) :=
  ⟨fun h => h ▸ srtU_srt ns, fun h => srt_eq (srtU_srt ns) h fun k => srtU_mem⟩
/-- the mirror of sorted(set(t)) -/
def srtSetF : D → Option (List D)
  | .tuple ds => (ints? ds).bind fun ns => if ns.length < 60 then some ((srtU ns).map .int) else none
  | _ => none
def m1F (g : D → Option (List D)) (ma : M O) : M (List D) := fun μ => (ma μ).bind fun p => (look p.1 p.2).bind fun d => (g d).bind fun z => some (z, p.2)
section
variable {X : Cx}
def rSetTI (X : Cx) : List V → Hp → VK → Prop := fun xs H Q => ∃ (l : Addr) (ns : List Int), xs = [V.ref l] ∧ SqT X.K H l (ns.map V.int) ∧ ns.length + 1 < scanBound ∧ ∀ p c, H p = none → c ≤ ns.length → Q (.ref p) (upd H p (SetO X.w p (fun j => decide (j ∈ ns)) c))
theorem cr_setTI (hc : X.calm = true) : CallR X (.type "set") (rSetTI X) := by
  intro pins s σ H vs us Q I r h
  obtain ⟨a, ns, rfl, hs, hb, q⟩ := h
  obtain ⟨its, rv, hl, _⟩ := I.tuple hs
  rw [Vals.ref1 r]
  exact call_set_tupI ns (I.ok.hd hc) hl rv.ints hb fun h' tk c R hcl hk => ⟨.ref _, upd H s.heap.objs.size (SetO X.w s.heap.objs.size (fun j => decide (j ∈ ns)) c), I.laid (t' := tk) hk (Nat.le_refl _) (setO_new R), rfl, q _ c (I.hok.fresh (Nat.le_refl _)) hcl⟩
variable {p p2 q pos : Pos} {e : Expr} {m : M O}
theorem f_sortedSet (hc : X.calm = true) (hm : X.mg "sorted" = none) (hm2 : X.mg "set" = none) (ha : DO X e m) (hg : Gl X "sorted" := by rfl) (hg2 : Gl X "set" := by rfl)
    (he : starEach [e] X.env = [(false, eval e X.env)] := by rfl) : DF X (.Call (.Name "sorted" p) [.Call (.Name "set" p2) [e] [] q] [] pos) (m1F srtSetF m) := by
  obtain ⟨t, ht, o⟩ := ha.ex
  refine ⟨_, pe_callB (cr_sortedSet hc) hg hm (by decide +kernel) (pa_cons (pe_callTy (cr_setTI hc) hg2 hm2 (by decide +kernel) (pa_cons ht pa_nil he) (by decide) (by decide) he) pa_nil), fun c B σ H μ ds μ' Q rel hm k => ?_⟩
  unfold m1F at hm
  simp only [Option.bind_eq_some_iff] at hm
  obtain ⟨⟨o1, μ1⟩, h1, d, h2, z, h3, h4⟩ := hm
  cases h4
  unfold srtSetF at h3
  split at h3
  · rename_i ds2
    simp only [Option.bind_eq_some_iff] at h3
    obtain ⟨ns, h5, h6⟩ := h3
    split at h6
    · rename_i hlen
      cases h6
      refine o c B σ H μ o1 μ1 _ rel h1 fun B1 H1 x e1 r1 x1 => ?_
      obtain ⟨a, vs, rfl, s1, s2, s3⟩ := (look_ok r1 x1 h2).tuple r1.r0.ext
      rw [ints?_some h5] at s3
      refine ⟨a, ns, rfl, by rw [← s3.ints]; exact s1, by unfold scanBound; omega, fun p0 c0 hp0 hc0 => ?_⟩
      refine ⟨p0, _, c0, rfl, upd_same, by omega, fun out p1 hsrt hmem hl hp1 => ?_⟩
      have r2 := r1.hide (o := SetO X.w p0 (fun j => decide (j ∈ ns)) c0) hp0
      have r3 := r2.hide (o := .lst (out.map V.int)) hp1
      obtain ⟨f0, fb⟩ := r2.r0.fresh hp1
      have eq : out = srtU ns := srt_eq hsrt (srtU_srt ns) fun k => by rw [hmem k, srtU_mem, decide_eq_true_iff]
      rw [eq] at r3 ⊢
      exact k B1 _ p1 _ e1 r3 upd_same fb f0 (r2.noOwn hp1) (RpA.ofInts _)
    · cases h6
  · cases h3
end
end Mi
namespace Wk
open PySem PySem.Spec PyProof.Rows L2 Mi
def topS (i : Nat) : Stmt := PySem.Challenge.pw_plaintraining_k53_papers_of_partings_jud.main.body.getD i (.Pass ⟨0, 0, 0, 0⟩)
structure T (K : PySem.W.Frag) (mg : Str → Option Value) (a : Nat → Addr) (d : Nat → FuncData) : Prop where
  z_abs : mg "abs" = none
  z_all : mg "all" = none
  z_any : mg "any" = none
  z_bool : mg "bool" = none
  z_int : mg "int" = none
  z_isinstance : mg "isinstance" = none
  z_len : mg "len" = none
  z_list : mg "list" = none
  z_max : mg "max" = none
  z_min : mg "min" = none
  z_range : mg "range" = none
  z_set : mg "set" = none
  z_sorted : mg "sorted" = none
  z_sum : mg "sum" = none
  z_tuple : mg "tuple" = none
  F1 : Fun K "greedy_parting" "greedy_parting" (topS 1) (a 1) (d 1)
  m1 : mg "greedy_parting" = some (.ref (a 1))
  b1 : Binds K (d 1) ["works", "most"] []
  F2 : Fun K "parting_works" "parting_works" (topS 2) (a 2) (d 2)
  m2 : mg "parting_works" = some (.ref (a 2))
  b2 : Binds K (d 2) ["works", "begins"] []
  F3 : Fun K "best_most" "best_most" (topS 3) (a 3) (d 3)
  m3 : mg "best_most" = some (.ref (a 3))
  b3 : Binds K (d 3) ["works", "stages"] []
  F4 : Fun K "best_parting" "best_parting" (topS 4) (a 4) (d 4)
  m4 : mg "best_parting" = some (.ref (a 4))
  b4 : Binds K (d 4) ["works", "stages"] []
  F5 : Fun K "is_parting" "is_parting" (topS 5) (a 5) (d 5)
  m5 : mg "is_parting" = some (.ref (a 5))
  b5 : Binds K (d 5) ["works", "stages", "begins"] []
  F6 : Fun K "judge_parting" "judge_parting" (topS 6) (a 6) (d 6)
  m6 : mg "judge_parting" = some (.ref (a 6))
  b6 : Binds K (d 6) ["works", "stages", "value"] []
  F7 : Fun K "judge_closer" "judge_closer" (topS 7) (a 7) (d 7)
  m7 : mg "judge_closer" = some (.ref (a 7))
  b7 : Binds K (d 7) ["works", "stages", "most", "closer"] []
  F9 : Fun K "_law_state" "_law_state" (topS 9) (a 9) (d 9)
  m9 : mg "_law_state" = some (.ref (a 9))
  b9 : Binds K (d 9) ["script"] []
  F10 : Fun K "_law_draw" "_law_draw" (topS 10) (a 10) (d 10)
  m10 : mg "_law_draw" = some (.ref (a 10))
  b10 : Binds K (d 10) ["state", "many"] []
  F11 : Fun K "_law_sums" "_law_sums" (topS 11) (a 11) (d 11)
  m11 : mg "_law_sums" = some (.ref (a 11))
  b11 : Binds K (d 11) ["works", "begins"] []
  F12 : Fun K "_law_parting" "_law_parting" (topS 12) (a 12) (d 12)
  m12 : mg "_law_parting" = some (.ref (a 12))
  b12 : Binds K (d 12) ["works", "begins", "stages"] []
  F13 : Fun K "_law_paper" "_law_paper" (topS 13) (a 13) (d 13)
  m13 : mg "_law_paper" = some (.ref (a 13))
  b13 : Binds K (d 13) ["works", "stages", "value"] []
  F14 : Fun K "_law_odd" "_law_odd" (topS 14) (a 14) (d 14)
  m14 : mg "_law_odd" = some (.ref (a 14))
  b14 : Binds K (d 14) ["state"] []
  F15 : Fun K "law" "law" (topS 15) (a 15) (d 15)
  m15 : mg "law" = some (.ref (a 15))
  b15 : Binds K (d 15) ["script"] []
section
variable {P : Program} {w : World} {K : PySem.W.Frag} {mg : Str → Option Value} {base : Heap} {a : Nat → Addr} {d : Nat → FuncData}
/-! ### the draws, by hand -/
abbrev m_law_draw : FM := drawF
theorem sc_law_state : FnScope ["script", "seed", "cell"] ["script"] (defScope (topS 9)) := ⟨rfl, rfl, rfl, by decide +kernel, rfl, by decide +kernel, by decide +kernel⟩
theorem seed_bd : ∀ (ns : List Int) (z : Int), 0 ≤ z ∧ z < 1000003 → 0 ≤ ns.foldl (fun s c => (s * 31 + c) % 1000003) z ∧ ns.foldl (fun s c => (s * 31 + c) % 1000003) z < 1000003
  | [], z, h => h
  | n :: ns, z, h => seed_bd ns ((z * 31 + n) % 1000003) ⟨by omega, by omega⟩
theorem ok_law_state (T : T K mg a d) : FnOk P w K mg base CX0 1 (a 9) (d 9) ["script"] (spState K) := by
  have nd := sc_law_state.nd
  refine T.F9.ok sc_law_state (fun vs H Q E h => ?_) (fun cdv A outer s H vs Q E hr h => ?_)
  · obtain ⟨aa, ns, rfl, _⟩ := h
    rfl
  · obtain ⟨aa, ns, rfl, hS, hlen, k⟩ := h
    refine ⟨_, pss_cons (ps_set (i := 1) nd rfl (Or.inl rfl) pe_int)
      (pss_cons (ps_for PassesOwn.never rfl (pi_list (pv 0)) (pg_name (i := 2) nd rfl (Or.inl rfl))
        (pss_one (ps_set (i := 1) nd rfl (Or.inl rfl) (pe_op op_mod (pe_callTy call_int1 (by rfl) T.z_int (by decide +kernel) (pa_cons (pe_op op_add (pe_op op_mul (pv 1) pe_int) (pv 2)) pa_nil)) pe_int))))
      (pss_one (ps_ret (pe_lst (pa_cons (pe_lc (own := [("cell", 2)]) (g := gName 2) (tt := tYes) rfl nd (pi_list (pv 0)) (blkOk_by (N := ["script", "seed", "cell"]) (sc := defScope (topS 9)) (by decide +kernel)) (fun _ _ _ _ _ => pg_name (i := 2) nd rfl (Or.inl rfl)) (fun _ _ _ _ _ => pts_nil)
        (fun _ _ _ _ _ => pe_callB call_abs (by rfl) T.z_abs (by decide +kernel) (pa_cons (pv 2) pa_nil))) (pa_cons (pe_op op_add (pv 1) pe_int) pa_nil)))))), ?_⟩
    refine ⟨_, rfl, aa, rfl, ⟨_, hS⟩, for_list (K := K) (a := aa) (xs := ns.map V.int) (fun i σ H' => ∃ v, σ = [some (.ref aa), some (.int ((ns.take i).foldl (fun s c => (s * 31 + c) % 1000003) 7)), v] ∧ H' = H) ⟨none, rfl, rfl⟩ (fun i σ H' _ ⟨_, _, e⟩ => by rw [e]; exact hS) ?_ ?_⟩
    · rintro i y σ H' hi ⟨v, rfl, rfl⟩
      rw [List.getElem?_map] at hi
      obtain ⟨n, hn, rfl⟩ := Option.map_eq_some_iff.mp hi
      have hb := seed_bd (ns.take i) 7 (by decide)
      refine ⟨_, rfl, _, _, rfl, rfl, .inl ⟨by omega, by omega⟩, _, rfl, _, _, rfl, rfl, .inl ⟨_, rfl, _, _, rfl, rfl, (show (0 : Int) < 1000003 by decide), ?_⟩⟩
      refine ⟨some (.int n), ?_, rfl⟩
      have ht : ns.take (i + 1) = ns.take i ++ [n] := by rw [List.take_add_one, hn]; rfl
      show [_, _, _] = _
      rw [ht, List.foldl_append]
      rfl
    · rintro σ H' ⟨v, rfl, rfl⟩
      rw [List.length_map, List.take_length]
      refine ⟨_, rfl, aa, rfl, ⟨_, hS⟩, fun D hD => lc_list (K := K) (a := aa) (xs := ns.map V.int) (fun i H2 => Ext H' H2 ∧ H2 D = some (.lst (((ns.take i).map fun n => if n < 0 then -n else n).map V.int))) ⟨Ext.new hD, upd_same⟩ (fun i H2 _ h => (show SqL K H2 aa (ns.map V.int) from by
        rcases hS with hS | hS
        · exact .inl (h.1.rd hS)
        · exact .inr hS)) ?_ ?_⟩
      · rintro i y H2 hi ⟨e2, h2⟩
        rw [List.getElem?_map] at hi
        obtain ⟨n, hn, rfl⟩ := Option.map_eq_some_iff.mp hi
        refine ⟨rfl, _, rfl, _, rfl, _, h2, ?_, ?_⟩
        · rw [List.length_map, List.length_map, List.length_take]
          exact Nat.lt_of_le_of_lt (Nat.le_trans (Nat.min_le_right _ _) hlen) (by decide)
        · refine ⟨fun b o e => ?_, ?_⟩
          · rw [upd_ne (fun z => by rw [z, hD] at e; cases e)]
            exact e2 b o e
          · rw [upd_same]
            have ht : ns.take (i + 1) = ns.take i ++ [n] := by rw [List.take_add_one, hn]; rfl
            rw [ht, List.map_append, List.map_append]
            rfl
      · rintro H2 ⟨e2, h2⟩
        rw [List.length_map, List.take_length] at h2
        refine ⟨_, rfl, _, _, rfl, rfl, (by show 2 ≤ sizeLine; decide), fun p hp => ?_⟩
        have npD : p ≠ D := fun z => by rw [z, h2] at hp; cases hp
        refine k _ p D (e2.none hp) hD npD (e2.trans (Ext.new hp)) ?_ ?_
        · rw [upd_same]; rfl
        · rw [upd_ne (Ne.symm npD)]; exact h2
theorem sc_law_draw : FnScope ["state", "many", "cells", "value", "mixed"] ["state", "many"] (defScope (topS 10)) := ⟨rfl, rfl, rfl, by decide +kernel, rfl, by decide +kernel, by decide +kernel⟩
theorem ok_law_draw (T : T K mg a d) : FnOk P w K mg base CX0 1 (a 10) (d 10) ["state", "many"] (spM K 2 drawF) := by
  have nd := sc_law_draw.nd
  refine T.F10.ok sc_law_draw (fun vs H Q E h => h.1) (fun cdv A outer s H vs Q E hr h => ?_)
  obtain ⟨x, y, m, dr, rfl, hm0, hm1, nxy, h1, h2, k⟩ := draw_open h
  refine ⟨_, pss_cons (ps_set (i := 2) nd rfl (Or.inl rfl) (pe_ix ix_list (pv 0) pe_int (fun _ _ => rfl)))
    (pss_cons (ps_while PassesOwn.never (PW.pt (pw_and (pt_cmpR op_gt (pe_callB call_len_seq (by rfl) T.z_len PySem.boot_len (pa_cons (pv 2) pa_nil)) pe_int (nomark _)) (pw_and1 (pt_cmpR op_eq (pe_ix ix_list (pv 2) pe_int (fun _ _ => rfl)) pe_int (nomark _)))))
      (pss_one (ps_expr (pe_bm PySem.F.plainAttrs_list PySem.F.slot_list_pop PySem.F.type_list_pop mt_popAt (pv 2) (pa_cons pe_int pa_nil)))))
    (pss_cons (ps_if (pt_cmpR op_gt (pe_callB call_len_seq (by rfl) T.z_len PySem.boot_len (pa_cons (pv 2) pa_nil)) pe_int (nomark _))
      (pss_cons (ps_set (i := 3) nd rfl (Or.inl rfl) (pe_ix ix_list (pv 2) pe_int (fun _ _ => rfl)))
        (pss_cons (ps_asg (pe_op op_fdivW (pv 3) (pv 1)) (pg_sub (pv 2) pe_int set_list))
          (pss_one (ps_ret (pe_op op_mod (pe_callTy call_int1 (by rfl) T.z_int (by decide +kernel) (pa_cons (pv 3) pa_nil)) (pv 1)))))) pss_nil)
    (pss_cons (ps_set (i := 4) nd rfl (Or.inl rfl) (pe_op op_mod (pe_callTy call_int1 (by rfl) T.z_int (by decide +kernel) (pa_cons (pe_op op_add (pe_op op_mul (pe_ix ix_list (pv 0) pe_int (fun _ _ => rfl)) pe_int) pe_int) pa_nil)) pe_int))
    (pss_cons (ps_asg (pv 4) (pg_sub (pv 0) pe_int set_list))
    (pss_one (ps_ret (pe_op op_mod (pe_callTy call_int1 (by rfl) T.z_int (by decide +kernel) (pa_cons (pe_op op_fdivW (pv 4) pe_int) pa_nil)) (pv 1)))))))), ?_⟩
  refine ⟨_, rfl, x, _, _, _, rfl, rfl, SqL.of h1, rfl, ?_⟩
  refine ⟨fun n σ H' => ∃ cs : List Int, n = cs.length ∧ σ = [some (.ref x), some (.int m), some (.ref y), none, none] ∧ H' y = some (.lst (cs.map V.int)) ∧ H' x = some (.lst [.ref y, .int dr.2]) ∧ (∀ b, b ≠ x → b ≠ y → H' b = H b) ∧ cs.dropWhile (fun n => n == 0) = dr.1.dropWhile (fun n => n == 0),
    ⟨_, dr.1, rfl, rfl, h2, h1, fun _ _ _ => rfl, rfl⟩, ?_⟩
  rintro n σ1 H1 ⟨cs, rfl, rfl, hy, hx, hk, hdw⟩
  refine ⟨_, rfl, y, _, rfl, .inl (SqL.of hy), _, _, rfl, rfl, _, rfl, ?_⟩
  cases cs with
  | nil =>
    have e0 : decide ((0 : Int) < (((([] : List Int).map V.int).length : Nat) : Int)) = false := by decide
    rw [e0]
    refine iteF ?_
    refine iteF ?_
    refine ⟨_, rfl, y, _, rfl, .inl (SqL.of hy), _, _, rfl, rfl, _, rfl, ?_⟩
    rw [e0]
    refine iteF ?_
    refine ⟨_, rfl, x, _, _, _, rfl, rfl, SqL.of hx, rfl, _, _, rfl, rfl, .inr ⟨by decide, by decide⟩, _, _, rfl, rfl, .inl ⟨_, rfl, _, _, rfl, rfl, (show (0 : Int) < 2147483647 by decide), ?_⟩⟩
    refine ⟨_, rfl, _, rfl, x, _, _, 1, rfl, rfl, hx, rfl, ?_⟩
    refine ⟨_, rfl, _, _, rfl, rfl, ⟨by decide, by decide⟩, .inl ⟨_, rfl, _, rfl, _, _, rfl, rfl, hm0, ?_⟩⟩
    have hd : drawM m dr = ((((dr.2 * 48271 + 12345) % 2147483647) / 64) % m, ([], (dr.2 * 48271 + 12345) % 2147483647)) := by
      unfold drawM
      rw [← hdw]
      rfl
    have q := k (upd H1 x (.lst [.ref y, .int ((dr.2 * 48271 + 12345) % 2147483647)])) (fun b hb hb2 => by rw [upd_ne hb]; exact hk b hb hb2) (by rw [hd]; exact upd_same) (by rw [hd, upd_ne (Ne.symm nxy)]; exact hy)
    rw [hd] at q
    exact q
  | cons c cs =>
    have e0 : decide ((0 : Int) < ((((c :: cs : List Int).map V.int).length : Nat) : Int)) = true := decide_eq_true (by rw [List.length_map, List.length_cons]; omega)
    rw [e0]
    refine iteT ?_
    refine ⟨_, rfl, y, _, _, _, rfl, rfl, SqL.of hy, atI_nat (j := 0) rfl, rfl, _, rfl, ?_⟩
    by_cases hc : c = 0
    · subst hc
      rw [decide_eq_true rfl]
      refine iteT ?_
      refine ⟨fun σ' H' => ∃ cs' : List Int, cs'.length < (0 :: cs).length ∧ σ' = [some (.ref x), some (.int m), some (.ref y), none, none] ∧ H' y = some (.lst (cs'.map V.int)) ∧ H' x = some (.lst [.ref y, .int dr.2]) ∧ (∀ b, b ≠ x → b ≠ y → H' b = H b) ∧ cs'.dropWhile (fun n => n == 0) = dr.1.dropWhile (fun n => n == 0),
        fun σ' H' ⟨cs', g1, g2⟩ => ⟨cs'.length, g1, cs', rfl, g2⟩, ?_⟩
      refine ⟨_, rfl, .inl ⟨rfl, _, SqL.of hy⟩, y, _, 0, 0, _, rfl, rfl, hy, by decide, by decide, seq0, rfl, ?_⟩
      refine ⟨cs, Nat.lt_succ_self _, rfl, upd_same, by rw [upd_ne nxy]; exact hx, fun b hb hb2 => by rw [upd_ne hb2]; exact hk b hb hb2, ?_⟩
      rw [← hdw]
      rfl
    · have nc : decide (V.int c = V.int 0) = false := decide_eq_false fun e => hc (by cases e; rfl)
      rw [nc]
      refine iteF ?_
      refine ⟨_, rfl, y, _, rfl, .inl (SqL.of hy), _, _, rfl, rfl, _, rfl, ?_⟩
      rw [e0]
      refine iteT ?_
      refine ⟨_, rfl, y, _, _, _, rfl, rfl, SqL.of hy, atI_nat (j := 0) rfl, ?_⟩
      refine ⟨_, rfl, _, rfl, _, _, rfl, rfl, ⟨hm0, hm1⟩, _, rfl, y, _, _, 0, rfl, rfl, hy, ixN0, ?_⟩
      refine ⟨_, rfl, .inl ⟨_, rfl, _, rfl, _, _, rfl, rfl, hm0, ?_⟩⟩
      have hb : (c == 0) = false := by rw [beq_eq_false_iff_ne]; exact hc
      have hd : drawM m dr = (c % m, (c / m :: cs, dr.2)) := by
        unfold drawM
        rw [← hdw, List.dropWhile_cons, hb]
        rfl
      have q := k (upd H1 y (.lst ((c / m :: cs).map V.int))) (fun b hb hb2 => by rw [upd_ne hb2]; exact hk b hb hb2) (by rw [hd, upd_ne nxy]; exact hx) (by rw [hd]; exact upd_same)
      rw [hd] at q
      exact q

/-! ### greedy_parting(works, most): 0 works 1 most 2 told 3 taken 4 t -/
def b_greedy_parting : MT :=
  (sSeq (sPar [2, 3] (xNew (mLst (mDs [])) (xVal (mC .none) xNil)))
  (sSeq (sFor (mCall rng1 (aCons (oVal (mCall lenD (aCons (oName 0) aNil))) aNil)) (gN 4) (sSeq (sIf (bOr (mB (m2 isD (oName 3) (oVal (mC .none)))) (mB (m2 gtD (oVal (m2 addD (oName 3) (oVal (m2 ixD (oName 0) (oName 4))))) (oName 1)))) (sSeq (sDrop (mApp 2 (mVar 4)))
  (sSet 3 (mC (.int 0)))) sNil)
  (sSet 3 (m2 addD (oName 3) (oVal (m2 ixD (oName 0) (oName 4)))))))
  (sRet (mCall tupD (aCons (oName 2) aNil)))))
def m_greedy_parting : FM := fnM 5 b_greedy_parting
theorem sc_greedy_parting : FnScope ["works", "most", "told", "taken", "t"] ["works", "most"] (defScope (topS 1)) := ⟨rfl, rfl, rfl, by decide +kernel, rfl, by decide +kernel, by decide +kernel⟩
theorem ok_greedy_parting (T : T K mg a d) : FnOk P w K mg base CX0 1 (a 1) (d 1) ["works", "most"] (spM K 2 m_greedy_parting) := by
  have nd := sc_greedy_parting.nd
  refine fn_ok (N := ["works", "most", "told", "taken", "t"]) (body := b_greedy_parting) T.F1 sc_greedy_parting (by decide) fun cdv A outer s H E hr => ?_
  have hu : (A.deeper (envOfC "greedy_parting" (defScope (topS 1)) s.heap.objs.size (a 1) cdv)).units + 65 < cLine := by have := hr.un; omega
  have hu64 : (A.deeper (envOfC "greedy_parting" (defScope (topS 1)) s.heap.objs.size (a 1) cdv)).units + 64 < cLine := by have := hr.un; omega
  unfold b_greedy_parting
  exact (ss_cons (s_par2 (i := 2) (j := 3) rfl nd (by decide) (x_new (f_lst v_nil) (x_val e_non x_nil)))
  (ss_cons (s_for PassesOwn.never rfl (i_range1 T.z_range (a_cons (o_of (e_len T.z_len (a_cons (o_name 0) a_nil))) a_nil)) (g_name 4 nd) (ss_cons (s_if (t_w (w_or (t_cm c_is (o_name 3) (o_of e_non)) (w_or1 (t_cm c_gt (o_of (e_add (o_name 3) (o_of (e_at (o_name 0) (o_name 4))))) (o_name 1))))) (ss_cons (s_expr (e_append 2 (e_of (o_name 4))))
  (ss_one (s_set (i := 3) nd e_int))) ss_nil)
  (ss_one (s_set (i := 3) nd (e_add (o_name 3) (o_of (e_at (o_name 0) (o_name 4))))))))
  (ss_one (s_ret (e_tuple T.z_tuple (a_cons (o_name 2) a_nil))))))
/-! ### parting_works(works, begins): 0 works 1 begins 2 ends 3 t -/
def b_parting_works : MT :=
  (sSeq (sSet 2 (m2 addD (oVal (mSl slA (oName 1) (pSome (mC (.int 1))) pNone)) (oVal (mTup (mDs [(mCall lenD (aCons (oName 0) aNil))])))))
  (sRet (mCall tupD (aCons (oVal (eNew (mLc (mCall rng1 (aCons (oVal (mCall lenD (aCons (oName 1) aNil))) aNil)) (gN 3) tYesM (mCall sumD (aCons (oVal (mSl slA (oName 0) (pSome (m2 ixD (oName 1) (oName 3))) (pSome (m2 ixD (oName 2) (oName 3))))) aNil)) [3]))) aNil))))
def m_parting_works : FM := fnM 4 b_parting_works
theorem sc_parting_works : FnScope ["works", "begins", "ends", "t"] ["works", "begins"] (defScope (topS 2)) := ⟨rfl, rfl, rfl, by decide +kernel, rfl, by decide +kernel, by decide +kernel⟩
theorem ok_parting_works (T : T K mg a d) : FnOk P w K mg base CX0 1 (a 2) (d 2) ["works", "begins"] (spM K 2 m_parting_works) := by
  have nd := sc_parting_works.nd
  refine fn_ok (N := ["works", "begins", "ends", "t"]) (body := b_parting_works) T.F2 sc_parting_works (by decide) fun cdv A outer s H E hr => ?_
  have hu : (A.deeper (envOfC "parting_works" (defScope (topS 2)) s.heap.objs.size (a 2) cdv)).units + 65 < cLine := by have := hr.un; omega
  have hu64 : (A.deeper (envOfC "parting_works" (defScope (topS 2)) s.heap.objs.size (a 2) cdv)).units + 64 < cLine := by have := hr.un; omega
  unfold b_parting_works
  exact (ss_cons (s_set (i := 2) nd (e_add (o_of (e_sliceA (o_name 1) (p_some e_int) p_none)) (o_of (e_tup (v_cons (e_len T.z_len (a_cons (o_name 0) a_nil)) v_nil)))))
  (ss_one (s_ret (e_tuple T.z_tuple (a_cons (o_of (e_new (f_lc (own := [("t", 3)]) rfl nd (i_range1 T.z_range (a_cons (o_of (e_len T.z_len (a_cons (o_name 1) a_nil))) a_nil)) (blkOk_by (N := ["works", "begins", "ends", "t"]) (sc := defScope (topS 2)) (by decide +kernel)) (by decide) (fun _ _ _ _ _ => (g_name 3 nd)) (fun _ _ _ _ _ => ts_nil) (fun _ _ _ _ _ => (e_sum rfl T.z_sum (a_cons (o_of (e_sliceA (o_name 0) (p_some (e_at (o_name 1) (o_name 3))) (p_some (e_at (o_name 2) (o_name 3))))) a_nil)))))) a_nil)))))
/-! ### is_parting(works, stages, begins): 0 works 1 stages 2 begins 3 rising 4 one 5 t -/
def b_is_parting : MT :=
  (sSeq (sIf (bOr (bNot (mTruth (oVal (m1 (isiN "tuple") (oName 2))))) (mB (m2 gtD (oVal (mCall lenD (aCons (oName 2) aNil))) (oName 1)))) (sRet (mC (.bool false))) sNil)
  (sSeq (sIf (mTruth (oVal (mCall anyD (aCons (oVal (eNew (mLc (mSeq (mVar 2)) (gN 4) tYesM (eOr (eNot (oVal (m1 (isiN "int") (oName 4)))) (m1 (isiN "bool") (oName 4))) [4]))) aNil)))) (sRet (mC (.bool false))) sNil)
  (sSeq (sIf (mB (m2 eqD (oVal (mCall lenD (aCons (oName 0) aNil))) (oVal (mC (.int 0))))) (sRet (m2 eqD (oName 2) (oVal (mTup (mDs []))))) sNil)
  (sSeq (sSet 3 (mCall allD (aCons (oVal (eNew (mLc (mCall rng1 (aCons (oVal (m2 subD (oVal (mCall lenD (aCons (oName 2) aNil))) (oVal (mC (.int 1))))) aNil)) (gN 5) tYesM (m2 ltD (oVal (m2 ixD (oName 2) (oName 5))) (oVal (m2 ixD (oName 2) (oVal (m2 addD (oName 5) (oVal (mC (.int 1)))))))) [5]))) aNil)))
  (sRet (eAnd (m2 gtD (oVal (mCall lenD (aCons (oName 2) aNil))) (oVal (mC (.int 0)))) (eAnd (m2 eqD (oVal (m2 ixD (oName 2) (oVal (mC (.int 0))))) (oVal (mC (.int 0)))) (eAnd (mVar 3) (m2 ltD (oVal (m2 ixD (oName 2) (oVal (m1 negD (oVal (mC (.int 1))))))) (oVal (mCall lenD (aCons (oName 0) aNil))))))))))))
def m_is_parting : FM := fnM 6 b_is_parting
theorem sc_is_parting : FnScope ["works", "stages", "begins", "rising", "one", "t"] ["works", "stages", "begins"] (defScope (topS 5)) := ⟨rfl, rfl, rfl, by decide +kernel, rfl, by decide +kernel, by decide +kernel⟩
theorem ok_is_parting (T : T K mg a d) : FnOk P w K mg base CX0 1 (a 5) (d 5) ["works", "stages", "begins"] (spM K 3 m_is_parting) := by
  have nd := sc_is_parting.nd
  refine fn_ok (N := ["works", "stages", "begins", "rising", "one", "t"]) (body := b_is_parting) T.F5 sc_is_parting (by decide) fun cdv A outer s H E hr => ?_
  have hu : (A.deeper (envOfC "is_parting" (defScope (topS 5)) s.heap.objs.size (a 5) cdv)).units + 65 < cLine := by have := hr.un; omega
  have hu64 : (A.deeper (envOfC "is_parting" (defScope (topS 5)) s.heap.objs.size (a 5) cdv)).units + 64 < cLine := by have := hr.un; omega
  unfold b_is_parting
  exact (ss_cons (s_if (t_w (w_or (t_not (t_of (o_of (e_isi "tuple" T.z_isinstance T.z_tuple (o_name 2) (by decide +kernel))))) (w_or1 (t_cm c_gt (o_of (e_len T.z_len (a_cons (o_name 2) a_nil))) (o_name 1))))) (ss_one (s_ret e_bl)) ss_nil)
  (ss_cons (s_if (t_of (o_of (e_any rfl T.z_any (a_cons (o_of (e_new (f_lc (own := [("one", 4)]) rfl nd (i_seq (e_of (o_name 2))) (blkOk_by (N := ["works", "stages", "begins", "rising", "one", "t"]) (sc := defScope (topS 5)) (by decide +kernel)) (by decide) (fun _ _ _ _ _ => (g_name 4 nd)) (fun _ _ _ _ _ => ts_nil) (fun _ _ _ _ _ => (e_or (e_not (o_of (e_isi "int" T.z_isinstance T.z_int (o_name 4) (by decide +kernel)))) (e_one (e_isi "bool" T.z_isinstance T.z_bool (o_name 4) (by decide +kernel)))))))) a_nil)))) (ss_one (s_ret e_bl)) ss_nil)
  (ss_cons (s_if (t_cm (c_eq hu64) (o_of (e_len T.z_len (a_cons (o_name 0) a_nil))) (o_of e_int)) (ss_one (s_ret (e_cm (c_eq hu64) (o_name 2) (o_of (e_tup v_nil))))) ss_nil)
  (ss_cons (s_set (i := 3) nd (e_all rfl T.z_all (a_cons (o_of (e_new (f_lc (own := [("t", 5)]) rfl nd (i_range1 T.z_range (a_cons (o_of (e_sub (o_of (e_len T.z_len (a_cons (o_name 2) a_nil))) (o_of e_int))) a_nil)) (blkOk_by (N := ["works", "stages", "begins", "rising", "one", "t"]) (sc := defScope (topS 5)) (by decide +kernel)) (by decide) (fun _ _ _ _ _ => (g_name 5 nd)) (fun _ _ _ _ _ => ts_nil) (fun _ _ _ _ _ => (e_cm c_lt (o_of (e_at (o_name 2) (o_name 5))) (o_of (e_at (o_name 2) (o_of (e_add (o_name 5) (o_of e_int)))))))))) a_nil)))
  (ss_one (s_ret (e_and (e_cm c_gt (o_of (e_len T.z_len (a_cons (o_name 2) a_nil))) (o_of e_int)) (e_and (e_cm (c_eq hu64) (o_of (e_at (o_name 2) (o_of e_int))) (o_of e_int)) (e_and (e_of (o_name 3)) (e_one (e_cm c_lt (o_of (e_at (o_name 2) (o_of (e_neg (o_of e_int))))) (o_of (e_len T.z_len (a_cons (o_name 0) a_nil))))))))))))))
/-! ### _law_sums(works, begins): 0 works 1 begins 2 ends 3 t -/
def b_law_sums : MT :=
  (sSeq (sSet 2 (m2 addD (oVal (eNew (mCall listF (aCons (oVal (mSl slA (oName 1) (pSome (mC (.int 1))) pNone)) aNil)))) (oVal (eNew (mLst (mDs [(mCall lenD (aCons (oName 0) aNil))]))))))
  (sRet (eNew (mLc (mCall rng1 (aCons (oVal (mCall lenD (aCons (oName 1) aNil))) aNil)) (gN 3) tYesM (mCall sumD (aCons (oVal (mSl slA (oName 0) (pSome (m2 ixD (oName 1) (oName 3))) (pSome (m2 ixD (oName 2) (oName 3))))) aNil)) [3]))))
def m_law_sums : FM := fnM 4 b_law_sums
theorem sc_law_sums : FnScope ["works", "begins", "ends", "t"] ["works", "begins"] (defScope (topS 11)) := ⟨rfl, rfl, rfl, by decide +kernel, rfl, by decide +kernel, by decide +kernel⟩
theorem ok_law_sums (T : T K mg a d) : FnOk P w K mg base CX0 1 (a 11) (d 11) ["works", "begins"] (spM K 2 m_law_sums) := by
  have nd := sc_law_sums.nd
  refine fn_ok (N := ["works", "begins", "ends", "t"]) (body := b_law_sums) T.F11 sc_law_sums (by decide) fun cdv A outer s H E hr => ?_
  have hu : (A.deeper (envOfC "_law_sums" (defScope (topS 11)) s.heap.objs.size (a 11) cdv)).units + 65 < cLine := by have := hr.un; omega
  have hu64 : (A.deeper (envOfC "_law_sums" (defScope (topS 11)) s.heap.objs.size (a 11) cdv)).units + 64 < cLine := by have := hr.un; omega
  unfold b_law_sums
  exact (ss_cons (s_set (i := 2) nd (e_add (o_of (e_new (f_list T.z_list (a_cons (o_of (e_sliceA (o_name 1) (p_some e_int) p_none)) a_nil)))) (o_of (e_new (f_lst (v_cons (e_len T.z_len (a_cons (o_name 0) a_nil)) v_nil))))))
  (ss_one (s_ret (e_new (f_lc (own := [("t", 3)]) rfl nd (i_range1 T.z_range (a_cons (o_of (e_len T.z_len (a_cons (o_name 1) a_nil))) a_nil)) (blkOk_by (N := ["works", "begins", "ends", "t"]) (sc := defScope (topS 11)) (by decide +kernel)) (by decide) (fun _ _ _ _ _ => (g_name 3 nd)) (fun _ _ _ _ _ => ts_nil) (fun _ _ _ _ _ => (e_sum rfl T.z_sum (a_cons (o_of (e_sliceA (o_name 0) (p_some (e_at (o_name 1) (o_name 3))) (p_some (e_at (o_name 2) (o_name 3))))) a_nil))))))))
/-! ### _law_parting(works, begins, stages): 0 works 1 begins 2 stages 3 one -/
def b_law_parting : MT :=
  (sSeq (sIf (bOr (bNot (mTruth (oVal (m1 (isiN "tuple") (oName 1))))) (bOr (mB (m2 neD (oVal (eNew (mLc (mSeq (mVar 1)) (gN 3) (bOr (bNot (mTruth (oVal (m1 (isiN "int") (oName 3))))) (mTruth (oVal (m1 (isiN "bool") (oName 3))))) (mVar 3) [3]))) (oVal (eNew (mLst (mDs [])))))) (mB (m2 gtD (oVal (mCall lenD (aCons (oName 1) aNil))) (oName 2))))) (sRet (mC (.bool false))) sNil)
  (sSeq (sIf (bOr (mB (m2 eqD (oVal (mCall lenD (aCons (oName 0) aNil))) (oVal (mC (.int 0))))) (mB (m2 eqD (oVal (mCall lenD (aCons (oName 1) aNil))) (oVal (mC (.int 0)))))) (sRet (eAnd (m2 eqD (oVal (mCall lenD (aCons (oName 0) aNil))) (oVal (mC (.int 0)))) (m2 eqD (oVal (mCall lenD (aCons (oName 1) aNil))) (oVal (mC (.int 0)))))) sNil)
  (sRet (eAnd (m2 eqD (oVal (m2 ixD (oName 1) (oVal (mC (.int 0))))) (oVal (mC (.int 0)))) (eAnd (m2 eqD (oVal (eNew (m1F srtSetF (oName 1)))) (oVal (eNew (mCall listF (aCons (oName 1) aNil))))) (m2 ltD (oVal (m2 ixD (oName 1) (oVal (m1 negD (oVal (mC (.int 1))))))) (oVal (mCall lenD (aCons (oName 0) aNil)))))))))
def m_law_parting : FM := fnM 4 b_law_parting
theorem sc_law_parting : FnScope ["works", "begins", "stages", "one"] ["works", "begins", "stages"] (defScope (topS 12)) := ⟨rfl, rfl, rfl, by decide +kernel, rfl, by decide +kernel, by decide +kernel⟩
theorem ok_law_parting (T : T K mg a d) : FnOk P w K mg base CX0 1 (a 12) (d 12) ["works", "begins", "stages"] (spM K 3 m_law_parting) := by
  have nd := sc_law_parting.nd
  refine fn_ok (N := ["works", "begins", "stages", "one"]) (body := b_law_parting) T.F12 sc_law_parting (by decide) fun cdv A outer s H E hr => ?_
  have hu : (A.deeper (envOfC "_law_parting" (defScope (topS 12)) s.heap.objs.size (a 12) cdv)).units + 65 < cLine := by have := hr.un; omega
  have hu64 : (A.deeper (envOfC "_law_parting" (defScope (topS 12)) s.heap.objs.size (a 12) cdv)).units + 64 < cLine := by have := hr.un; omega
  unfold b_law_parting
  exact (ss_cons (s_if (t_w (w_or (t_not (t_of (o_of (e_isi "tuple" T.z_isinstance T.z_tuple (o_name 1) (by decide +kernel))))) (w_or (t_cm (c_ne hu64) (o_of (e_new (f_lc (own := [("one", 3)]) rfl nd (i_seq (e_of (o_name 1))) (blkOk_by (N := ["works", "begins", "stages", "one"]) (sc := defScope (topS 12)) (by decide +kernel)) (by decide) (fun _ _ _ _ _ => (g_name 3 nd)) (fun _ _ _ _ _ => (ts_one (t_w (w_or (t_not (t_of (o_of (e_isi "int" T.z_isinstance T.z_int (o_name 3) (by decide +kernel))))) (w_or1 (t_of (o_of (e_isi "bool" T.z_isinstance T.z_bool (o_name 3) (by decide +kernel))))))))) (fun _ _ _ _ _ => (e_of (o_name 3)))))) (o_of (e_new (f_lst v_nil)))) (w_or1 (t_cm c_gt (o_of (e_len T.z_len (a_cons (o_name 1) a_nil))) (o_name 2)))))) (ss_one (s_ret e_bl)) ss_nil)
  (ss_cons (s_if (t_w (w_or (t_cm (c_eq hu64) (o_of (e_len T.z_len (a_cons (o_name 0) a_nil))) (o_of e_int)) (w_or1 (t_cm (c_eq hu64) (o_of (e_len T.z_len (a_cons (o_name 1) a_nil))) (o_of e_int))))) (ss_one (s_ret (e_and (e_cm (c_eq hu64) (o_of (e_len T.z_len (a_cons (o_name 0) a_nil))) (o_of e_int)) (e_one (e_cm (c_eq hu64) (o_of (e_len T.z_len (a_cons (o_name 1) a_nil))) (o_of e_int)))))) ss_nil)
  (ss_one (s_ret (e_and (e_cm (c_eq hu64) (o_of (e_at (o_name 1) (o_of e_int))) (o_of e_int)) (e_and (e_cm (c_eq hu64) (o_of (e_new (f_sortedSet rfl T.z_sorted T.z_set (o_name 1)))) (o_of (e_new (f_list T.z_list (a_cons (o_name 1) a_nil))))) (e_one (e_cm c_lt (o_of (e_at (o_name 1) (o_of (e_neg (o_of e_int))))) (o_of (e_len T.z_len (a_cons (o_name 0) a_nil)))))))))))
/-! ### best_most(works, stages): 0 works 1 stages 2 most 3 begins 4 sums 5 t -/
def b_best_most : MT :=
  (sSeq (sSet 2 (mCall maxD (aCons (oVal (m2 addD (oVal (eNew (mCall listF (aCons (oName 0) aNil)))) (oVal (eNew (mLst (mDs [(mC (.int 0))])))))) aNil)))
  (sSeq (sWhile (mB (m2 gtD (oVal (mCall lenD (aCons (oVal (mCallU m_greedy_parting (aCons (oName 0) (aCons (oName 2) aNil)))) aNil))) (oName 1))) (sSeq (sSet 3 (mCallU m_greedy_parting (aCons (oName 0) (aCons (oName 2) aNil))))
  (sSeq (sSet 4 (mCallU m_parting_works (aCons (oName 0) (aCons (oName 3) aNil))))
  (sSet 2 (mCall minDL (aCons (oVal (eNew (mLc (mCall rng1 (aCons (oVal (m2 subD (oVal (mCall lenD (aCons (oName 3) aNil))) (oVal (mC (.int 1))))) aNil)) (gN 5) tYesM (m2 addD (oVal (m2 ixD (oName 4) (oName 5))) (oVal (m2 ixD (oName 0) (oVal (m2 ixD (oName 3) (oVal (m2 addD (oName 5) (oVal (mC (.int 1)))))))))) [5]))) aNil))))))
  (sRet (mVar 2))))
def m_best_most : FM := fnM 6 b_best_most
theorem sc_best_most : FnScope ["works", "stages", "most", "begins", "sums", "t"] ["works", "stages"] (defScope (topS 3)) := ⟨rfl, rfl, rfl, by decide +kernel, rfl, by decide +kernel, by decide +kernel⟩
theorem ok_best_most (T : T K mg a d) : FnOk P w K mg base CX0 2 (a 3) (d 3) ["works", "stages"] (spM K 2 m_best_most) := by
  have G_greedy_parting := ok_greedy_parting (P := P) (w := w) (base := base) T
  have G_parting_works := ok_parting_works (P := P) (w := w) (base := base) T
  have nd := sc_best_most.nd
  refine fn_ok (N := ["works", "stages", "most", "begins", "sums", "t"]) (body := b_best_most) T.F3 sc_best_most (by decide) fun cdv A outer s H E hr => ?_
  have hu : (A.deeper (envOfC "best_most" (defScope (topS 3)) s.heap.objs.size (a 3) cdv)).units + 65 < cLine := by have := hr.un; omega
  have hu64 : (A.deeper (envOfC "best_most" (defScope (topS 3)) s.heap.objs.size (a 3) cdv)).units + 64 < cLine := by have := hr.un; omega
  unfold b_best_most
  exact (ss_cons (s_set (i := 2) nd (e_max rfl T.z_max (a_cons (o_of (e_add (o_of (e_new (f_list T.z_list (a_cons (o_name 0) a_nil)))) (o_of (e_new (f_lst (v_cons e_int v_nil)))))) a_nil)))
  (ss_cons (s_while PassesOwn.never (t_cm c_gt (o_of (e_len T.z_len (a_cons (o_of (e_callU G_greedy_parting (hr.mono (by decide)) T.m1 T.F1.kp T.b1 pass0 (a_cons (o_name 0) (a_cons (o_name 2) a_nil)) (aCons_len (aCons_len aNil_len)))) a_nil))) (o_name 1)) (ss_cons (s_set (i := 3) nd (e_callU G_greedy_parting (hr.mono (by decide)) T.m1 T.F1.kp T.b1 pass0 (a_cons (o_name 0) (a_cons (o_name 2) a_nil)) (aCons_len (aCons_len aNil_len))))
  (ss_cons (s_set (i := 4) nd (e_callU G_parting_works (hr.mono (by decide)) T.m2 T.F2.kp T.b2 pass0 (a_cons (o_name 0) (a_cons (o_name 3) a_nil)) (aCons_len (aCons_len aNil_len))))
  (ss_one (s_set (i := 2) nd (e_min rfl T.z_min (a_cons (o_of (e_new (f_lc (own := [("t", 5)]) rfl nd (i_range1 T.z_range (a_cons (o_of (e_sub (o_of (e_len T.z_len (a_cons (o_name 3) a_nil))) (o_of e_int))) a_nil)) (blkOk_by (N := ["works", "stages", "most", "begins", "sums", "t"]) (sc := defScope (topS 3)) (by decide +kernel)) (by decide) (fun _ _ _ _ _ => (g_name 5 nd)) (fun _ _ _ _ _ => ts_nil) (fun _ _ _ _ _ => (e_add (o_of (e_at (o_name 4) (o_name 5))) (o_of (e_at (o_name 0) (o_of (e_at (o_name 3) (o_of (e_add (o_name 5) (o_of e_int)))))))))))) a_nil)))))))
  (ss_one (s_ret (e_of (o_name 2))))))
/-! ### judge_closer(works, stages, most, closer): 0 works 1 stages 2 most 3 closer 4 sums 5 full 6 t -/
def b_judge_closer : MT :=
  (sSeq (sIf (mB (m2 eqD (oName 2) (oVal (mCall maxD (aCons (oVal (m2 addD (oVal (eNew (mCall listF (aCons (oName 0) aNil)))) (oVal (eNew (mLst (mDs [(mC (.int 0))])))))) aNil))))) (sRet (m2 eqD (oName 3) (oVal (mTup (mDs []))))) sNil)
  (sSeq (sIf (bOr (bNot (mTruth (oVal (mCallU m_is_parting (aCons (oName 0) (aCons (oVal (mCall lenD (aCons (oName 0) aNil))) (aCons (oName 3) aNil))))))) (mB (m2 leD (oVal (mCall lenD (aCons (oName 3) aNil))) (oName 1)))) (sRet (mC (.bool false))) sNil)
  (sSeq (sSet 4 (mCallU m_parting_works (aCons (oName 0) (aCons (oName 3) aNil))))
  (sSeq (sNew 5 (mLc (mCall rng1 (aCons (oVal (m2 subD (oVal (mCall lenD (aCons (oName 3) aNil))) (oVal (mC (.int 1))))) aNil)) (gN 6) tYesM (m2 geD (oVal (m2 addD (oVal (m2 ixD (oName 4) (oName 6))) (oVal (m2 ixD (oName 0) (oVal (m2 ixD (oName 3) (oVal (m2 addD (oName 6) (oVal (mC (.int 1))))))))))) (oName 2)) [6]))
  (sRet (mCall allD (aCons (oName 5) aNil)))))))
def m_judge_closer : FM := fnM 7 b_judge_closer
theorem sc_judge_closer : FnScope ["works", "stages", "most", "closer", "sums", "full", "t"] ["works", "stages", "most", "closer"] (defScope (topS 7)) := ⟨rfl, rfl, rfl, by decide +kernel, rfl, by decide +kernel, by decide +kernel⟩
theorem ok_judge_closer (T : T K mg a d) : FnOk P w K mg base CX0 2 (a 7) (d 7) ["works", "stages", "most", "closer"] (spM K 4 m_judge_closer) := by
  have G_parting_works := ok_parting_works (P := P) (w := w) (base := base) T
  have G_is_parting := ok_is_parting (P := P) (w := w) (base := base) T
  have nd := sc_judge_closer.nd
  refine fn_ok (N := ["works", "stages", "most", "closer", "sums", "full", "t"]) (body := b_judge_closer) T.F7 sc_judge_closer (by decide) fun cdv A outer s H E hr => ?_
  have hu : (A.deeper (envOfC "judge_closer" (defScope (topS 7)) s.heap.objs.size (a 7) cdv)).units + 65 < cLine := by have := hr.un; omega
  have hu64 : (A.deeper (envOfC "judge_closer" (defScope (topS 7)) s.heap.objs.size (a 7) cdv)).units + 64 < cLine := by have := hr.un; omega
  unfold b_judge_closer
  exact (ss_cons (s_if (t_cm (c_eq hu64) (o_name 2) (o_of (e_max rfl T.z_max (a_cons (o_of (e_add (o_of (e_new (f_list T.z_list (a_cons (o_name 0) a_nil)))) (o_of (e_new (f_lst (v_cons e_int v_nil)))))) a_nil)))) (ss_one (s_ret (e_cm (c_eq hu64) (o_name 3) (o_of (e_tup v_nil))))) ss_nil)
  (ss_cons (s_if (t_w (w_or (t_not (t_of (o_of (e_callU G_is_parting (hr.mono (by decide)) T.m5 T.F5.kp T.b5 pass0 (a_cons (o_name 0) (a_cons (o_of (e_len T.z_len (a_cons (o_name 0) a_nil))) (a_cons (o_name 3) a_nil))) (aCons_len (aCons_len (aCons_len aNil_len))))))) (w_or1 (t_cm c_le (o_of (e_len T.z_len (a_cons (o_name 3) a_nil))) (o_name 1))))) (ss_one (s_ret e_bl)) ss_nil)
  (ss_cons (s_set (i := 4) nd (e_callU G_parting_works (hr.mono (by decide)) T.m2 T.F2.kp T.b2 pass0 (a_cons (o_name 0) (a_cons (o_name 3) a_nil)) (aCons_len (aCons_len aNil_len))))
  (ss_cons (s_lc (own := [("t", 6)]) rfl nd (i_range1 T.z_range (a_cons (o_of (e_sub (o_of (e_len T.z_len (a_cons (o_name 3) a_nil))) (o_of e_int))) a_nil)) (blkOk_by (N := ["works", "stages", "most", "closer", "sums", "full", "t"]) (sc := defScope (topS 7)) (by decide +kernel)) (by decide) (fun _ _ _ _ _ => (g_name 6 nd)) (fun _ _ _ _ _ => ts_nil) (fun _ _ _ _ _ => (e_cm c_ge (o_of (e_add (o_of (e_at (o_name 4) (o_name 6))) (o_of (e_at (o_name 0) (o_of (e_at (o_name 3) (o_of (e_add (o_name 6) (o_of e_int))))))))) (o_name 2))))
  (ss_one (s_ret (e_all rfl T.z_all (a_cons (o_name 5) a_nil))))))))
/-! ### _law_paper(works, stages, value): 0 works 1 stages 2 value 3 most 4 begins 5 closer 6 sums 7 t -/
def b_law_paper : MT :=
  (sSeq (sIf (bOr (bNot (mTruth (oVal (m1 (isiN "tuple") (oName 2))))) (bOr (mB (m2 neD (oVal (mCall lenD (aCons (oName 2) aNil))) (oVal (mC (.int 3))))) (bOr (bNot (mTruth (oVal (m1 (isiN "int") (oVal (m2 ixD (oName 2) (oVal (mC (.int 0))))))))) (mTruth (oVal (m1 (isiN "bool") (oVal (m2 ixD (oName 2) (oVal (mC (.int 0))))))))))) (sRet (mC (.bool false))) sNil)
  (sSeq (sUnp (gT 3 (gsCons (gN 3) (gsCons (gN 4) (gsCons (gN 5) gsNil)))) (mVar 2))
  (sSeq (sIf (bOr (bNot (mTruth (oVal (mCallU m_law_parting (aCons (oName 0) (aCons (oName 4) (aCons (oName 1) aNil))))))) (mB (m2 neD (oVal (mCall maxD (aCons (oVal (m2 addD (oVal (mCallU m_law_sums (aCons (oName 0) (aCons (oName 4) aNil)))) (oVal (eNew (mLst (mDs [(mC (.int 0))])))))) aNil))) (oName 3)))) (sRet (mC (.bool false))) sNil)
  (sSeq (sIf (mB (m2 eqD (oName 3) (oVal (mCall maxD (aCons (oVal (m2 addD (oVal (eNew (mCall listF (aCons (oName 0) aNil)))) (oVal (eNew (mLst (mDs [(mC (.int 0))])))))) aNil))))) (sRet (eAnd (m2 eqD (oName 5) (oVal (mTup (mDs [])))) (m1 (isiN "tuple") (oName 5)))) sNil)
  (sSeq (sIf (bOr (bNot (mTruth (oVal (mCallU m_law_parting (aCons (oName 0) (aCons (oName 5) (aCons (oVal (mCall lenD (aCons (oName 0) aNil))) aNil))))))) (mB (m2 leD (oVal (mCall lenD (aCons (oName 5) aNil))) (oName 1)))) (sRet (mC (.bool false))) sNil)
  (sSeq (sSet 6 (mCallU m_law_sums (aCons (oName 0) (aCons (oName 5) aNil))))
  (sRet (m2 eqD (oVal (eNew (mLc (mCall rng1 (aCons (oVal (m2 subD (oVal (mCall lenD (aCons (oName 5) aNil))) (oVal (mC (.int 1))))) aNil)) (gN 7) (mB (m2 ltD (oVal (m2 addD (oVal (m2 ixD (oName 6) (oName 7))) (oVal (m2 ixD (oName 0) (oVal (m2 ixD (oName 5) (oVal (m2 addD (oName 7) (oVal (mC (.int 1))))))))))) (oName 3))) (mVar 7) [7]))) (oVal (eNew (mLst (mDs []))))))))))))
def m_law_paper : FM := fnM 8 b_law_paper
theorem sc_law_paper : FnScope ["works", "stages", "value", "most", "begins", "closer", "sums", "t"] ["works", "stages", "value"] (defScope (topS 13)) := ⟨rfl, rfl, rfl, by decide +kernel, rfl, by decide +kernel, by decide +kernel⟩
theorem ok_law_paper (T : T K mg a d) : FnOk P w K mg base CX0 2 (a 13) (d 13) ["works", "stages", "value"] (spM K 3 m_law_paper) := by
  have G_law_sums := ok_law_sums (P := P) (w := w) (base := base) T
  have G_law_parting := ok_law_parting (P := P) (w := w) (base := base) T
  have nd := sc_law_paper.nd
  refine fn_ok (N := ["works", "stages", "value", "most", "begins", "closer", "sums", "t"]) (body := b_law_paper) T.F13 sc_law_paper (by decide) fun cdv A outer s H E hr => ?_
  have hu : (A.deeper (envOfC "_law_paper" (defScope (topS 13)) s.heap.objs.size (a 13) cdv)).units + 65 < cLine := by have := hr.un; omega
  have hu64 : (A.deeper (envOfC "_law_paper" (defScope (topS 13)) s.heap.objs.size (a 13) cdv)).units + 64 < cLine := by have := hr.un; omega
  unfold b_law_paper
  exact (ss_cons (s_if (t_w (w_or (t_not (t_of (o_of (e_isi "tuple" T.z_isinstance T.z_tuple (o_name 2) (by decide +kernel))))) (w_or (t_cm (c_ne hu64) (o_of (e_len T.z_len (a_cons (o_name 2) a_nil))) (o_of e_int)) (w_or (t_not (t_of (o_of (e_isi "int" T.z_isinstance T.z_int (o_of (e_at (o_name 2) (o_of e_int))) (by decide +kernel))))) (w_or1 (t_of (o_of (e_isi "bool" T.z_isinstance T.z_bool (o_of (e_at (o_name 2) (o_of e_int))) (by decide +kernel))))))))) (ss_one (s_ret e_bl)) ss_nil)
  (ss_cons (s_asg (e_of (o_name 2)) (g_tup rfl (gs_cons (g_name 3 nd) (gs_cons (g_name 4 nd) (gs_cons (g_name 5 nd) gs_nil)))))
  (ss_cons (s_if (t_w (w_or (t_not (t_of (o_of (e_callU G_law_parting (hr.mono (by decide)) T.m12 T.F12.kp T.b12 pass0 (a_cons (o_name 0) (a_cons (o_name 4) (a_cons (o_name 1) a_nil))) (aCons_len (aCons_len (aCons_len aNil_len))))))) (w_or1 (t_cm (c_ne hu64) (o_of (e_max rfl T.z_max (a_cons (o_of (e_add (o_of (e_callU G_law_sums (hr.mono (by decide)) T.m11 T.F11.kp T.b11 pass0 (a_cons (o_name 0) (a_cons (o_name 4) a_nil)) (aCons_len (aCons_len aNil_len)))) (o_of (e_new (f_lst (v_cons e_int v_nil)))))) a_nil))) (o_name 3))))) (ss_one (s_ret e_bl)) ss_nil)
  (ss_cons (s_if (t_cm (c_eq hu64) (o_name 3) (o_of (e_max rfl T.z_max (a_cons (o_of (e_add (o_of (e_new (f_list T.z_list (a_cons (o_name 0) a_nil)))) (o_of (e_new (f_lst (v_cons e_int v_nil)))))) a_nil)))) (ss_one (s_ret (e_and (e_cm (c_eq hu64) (o_name 5) (o_of (e_tup v_nil))) (e_one (e_isi "tuple" T.z_isinstance T.z_tuple (o_name 5) (by decide +kernel)))))) ss_nil)
  (ss_cons (s_if (t_w (w_or (t_not (t_of (o_of (e_callU G_law_parting (hr.mono (by decide)) T.m12 T.F12.kp T.b12 pass0 (a_cons (o_name 0) (a_cons (o_name 5) (a_cons (o_of (e_len T.z_len (a_cons (o_name 0) a_nil))) a_nil))) (aCons_len (aCons_len (aCons_len aNil_len))))))) (w_or1 (t_cm c_le (o_of (e_len T.z_len (a_cons (o_name 5) a_nil))) (o_name 1))))) (ss_one (s_ret e_bl)) ss_nil)
  (ss_cons (s_set (i := 6) nd (e_callU G_law_sums (hr.mono (by decide)) T.m11 T.F11.kp T.b11 pass0 (a_cons (o_name 0) (a_cons (o_name 5) a_nil)) (aCons_len (aCons_len aNil_len))))
  (ss_one (s_ret (e_cm (c_eq hu64) (o_of (e_new (f_lc (own := [("t", 7)]) rfl nd (i_range1 T.z_range (a_cons (o_of (e_sub (o_of (e_len T.z_len (a_cons (o_name 5) a_nil))) (o_of e_int))) a_nil)) (blkOk_by (N := ["works", "stages", "value", "most", "begins", "closer", "sums", "t"]) (sc := defScope (topS 13)) (by decide +kernel)) (by decide) (fun _ _ _ _ _ => (g_name 7 nd)) (fun _ _ _ _ _ => (ts_one (t_cm c_lt (o_of (e_add (o_of (e_at (o_name 6) (o_name 7))) (o_of (e_at (o_name 0) (o_of (e_at (o_name 5) (o_of (e_add (o_name 7) (o_of e_int))))))))) (o_name 3)))) (fun _ _ _ _ _ => (e_of (o_name 7)))))) (o_of (e_new (f_lst v_nil))))))))))))
/-! ### _law_odd(state): 0 state 1 odd -/
def b_law_odd : MT :=
  (sSeq (sNew 1 (mLst (mDs [(mC .none), (mC (.bool true)), (mC (.int 0)), (mC (.int 1)), (m1 negD (oVal (mC (.int 1)))), (mTup (mDs [])), (mTup (mDs [(mC (.int 0))])), (mTup (mDs [(mC (.int 0)), (mC (.int 1))])), (mTup (mDs [(mC (.int 0)), (mC (.int 2))])), (mTup (mDs [(mC (.int 1))])), (mTup (mDs [(mC (.int 0)), (mC (.int 0))])), (mTup (mDs [(mC (.bool true))])), (eNew (mLst (mDs [(mC (.int 0))]))), (mC (.str "0")), (mTup (mDs [(mC (.int 0)), (mC (.int 1)), (mC (.int 2))])), (mTup (mDs [(mC (.int 0)), (mC (.int 2)), (mC (.int 3))])), (mTup (mDs [(mC .none)])), (mTup (mDs [(mC (.int 0)), (mC (.int 99))]))])))
  (sRet (m2 ixD (oName 1) (oVal (mCallU m_law_draw (aCons (oName 0) (aCons (oVal (mCall lenD (aCons (oName 1) aNil))) aNil)))))))
def m_law_odd : FM := fnM 2 b_law_odd
theorem sc_law_odd : FnScope ["state", "odd"] ["state"] (defScope (topS 14)) := ⟨rfl, rfl, rfl, by decide +kernel, rfl, by decide +kernel, by decide +kernel⟩
theorem ok_law_odd (T : T K mg a d) : FnOk P w K mg base CX0 2 (a 14) (d 14) ["state"] (spM K 1 m_law_odd) := by
  have G_law_draw := ok_law_draw (P := P) (w := w) (base := base) T
  have nd := sc_law_odd.nd
  refine fn_ok (N := ["state", "odd"]) (body := b_law_odd) T.F14 sc_law_odd (by decide) fun cdv A outer s H E hr => ?_
  have hu : (A.deeper (envOfC "_law_odd" (defScope (topS 14)) s.heap.objs.size (a 14) cdv)).units + 65 < cLine := by have := hr.un; omega
  have hu64 : (A.deeper (envOfC "_law_odd" (defScope (topS 14)) s.heap.objs.size (a 14) cdv)).units + 64 < cLine := by have := hr.un; omega
  unfold b_law_odd
  exact (ss_cons (s_new (i := 1) nd (f_lst (v_cons e_non (v_cons e_bl (v_cons e_int (v_cons e_int (v_cons (e_neg (o_of e_int)) (v_cons (e_tup v_nil) (v_cons (e_tup (v_cons e_int v_nil)) (v_cons (e_tup (v_cons e_int (v_cons e_int v_nil))) (v_cons (e_tup (v_cons e_int (v_cons e_int v_nil))) (v_cons (e_tup (v_cons e_int v_nil)) (v_cons (e_tup (v_cons e_int (v_cons e_int v_nil))) (v_cons (e_tup (v_cons e_bl v_nil)) (v_cons (e_new (f_lst (v_cons e_int v_nil))) (v_cons e_str (v_cons (e_tup (v_cons e_int (v_cons e_int (v_cons e_int v_nil)))) (v_cons (e_tup (v_cons e_int (v_cons e_int (v_cons e_int v_nil)))) (v_cons (e_tup (v_cons e_non v_nil)) (v_cons (e_tup (v_cons e_int (v_cons e_int v_nil))) v_nil))))))))))))))))))))
  (ss_one (s_ret (e_at (o_name 1) (o_of (e_callU G_law_draw (hr.mono (by decide)) T.m10 T.F10.kp T.b10 pass0 (a_cons (o_name 0) (a_cons (o_of (e_len T.z_len (a_cons (o_name 1) a_nil))) a_nil)) (aCons_len (aCons_len aNil_len))))))))
/-! ### best_parting(works, stages): 0 works 1 stages 2 most 3 closer -/
def b_best_parting : MT :=
  (sSeq (sSet 2 (mCallU m_best_most (aCons (oName 0) (aCons (oName 1) aNil))))
  (sSeq (sSet 3 (eIf (mB (m2 eqD (oName 2) (oVal (mCall maxD (aCons (oVal (m2 addD (oVal (eNew (mCall listF (aCons (oName 0) aNil)))) (oVal (eNew (mLst (mDs [(mC (.int 0))])))))) aNil))))) (mTup (mDs [])) (mCallU m_greedy_parting (aCons (oName 0) (aCons (oVal (m2 subD (oName 2) (oVal (mC (.int 1))))) aNil)))))
  (sRet (mTup (mDs [(mVar 2), (mCallU m_greedy_parting (aCons (oName 0) (aCons (oName 2) aNil))), (mVar 3)])))))
def m_best_parting : FM := fnM 4 b_best_parting
theorem sc_best_parting : FnScope ["works", "stages", "most", "closer"] ["works", "stages"] (defScope (topS 4)) := ⟨rfl, rfl, rfl, by decide +kernel, rfl, by decide +kernel, by decide +kernel⟩
theorem ok_best_parting (T : T K mg a d) : FnOk P w K mg base CX0 3 (a 4) (d 4) ["works", "stages"] (spM K 2 m_best_parting) := by
  have G_best_most := ok_best_most (P := P) (w := w) (base := base) T
  have G_greedy_parting := ok_greedy_parting (P := P) (w := w) (base := base) T
  have nd := sc_best_parting.nd
  refine fn_ok (N := ["works", "stages", "most", "closer"]) (body := b_best_parting) T.F4 sc_best_parting (by decide) fun cdv A outer s H E hr => ?_
  have hu : (A.deeper (envOfC "best_parting" (defScope (topS 4)) s.heap.objs.size (a 4) cdv)).units + 65 < cLine := by have := hr.un; omega
  have hu64 : (A.deeper (envOfC "best_parting" (defScope (topS 4)) s.heap.objs.size (a 4) cdv)).units + 64 < cLine := by have := hr.un; omega
  unfold b_best_parting
  exact (ss_cons (s_set (i := 2) nd (e_callU G_best_most (hr.mono (by decide)) T.m3 T.F3.kp T.b3 pass0 (a_cons (o_name 0) (a_cons (o_name 1) a_nil)) (aCons_len (aCons_len aNil_len))))
  (ss_cons (s_set (i := 3) nd (e_if (t_cm (c_eq hu64) (o_name 2) (o_of (e_max rfl T.z_max (a_cons (o_of (e_add (o_of (e_new (f_list T.z_list (a_cons (o_name 0) a_nil)))) (o_of (e_new (f_lst (v_cons e_int v_nil)))))) a_nil)))) (e_tup v_nil) (e_callU G_greedy_parting (hr.mono (by decide)) T.m1 T.F1.kp T.b1 pass0 (a_cons (o_name 0) (a_cons (o_of (e_sub (o_name 2) (o_of e_int))) a_nil)) (aCons_len (aCons_len aNil_len)))))
  (ss_one (s_ret (e_tup (v_cons (e_of (o_name 2)) (v_cons (e_callU G_greedy_parting (hr.mono (by decide)) T.m1 T.F1.kp T.b1 pass0 (a_cons (o_name 0) (a_cons (o_name 2) a_nil)) (aCons_len (aCons_len aNil_len))) (v_cons (e_of (o_name 3)) v_nil))))))))
/-! ### judge_parting(works, stages, value): 0 works 1 stages 2 value 3 most 4 begins 5 closer -/
def b_judge_parting : MT :=
  (sSeq (sIf (bOr (bNot (mTruth (oVal (m1 (isiN "tuple") (oName 2))))) (bOr (mB (m2 neD (oVal (mCall lenD (aCons (oName 2) aNil))) (oVal (mC (.int 3))))) (bOr (mTruth (oVal (m1 (isiN "bool") (oVal (m2 ixD (oName 2) (oVal (mC (.int 0)))))))) (bNot (mTruth (oVal (m1 (isiN "int") (oVal (m2 ixD (oName 2) (oVal (mC (.int 0)))))))))))) (sRet (mC (.bool false))) sNil)
  (sSeq (sUnp (gT 3 (gsCons (gN 3) (gsCons (gN 4) (gsCons (gN 5) gsNil)))) (mVar 2))
  (sSeq (sIf (bOr (bNot (mTruth (oVal (mCallU m_is_parting (aCons (oName 0) (aCons (oName 1) (aCons (oName 4) aNil))))))) (mB (m2 neD (oVal (mCall maxD (aCons (oVal (m2 addD (oVal (mCallU m_parting_works (aCons (oName 0) (aCons (oName 4) aNil)))) (oVal (mTup (mDs [(mC (.int 0))]))))) aNil))) (oName 3)))) (sRet (mC (.bool false))) sNil)
  (sRet (mCallU m_judge_closer (aCons (oName 0) (aCons (oName 1) (aCons (oName 3) (aCons (oName 5) aNil)))))))))
def m_judge_parting : FM := fnM 6 b_judge_parting
theorem sc_judge_parting : FnScope ["works", "stages", "value", "most", "begins", "closer"] ["works", "stages", "value"] (defScope (topS 6)) := ⟨rfl, rfl, rfl, by decide +kernel, rfl, by decide +kernel, by decide +kernel⟩
theorem ok_judge_parting (T : T K mg a d) : FnOk P w K mg base CX0 3 (a 6) (d 6) ["works", "stages", "value"] (spM K 3 m_judge_parting) := by
  have G_judge_closer := ok_judge_closer (P := P) (w := w) (base := base) T
  have G_is_parting := ok_is_parting (P := P) (w := w) (base := base) T
  have G_parting_works := ok_parting_works (P := P) (w := w) (base := base) T
  have nd := sc_judge_parting.nd
  refine fn_ok (N := ["works", "stages", "value", "most", "begins", "closer"]) (body := b_judge_parting) T.F6 sc_judge_parting (by decide) fun cdv A outer s H E hr => ?_
  have hu : (A.deeper (envOfC "judge_parting" (defScope (topS 6)) s.heap.objs.size (a 6) cdv)).units + 65 < cLine := by have := hr.un; omega
  have hu64 : (A.deeper (envOfC "judge_parting" (defScope (topS 6)) s.heap.objs.size (a 6) cdv)).units + 64 < cLine := by have := hr.un; omega
  unfold b_judge_parting
  exact (ss_cons (s_if (t_w (w_or (t_not (t_of (o_of (e_isi "tuple" T.z_isinstance T.z_tuple (o_name 2) (by decide +kernel))))) (w_or (t_cm (c_ne hu64) (o_of (e_len T.z_len (a_cons (o_name 2) a_nil))) (o_of e_int)) (w_or (t_of (o_of (e_isi "bool" T.z_isinstance T.z_bool (o_of (e_at (o_name 2) (o_of e_int))) (by decide +kernel)))) (w_or1 (t_not (t_of (o_of (e_isi "int" T.z_isinstance T.z_int (o_of (e_at (o_name 2) (o_of e_int))) (by decide +kernel)))))))))) (ss_one (s_ret e_bl)) ss_nil)
  (ss_cons (s_asg (e_of (o_name 2)) (g_tup rfl (gs_cons (g_name 3 nd) (gs_cons (g_name 4 nd) (gs_cons (g_name 5 nd) gs_nil)))))
  (ss_cons (s_if (t_w (w_or (t_not (t_of (o_of (e_callU G_is_parting (hr.mono (by decide)) T.m5 T.F5.kp T.b5 pass0 (a_cons (o_name 0) (a_cons (o_name 1) (a_cons (o_name 4) a_nil))) (aCons_len (aCons_len (aCons_len aNil_len))))))) (w_or1 (t_cm (c_ne hu64) (o_of (e_max rfl T.z_max (a_cons (o_of (e_add (o_of (e_callU G_parting_works (hr.mono (by decide)) T.m2 T.F2.kp T.b2 pass0 (a_cons (o_name 0) (a_cons (o_name 4) a_nil)) (aCons_len (aCons_len aNil_len)))) (o_of (e_tup (v_cons e_int v_nil))))) a_nil))) (o_name 3))))) (ss_one (s_ret e_bl)) ss_nil)
  (ss_one (s_ret (e_callU G_judge_closer (hr.mono (by decide)) T.m7 T.F7.kp T.b7 pass0 (a_cons (o_name 0) (a_cons (o_name 1) (a_cons (o_name 3) (a_cons (o_name 5) a_nil)))) (aCons_len (aCons_len (aCons_len (aCons_len aNil_len))))))))))
/-! ### law: 0 script 1 state 2 t 3 works 4 stages 5 paper 6 rows 7 at 8 value 9 taken 10 s -/
def b_law : MT :=
  (sSeq (sFor (mCall rng1 (aCons (oVal (mC (.int 20))) aNil)) (gN 2) (sSeq (sSet 3 (mCall tupD (aCons (oVal (eNew (mLc (mCall rng1 (aCons (oVal (mCallU m_law_draw (aCons (oName 1) (aCons (oVal (mC (.int 8))) aNil)))) aNil)) (gN 10) tYesM (mCallU m_law_draw (aCons (oName 1) (aCons (oVal (mC (.int 9))) aNil))) [10]))) aNil)))
  (sSeq (sSet 4 (m2 addD (oVal (mC (.int 1))) (oVal (mCallU m_law_draw (aCons (oName 1) (aCons (oVal (mC (.int 5))) aNil))))))
  (sSeq (sSet 5 (mCallU m_best_parting (aCons (oName 3) (aCons (oName 4) aNil))))
  (sSeq (sNew 6 (mLst (mDs [(mVar 5), (mCallU m_law_odd (aCons (oName 1) aNil)), (eNew (mCall listF (aCons (oName 5) aNil))), (mSl slA (oName 5) pNone (pSome (mC (.int 2)))), (m2 addD (oName 5) (oVal (mTup (mDs [(mTup (mDs []))]))))])))
  (sSeq (sFor (mCall rng1 (aCons (oVal (mC (.int 3))) aNil)) (gN 7) (sDrop (mApp 6 (m2 addD (oVal (m2 addD (oVal (mSl slA (oName 5) pNone (pSome (mVar 7)))) (oVal (mTup (mDs [(mCallU m_law_odd (aCons (oName 1) aNil))]))))) (oVal (mSl slA (oName 5) (pSome (m2 addD (oName 7) (oVal (mC (.int 1))))) pNone))))))
  (sSeq (sDrop (mApp 6 (mTup (mDs [(m2 ixD (oName 5) (oVal (mC (.int 0)))), (m2 ixD (oName 5) (oVal (mC (.int 1)))), (mCall tupD (aCons (oVal (eNew (mLc (mCall rng1 (aCons (oVal (mCall lenD (aCons (oName 3) aNil))) aNil)) (gN 10) (bOr (mB (m2 eqD (oName 10) (oVal (mC (.int 0))))) (mB (m2 gtD (oVal (mCallU m_law_draw (aCons (oName 1) (aCons (oVal (mC (.int 3))) aNil)))) (oVal (mC (.int 0)))))) (mVar 10) [10]))) aNil))]))))
  (sSeq (sDrop (mApp 6 (mTup (mDs [(m2 addD (oVal (m2 ixD (oName 5) (oVal (mC (.int 0))))) (oVal (mC (.int 1)))), (m2 ixD (oName 5) (oVal (mC (.int 1)))), (m2 ixD (oName 5) (oVal (mC (.int 2))))]))))
  (sFor (mSeq (mVar 6)) (gN 8) (sSeq (sSet 9 (mCallU m_judge_parting (aCons (oName 3) (aCons (oName 4) (aCons (oName 8) aNil)))))
  (sIf (bOr (mB (m2 neD (oName 9) (oVal (mCallU m_law_paper (aCons (oName 3) (aCons (oName 4) (aCons (oName 8) aNil))))))) (bAnd (mTruth (oName 9)) (mB (m2 neD (oVal (m2 ixD (oName 8) (oVal (mC (.int 0))))) (oVal (m2 ixD (oName 5) (oVal (mC (.int 0))))))))) (sRet (mC (.bool false))) sNil)))))))))))
  (sRet (mC (.bool true))))
def f_law : Dr → SR := fun dr => b_law ⟨(List.replicate 11 Sl.un).set 1 (.val (.dict [])), dr⟩
theorem sc_law : FnScope ["script", "state", "t", "works", "stages", "paper", "rows", "at", "value", "taken", "s"] ["script"] (defScope (topS 15)) := ⟨rfl, rfl, rfl, by decide +kernel, rfl, by decide +kernel, by decide +kernel⟩
theorem ok_law (T : T K mg a d) : FnOk P w K mg base CX0 4 (a 15) (d 15) ["script"] (spLaw K f_law) := by
  have G_law_state := ok_law_state (P := P) (w := w) (base := base) T
  have G_best_parting := ok_best_parting (P := P) (w := w) (base := base) T
  have G_law_draw := ok_law_draw (P := P) (w := w) (base := base) T
  have G_law_odd := ok_law_odd (P := P) (w := w) (base := base) T
  have G_judge_parting := ok_judge_parting (P := P) (w := w) (base := base) T
  have G_law_paper := ok_law_paper (P := P) (w := w) (base := base) T
  have nd := sc_law.nd
  refine T.F15.ok sc_law (fun vs H Q E h => ?_) (fun cdv A outer s H vs Q E hr h => ?_)
  · obtain ⟨aa, ns, rfl, _⟩ := h
    rfl
  · obtain ⟨aa, ns, rfl, hS, hlen, ⟨dr1, hf⟩, k⟩ := h
    have hu : (A.deeper (envOfC "law" (defScope (topS 15)) s.heap.objs.size (a 15) cdv)).units + 65 < cLine := by have := hr.un; omega
    have hu64 : (A.deeper (envOfC "law" (defScope (topS 15)) s.heap.objs.size (a 15) cdv)).units + 64 < cLine := by have := hr.un; omega
    have hb : DSs (cxOf CX0 P w K mg base ["script", "state", "t", "works", "stages", "paper", "rows", "at", "value", "taken", "s"] "law" (defScope (topS 15)) (a 15) cdv A outer s H E).nox ((defBody (topS 15)).drop 1) b_law := by
      unfold b_law
      exact (ss_cons (s_for PassesOwn.never rfl (i_range1 T.z_range (a_cons (o_of e_int) a_nil)) (g_name 2 nd) (ss_cons (s_set (i := 3) nd (e_tuple T.z_tuple (a_cons (o_of (e_new (f_lc (own := [("s", 10)]) rfl nd (i_range1 T.z_range (a_cons (o_of (e_callU G_law_draw (hr.mono (by decide)) T.m10 T.F10.kp T.b10 pass0 (a_cons (o_name 1) (a_cons (o_of e_int) a_nil)) (aCons_len (aCons_len aNil_len)))) a_nil)) (blkOk_by (N := ["script", "state", "t", "works", "stages", "paper", "rows", "at", "value", "taken", "s"]) (sc := defScope (topS 15)) (by decide +kernel)) (by decide) (fun _ _ _ _ _ => (g_name 10 nd)) (fun _ _ _ _ _ => ts_nil) (fun _ _ _ _ _ => (e_callU G_law_draw (hr.mono (by decide)) T.m10 T.F10.kp T.b10 pass0 (a_cons (o_name 1) (a_cons (o_of e_int) a_nil)) (aCons_len (aCons_len aNil_len))))))) a_nil)))
  (ss_cons (s_set (i := 4) nd (e_add (o_of e_int) (o_of (e_callU G_law_draw (hr.mono (by decide)) T.m10 T.F10.kp T.b10 pass0 (a_cons (o_name 1) (a_cons (o_of e_int) a_nil)) (aCons_len (aCons_len aNil_len))))))
  (ss_cons (s_set (i := 5) nd (e_callU G_best_parting (hr.mono (by decide)) T.m4 T.F4.kp T.b4 pass0 (a_cons (o_name 3) (a_cons (o_name 4) a_nil)) (aCons_len (aCons_len aNil_len))))
  (ss_cons (s_new (i := 6) nd (f_lst (v_cons (e_of (o_name 5)) (v_cons (e_callU G_law_odd (hr.mono (by decide)) T.m14 T.F14.kp T.b14 pass0 (a_cons (o_name 1) a_nil) (aCons_len aNil_len)) (v_cons (e_new (f_list T.z_list (a_cons (o_name 5) a_nil))) (v_cons (e_sliceA (o_name 5) p_none (p_some e_int)) (v_cons (e_add (o_name 5) (o_of (e_tup (v_cons (e_tup v_nil) v_nil)))) v_nil)))))))
  (ss_cons (s_for PassesOwn.never rfl (i_range1 T.z_range (a_cons (o_of e_int) a_nil)) (g_name 7 nd) (ss_one (s_expr (e_append 6 (e_add (o_of (e_add (o_of (e_sliceA (o_name 5) p_none (p_some (e_of (o_name 7))))) (o_of (e_tup (v_cons (e_callU G_law_odd (hr.mono (by decide)) T.m14 T.F14.kp T.b14 pass0 (a_cons (o_name 1) a_nil) (aCons_len aNil_len)) v_nil))))) (o_of (e_sliceA (o_name 5) (p_some (e_add (o_name 7) (o_of e_int))) p_none)))))))
  (ss_cons (s_expr (e_append 6 (e_tup (v_cons (e_at (o_name 5) (o_of e_int)) (v_cons (e_at (o_name 5) (o_of e_int)) (v_cons (e_tuple T.z_tuple (a_cons (o_of (e_new (f_lc (own := [("s", 10)]) rfl nd (i_range1 T.z_range (a_cons (o_of (e_len T.z_len (a_cons (o_name 3) a_nil))) a_nil)) (blkOk_by (N := ["script", "state", "t", "works", "stages", "paper", "rows", "at", "value", "taken", "s"]) (sc := defScope (topS 15)) (by decide +kernel)) (by decide) (fun _ _ _ _ _ => (g_name 10 nd)) (fun _ _ _ _ _ => (ts_one (t_w (w_or (t_cm (c_eq hu64) (o_name 10) (o_of e_int)) (w_or1 (t_cm c_gt (o_of (e_callU G_law_draw (hr.mono (by decide)) T.m10 T.F10.kp T.b10 pass0 (a_cons (o_name 1) (a_cons (o_of e_int) a_nil)) (aCons_len (aCons_len aNil_len)))) (o_of e_int))))))) (fun _ _ _ _ _ => (e_of (o_name 10)))))) a_nil)) v_nil))))))
  (ss_cons (s_expr (e_append 6 (e_tup (v_cons (e_add (o_of (e_at (o_name 5) (o_of e_int))) (o_of e_int)) (v_cons (e_at (o_name 5) (o_of e_int)) (v_cons (e_at (o_name 5) (o_of e_int)) v_nil))))))
  (ss_one (s_for PassesOwn.never rfl (i_seq (e_of (o_name 6))) (g_name 8 nd) (ss_cons (s_set (i := 9) nd (e_callU G_judge_parting (hr.mono (by decide)) T.m6 T.F6.kp T.b6 pass0 (a_cons (o_name 3) (a_cons (o_name 4) (a_cons (o_name 8) a_nil))) (aCons_len (aCons_len (aCons_len aNil_len)))))
  (ss_one (s_if (t_w (w_or (t_cm (c_ne hu64) (o_name 9) (o_of (e_callU G_law_paper (hr.mono (by decide)) T.m13 T.F13.kp T.b13 pass0 (a_cons (o_name 3) (a_cons (o_name 4) (a_cons (o_name 8) a_nil))) (aCons_len (aCons_len (aCons_len aNil_len)))))) (w_or1 (t_w (w_and (t_of (o_name 9)) (w_and1 (t_cm (c_ne hu64) (o_of (e_at (o_name 8) (o_of e_int))) (o_of (e_at (o_name 5) (o_of e_int)))))))))) (ss_one (s_ret e_bl)) ss_nil)))))))))))))
  (ss_one (s_ret e_bl)))
    obtain ⟨t, pt, ok⟩ := hb.ex
    refine ⟨_, pss_cons (ps_set (i := 1) nd rfl (by first | exact Or.inl rfl | exact Or.inr rfl) (pe_call G_law_state (hr.mono (by decide)) rfl T.m9 T.F9.kp T.b9 .nil pass0 (pa_cons (pv 0) pa_nil))) pt, ?_⟩
    refine ⟨_, rfl, aa, ns, rfl, hS, hlen, fun H1 p q hp hq npq e1 h1 h2 => ?_⟩
    have r := law_start (K := K) (n := 11) (i := 1) (σ := (L2.start ["script", "state", "t", "works", "stages", "paper", "rows", "at", "value", "taken", "s"] [V.ref aa]).set 1 (some (.ref p))) h1 h2 npq rfl rfl
    refine ok _ _ _ H1 _ _ r ?_
    have hf2 : b_law ⟨(List.replicate 11 Sl.un).set 1 (.val (.dict [])), drOf ns⟩ = .rt (.bool true) dr1 := hf
    rw [hf2]
    intro B2 H2 v e2 r2 hv
    cases hv
    exact k H2
end
end Wk
/-! Partings, plainly: greedy rows, sums, the best most. -/
namespace Pt
def w (ws : List Int) (t : Nat) : Int := ws[t]?.getD 0
def p (ws : List Int) (i : Nat) : Int := (ws.take i).sum
theorem p_succ (ws : List Int) (i : Nat) : p ws (i + 1) = p ws i + w ws i := by
  unfold p w
  rw [List.take_add_one, List.sum_append]
  cases ws[i]? <;> simp
theorem w_nn {ws : List Int} (h : ∀ x ∈ ws, 0 ≤ x) (t : Nat) : 0 ≤ w ws t := by
  unfold w
  cases e : ws[t]? with
  | none => exact Int.le_refl _
  | some x => exact h x (List.mem_of_getElem? e)
theorem p_mono {ws : List Int} (h : ∀ x ∈ ws, 0 ≤ x) {i j : Nat} (hij : i ≤ j) : p ws i ≤ p ws j := by
  induction j with
  | zero => rw [Nat.le_zero.mp hij]; exact Int.le_refl _
  | succ j ih =>
    rcases Nat.lt_or_ge j i with hj | hj
    · rw [show i = j + 1 by omega]; exact Int.le_refl _
    · have := ih hj
      have := w_nn h j
      rw [p_succ]
      omega
theorem p_zero (ws : List Int) : p ws 0 = 0 := rfl
def g (bs : List Nat) (t : Nat) : Nat := bs[t]?.getD 0
def nx (n : Nat) (bs : List Nat) (t : Nat) : Nat := if t + 1 < bs.length then g bs (t + 1) else n
theorem g_app (bs : List Nat) (x t : Nat) : g (bs ++ [x]) t = if t < bs.length then g bs t else if t = bs.length then x else 0 := by
  unfold g
  rw [List.getElem?_append]
  split
  · rfl
  · rename_i h
    split
    · rename_i h2; subst h2; simp
    · rename_i h2
      obtain ⟨k, hk⟩ : ∃ k, t - bs.length = k + 1 := ⟨t - bs.length - 1, by omega⟩
      rw [hk]; rfl
structure Row (n : Nat) (bs : List Nat) : Prop where
  pos : 0 < bs.length
  h0 : g bs 0 = 0
  inc : ∀ t, t + 1 < bs.length → g bs t < g bs (t + 1)
  lt : ∀ t, t < bs.length → g bs t < n
def part (ws : List Int) (bs : List Nat) (t : Nat) : Int := p ws (nx ws.length bs t) - p ws (g bs t)
def sums (ws : List Int) (bs : List Nat) : List Int := (List.range bs.length).map (part ws bs)
theorem row_push {t : Nat} {bs : List Nat} (h : Row t bs) : Row (t + 1) (bs ++ [t]) := by
  obtain ⟨h1, h2, h3, h4⟩ := h
  refine ⟨by simp, ?_, fun j hj => ?_, fun j hj => ?_⟩
  · rw [g_app, if_pos h1, h2]
  · rw [List.length_append, List.length_singleton] at hj
    rw [g_app, g_app, if_pos (show j < bs.length by omega)]
    split
    · exact h3 j (by assumption)
    · rw [if_pos (by omega)]
      exact h4 j (by omega)
  · rw [List.length_append, List.length_singleton] at hj
    rw [g_app]
    split
    · exact Nat.lt_succ_of_lt (h4 j (by assumption))
    · rw [if_pos (by omega)]; omega
theorem row_mono {t t' : Nat} {bs : List Nat} (h : Row t bs) (ht : t ≤ t') : Row t' bs := ⟨h.pos, h.h0, h.inc, fun j hj => Nat.lt_of_lt_of_le (h.lt j hj) ht⟩
theorem row_one : Row 1 [0] := ⟨by decide, rfl, fun t h => by simp at h, fun t h => by
  have : t = 0 := by simp at h; exact h
  subst this
  decide⟩
theorem g_mono {n : Nat} {bs : List Nat} (h : Row n bs) {i j : Nat} (hij : i < j) (hj : j < bs.length) : g bs i < g bs j := by
  induction j with
  | zero => omega
  | succ j ih =>
    have := h.inc j hj
    rcases Nat.lt_or_ge i j with hi | hi
    · have := ih hi (by omega); omega
    · rw [show i = j by omega]; exact this
/-- a row over one more place ends there or is a row of the places before -/
theorem row_pop {t : Nat} {bs : List Nat} (h : Row (t + 1) bs) (ht : 0 < t) : Row t bs ∨ ∃ bs', bs = bs' ++ [t] ∧ Row t bs' := by
  by_cases hl : g bs (bs.length - 1) = t
  · right
    have hne : bs ≠ [] := List.ne_nil_of_length_pos h.pos
    refine ⟨bs.dropLast, ?_, ?_⟩
    · have e := List.dropLast_concat_getLast hne
      have : bs.getLast hne = t := by
        rw [← hl]
        unfold g
        rw [List.getLast_eq_getElem, List.getElem?_eq_getElem (by have := h.pos; omega)]
        rfl
      rw [this] at e
      exact e.symm
    · have hp := h.pos
      have hlen : 1 < bs.length := by
        rcases Nat.lt_or_ge 1 bs.length with h1 | h1
        · exact h1
        · have e : bs.length - 1 = 0 := by omega
          rw [e, h.h0] at hl
          omega
      have hg : ∀ j, j < bs.dropLast.length → g bs.dropLast j = g bs j := fun j hj => by
        unfold g
        rw [List.getElem?_dropLast, if_pos (by simpa using hj)]
      rw [List.length_dropLast] at hg
      refine ⟨by rw [List.length_dropLast]; omega, by rw [hg 0 (by omega), h.h0], fun j hj => ?_, fun j hj => ?_⟩
      · rw [List.length_dropLast] at hj
        rw [hg j (by omega), hg (j + 1) (by omega)]
        exact h.inc j (by omega)
      · rw [List.length_dropLast] at hj
        rw [hg j (by omega)]
        have := g_mono h (i := j) (j := bs.length - 1) (by omega) (by omega)
        omega
  · left
    refine ⟨h.pos, h.h0, h.inc, fun j hj => ?_⟩
    have h1 := h.lt (bs.length - 1) (by omega)
    rcases Nat.lt_or_ge j (bs.length - 1) with hj2 | hj2
    · have := g_mono h hj2 (by omega); omega
    · rw [show j = bs.length - 1 by omega]; omega
/-! ### all rows -/
def all (stages : Nat) : Nat → List (List Nat)
  | 0 => [[0]]
  | t + 1 => all stages t ++ ((all stages t).filter (fun r => decide (r.length < stages))).map (fun r => r ++ [t + 1])
theorem all_iff {stages : Nat} (hs : 0 < stages) : ∀ (t : Nat) (r : List Nat), r ∈ all stages t ↔ Row (t + 1) r ∧ r.length ≤ stages
  | 0, r => by
    rw [show all stages 0 = [[0]] from rfl, List.mem_singleton]
    constructor
    · rintro rfl
      exact ⟨row_one, hs⟩
    · rintro ⟨h, hl⟩
      have h1 : r.length = 1 := by
        rcases Nat.lt_or_ge 1 r.length with h2 | h2
        · have := g_mono h (i := 0) (j := 1) (by decide) h2
          have := h.lt 1 h2
          omega
        · have := h.pos; omega
      obtain ⟨x, rfl⟩ := List.length_eq_one_iff.mp h1
      have := h.h0
      simp [g] at this
      rw [this]
  | t + 1, r => by
    rw [show all stages (t + 1) = all stages t ++ ((all stages t).filter (fun r => decide (r.length < stages))).map (fun r => r ++ [t + 1]) from rfl, List.mem_append, List.mem_map]
    constructor
    · rintro (h | ⟨r', h, rfl⟩)
      · have := (all_iff hs t r).mp h
        exact ⟨row_mono this.1 (by omega), this.2⟩
      · rw [List.mem_filter, decide_eq_true_iff] at h
        have := (all_iff hs t r').mp h.1
        exact ⟨row_push this.1, by rw [List.length_append, List.length_singleton]; exact h.2⟩
    · rintro ⟨h, hl⟩
      rcases row_pop h (by omega) with h5 | ⟨r', rfl, h5⟩
      · exact .inl ((all_iff hs t r).mpr ⟨h5, hl⟩)
      · rw [List.length_append, List.length_singleton] at hl
        refine .inr ⟨r', ?_, rfl⟩
        rw [List.mem_filter, decide_eq_true_iff]
        exact ⟨(all_iff hs t r').mpr ⟨h5, by omega⟩, by omega⟩
theorem all_len (stages : Nat) : ∀ t, 0 < (all stages t).length ∧ (all stages t).length ≤ 2 ^ t
  | 0 => by simp [all]
  | t + 1 => by
    have := all_len stages t
    have h2 := List.length_filter_le (fun r : List Nat => decide (r.length < stages)) (all stages t)
    simp only [all, List.length_append, List.length_map, Nat.pow_succ]
    omega
/-! ### greedy -/
def gS (ws : List Int) (most : Int) (s : List Nat × Int) (t : Nat) : List Nat × Int :=
  if t = 0 ∨ most < s.2 + w ws t then (s.1 ++ [t], w ws t) else (s.1, s.2 + w ws t)
def gr (ws : List Int) (most : Int) (i : Nat) : List Nat × Int := (List.range i).foldl (gS ws most) ([], 0)
theorem gr_succ (ws : List Int) (most : Int) (i : Nat) : gr ws most (i + 1) = gS ws most (gr ws most i) i := by
  unfold gr
  rw [List.range_succ, List.foldl_append]
  rfl
def greedy (ws : List Int) (most : Int) : List Nat := (gr ws most ws.length).1
structure GI (ws : List Int) (most : Int) (i : Nat) (s : List Nat × Int) : Prop where
  row : Row i s.1
  tk : s.2 = p ws i - p ws (g s.1 (s.1.length - 1))
  full : ∀ t, t + 1 < s.1.length → most < p ws (g s.1 (t + 1) + 1) - p ws (g s.1 t)
  le : (∀ x ∈ ws, x ≤ most) → 0 ≤ most → s.2 ≤ most ∧ ∀ t, t + 1 < s.1.length → p ws (g s.1 (t + 1)) - p ws (g s.1 t) ≤ most
theorem w_le {ws : List Int} {most : Int} (h : ∀ x ∈ ws, x ≤ most) (h0 : 0 ≤ most) (t : Nat) : w ws t ≤ most := by
  unfold w
  cases e : ws[t]? with
  | none => exact h0
  | some x => exact h x (List.mem_of_getElem? e)
theorem gr_ok (ws : List Int) (most : Int) : ∀ i, GI ws most (i + 1) (gr ws most (i + 1))
  | 0 => by
    have e : gr ws most 1 = ([0], w ws 0) := by
      rw [gr_succ]
      unfold gS
      rw [if_pos (Or.inl rfl)]
      rfl
    rw [e]
    refine ⟨row_one, ?_, fun t h => by simp at h, fun h h0 => ⟨w_le h h0 0, fun t h => by simp at h⟩⟩
    show w ws 0 = p ws 1 - p ws (g [0] 0)
    rw [show g [0] 0 = 0 from rfl, p_succ, p_zero]
    omega
  | i + 1 => by
    have ih := gr_ok ws most i
    rw [gr_succ]
    generalize gr ws most (i + 1) = s at ih
    obtain ⟨bs, tk⟩ := s
    obtain ⟨h1, h2, h3, h4⟩ := ih
    simp only at h1 h2 h3 h4
    have hp := h1.pos
    unfold gS
    split
    · rename_i hc
      have hc : most < tk + w ws (i + 1) := hc.resolve_left (by omega)
      refine ⟨row_push h1, ?_, fun t ht => ?_, fun h h0 => ⟨w_le h h0 _, fun t ht => ?_⟩⟩
      · show w ws (i + 1) = p ws (i + 1 + 1) - p ws (g (bs ++ [i + 1]) ((bs ++ [i + 1]).length - 1))
        rw [List.length_append, List.length_singleton, Nat.add_sub_cancel, g_app, if_neg (by omega), if_pos rfl, p_succ ws (i + 1)]
        omega
      · simp only [List.length_append, List.length_singleton] at ht
        show most < p ws (g (bs ++ [i + 1]) (t + 1) + 1) - p ws (g (bs ++ [i + 1]) t)
        rw [g_app, g_app, if_pos (show t < bs.length by omega)]
        split
        · exact h3 t (by assumption)
        · rw [if_pos (by omega), p_succ ws (i + 1)]
          rw [show bs.length - 1 = t by omega] at h2
          omega
      · simp only [List.length_append, List.length_singleton] at ht
        show p ws (g (bs ++ [i + 1]) (t + 1)) - p ws (g (bs ++ [i + 1]) t) ≤ most
        rw [g_app, g_app, if_pos (show t < bs.length by omega)]
        split
        · exact (h4 h h0).2 t (by assumption)
        · rw [if_pos (by omega)]
          rw [show bs.length - 1 = t by omega] at h2
          have := (h4 h h0).1
          omega
    · rename_i hc
      refine ⟨row_mono h1 (by omega), ?_, h3, fun h h0 => ⟨by show tk + w ws (i + 1) ≤ most; omega, (h4 h h0).2⟩⟩
      show tk + w ws (i + 1) = p ws (i + 1 + 1) - p ws (g bs (bs.length - 1))
      rw [p_succ ws (i + 1)]
      omega
theorem greedy_ok {ws : List Int} (most : Int) (h : 0 < ws.length) : GI ws most ws.length (gr ws most ws.length) := by
  obtain ⟨i, hi⟩ : ∃ i, ws.length = i + 1 := ⟨ws.length - 1, by omega⟩
  rw [hi]
  exact gr_ok ws most i
theorem greedy_row {ws : List Int} (most : Int) (h : 0 < ws.length) : Row ws.length (greedy ws most) := (greedy_ok most h).row
theorem greedy_full {ws : List Int} {most : Int} (h : 0 < ws.length) {t : Nat} (ht : t + 1 < (greedy ws most).length) : most < part ws (greedy ws most) t + w ws (g (greedy ws most) (t + 1)) := by
  have := (greedy_ok most h).full t ht
  unfold part nx
  rw [if_pos ht]
  rw [p_succ] at this
  show most < p ws (g (gr ws most ws.length).1 (t + 1)) - p ws (g (gr ws most ws.length).1 t) + w ws (g (gr ws most ws.length).1 (t + 1))
  omega
theorem greedy_le {ws : List Int} {most : Int} (h : 0 < ws.length) (hw : ∀ x ∈ ws, x ≤ most) (h0 : 0 ≤ most) {t : Nat} (ht : t < (greedy ws most).length) : part ws (greedy ws most) t ≤ most := by
  have hg := greedy_ok most h
  obtain ⟨h1, h2⟩ := hg.le hw h0
  unfold part nx
  split
  · exact h2 t (by assumption)
  · rename_i hn
    have e : t = (gr ws most ws.length).1.length - 1 := by
      have : (greedy ws most) = (gr ws most ws.length).1 := rfl
      rw [← this]
      omega
    rw [hg.tk] at h1
    rw [e]
    exact h1
/-! ### no row of fewer parts has less -/
theorem fewer {n : Nat} {a b : List Nat} (ha : Row n a) (hb : Row n b) (h : b.length < a.length) : ∃ t j, t + 1 < a.length ∧ j < b.length ∧ g b j ≤ g a t ∧ g a (t + 1) < nx n b j := by
  refine Classical.byContradiction fun hn => ?_
  have key : ∀ j, j < a.length → j < b.length ∧ g b j ≤ g a j := by
    intro j
    induction j with
    | zero => intro _; exact ⟨hb.pos, by rw [hb.h0]; omega⟩
    | succ j ih =>
      intro hj
      obtain ⟨h1, h2⟩ := ih (by omega)
      have h3 : ¬ g a (j + 1) < nx n b j := fun h3 => hn ⟨j, j, hj, h1, h2, h3⟩
      unfold nx at h3
      split at h3
      · exact ⟨by assumption, by omega⟩
      · exact absurd (ha.lt (j + 1) hj) h3
  have := (key b.length h).1
  omega
theorem holder {n : Nat} {b : List Nat} (hb : Row n b) {i : Nat} (hi : i < n) : ∃ j, j < b.length ∧ g b j ≤ i ∧ i < nx n b j := by
  refine Classical.byContradiction fun hn => ?_
  have key : ∀ j, j < b.length → g b j ≤ i := by
    intro j
    induction j with
    | zero => intro _; rw [hb.h0]; omega
    | succ j ih =>
      intro hj
      have h2 := ih (by omega)
      have h3 : ¬ i < nx n b j := fun h3 => hn ⟨j, by omega, h2, h3⟩
      unfold nx at h3
      rw [if_pos hj] at h3
      omega
  have hp := hb.pos
  have h2 := key (b.length - 1) (by omega)
  have h3 : ¬ i < nx n b (b.length - 1) := fun h3 => hn ⟨_, by omega, h2, h3⟩
  unfold nx at h3
  rw [if_neg (by omega)] at h3
  omega
/-- so much at least has a part of each row in at most so many stages -/
def LB (ws : List Int) (stages : Nat) (m : Int) : Prop := ∀ b, Row ws.length b → b.length ≤ stages → ∃ j, j < b.length ∧ m ≤ part ws b j
theorem lb_one {ws : List Int} {stages : Nat} (hn : ∀ x ∈ ws, 0 ≤ x) {m : Int} (h : m ∈ ws) : LB ws stages m := by
  intro b hb _
  obtain ⟨i, hi⟩ := List.getElem?_of_mem h
  have hil : i < ws.length := (List.getElem?_eq_some_iff.mp hi).1
  obtain ⟨j, hj, h1, h2⟩ := holder hb hil
  refine ⟨j, hj, ?_⟩
  have e : w ws i = m := by unfold w; rw [hi]; rfl
  have a := p_mono hn h1
  have c := p_mono hn (show i + 1 ≤ nx ws.length b j from h2)
  rw [p_succ] at c
  unfold part
  omega
/-- the mins of a step -/
def step (ws : List Int) (m : Int) : List Int := (List.range ((greedy ws m).length - 1)).map fun t => part ws (greedy ws m) t + w ws (g (greedy ws m) (t + 1))
theorem step_gt {ws : List Int} {m x : Int} (h : 0 < ws.length) (hx : x ∈ step ws m) : m < x := by
  unfold step at hx
  rw [List.mem_map] at hx
  obtain ⟨t, ht, rfl⟩ := hx
  rw [List.mem_range] at ht
  exact greedy_full h (by omega)
theorem step_le {ws : List Int} {m x : Int} (h : 0 < ws.length) (hn : ∀ x ∈ ws, 0 ≤ x) (hx : x ∈ step ws m) : x ≤ p ws ws.length := by
  unfold step at hx
  rw [List.mem_map] at hx
  obtain ⟨t, ht, rfl⟩ := hx
  rw [List.mem_range] at ht
  unfold part nx
  rw [if_pos (by omega)]
  have a := (greedy_row m h).lt (t + 1) (by omega)
  have c := p_mono hn (show g (greedy ws m) (t + 1) + 1 ≤ ws.length from a)
  rw [p_succ] at c
  have d := p_mono hn (Nat.zero_le (g (greedy ws m) t))
  rw [p_zero] at d
  omega
theorem lb_step {ws : List Int} {stages : Nat} {m m' : Int} (h : 0 < ws.length) (hn : ∀ x ∈ ws, 0 ≤ x) (hl : stages < (greedy ws m).length) (hm : ∀ x ∈ step ws m, m' ≤ x) : LB ws stages m' := by
  intro b hb hbl
  obtain ⟨t, j, ht, hj, h1, h2⟩ := fewer (greedy_row m h) hb (by omega)
  refine ⟨j, hj, ?_⟩
  have a := hm _ (List.mem_map.mpr ⟨t, List.mem_range.mpr (by omega), rfl⟩)
  unfold part nx at a
  rw [if_pos ht] at a
  have c := p_mono hn h1
  have d := p_mono hn (show g (greedy ws m) (t + 1) + 1 ≤ nx ws.length b j from h2)
  rw [p_succ] at d
  unfold part
  omega
end Pt
namespace Wk
open PySem PySem.Spec PyProof.Rows L2 Mi
abbrev WD (ws : List Int) : D := .tuple (ws.map .int)
abbrev RD (bs : List Nat) : List D := bs.map fun t : Nat => .int (t : Int)
theorem ws_ix {ws : List Int} {i : Nat} (h : i < ws.length) : ixD (WD ws) (.int (i : Int)) = some (.int (Pt.w ws i)) := ixD_tuple (by rw [List.getElem?_map, List.getElem?_eq_getElem h]; simp [Pt.w, h])
theorem rd_ix {bs : List Nat} {t : Nat} (h : t < bs.length) : ixD (.tuple (RD bs)) (.int (t : Int)) = some (.int (Pt.g bs t)) := ixD_tuple (by rw [List.getElem?_map, List.getElem?_eq_getElem h]; simp [Pt.g, h])
theorem gr_len (ws : List Int) (most : Int) : ∀ i, (Pt.gr ws most i).1.length ≤ i
  | 0 => by simp [Pt.gr]
  | i + 1 => by
    have := gr_len ws most i
    rw [Pt.gr_succ]
    unfold Pt.gS
    split
    · simp only [List.length_append, List.length_singleton]; omega
    · simp only; omega
theorem greedy_parting_ev {ws : List Int} {most : Int} {dr : Dr} (hl : ws.length < 1000) : m_greedy_parting [WD ws, .int most] dr = some (.tuple (RD (Pt.greedy ws most)), dr) := by
  refine fnM_eq ?_
  unfold b_greedy_parting
  simp -dsimp
  refine w_forN (fun i : Nat => .int i) (fun i μ => ∃ a, μ = ⟨[.val (WD ws), .val (.int most), .own (RD (Pt.gr ws most i).1), .val (if i = 0 then .none else .int (Pt.gr ws most i).2), a], dr⟩) (List.range ws.length) ?_ ?_ ?_
  · simp -dsimp [rng1_nat (n := ws.length) (by omega), Pt.gr]
  · rintro i x μ hi ⟨a, rfl⟩
    obtain ⟨rfl, hi'⟩ := range_get hi
    have hgl := gr_len ws most i
    cases i with
    | zero =>
      have e0 : ixD (WD ws) (.int 0) = some (.int (Pt.w ws 0)) := ws_ix (i := 0) hi'
      simp -dsimp [e0, Pt.gr_succ, Pt.gS, Pt.gr]
    | succ i =>
      have e1 : ixD (WD ws) (.int ((i : Int) + 1)) = some (.int (Pt.w ws (i + 1))) := ws_ix (i := i + 1) hi'
      by_cases hc : most < (Pt.gr ws most (i + 1)).2 + Pt.w ws (i + 1)
      · simp -dsimp [e1, hc, Pt.gr_succ ws most (i + 1), Pt.gS]
        omega
      · simp -dsimp [e1, hc, Pt.gr_succ ws most (i + 1), Pt.gS]
  · rintro μ ⟨a, rfl⟩
    simp -dsimp [Pt.greedy]
/-- a row over works; of none there is the one of no parts -/
def Fits (ws : List Int) (bs : List Nat) : Prop := (ws = [] ∧ bs = []) ∨ Pt.Row ws.length bs
theorem Fits.len {ws : List Int} {bs : List Nat} (h : Fits ws bs) : bs.length ≤ ws.length := by
  rcases h with ⟨rfl, rfl⟩ | h
  · simp
  · have key : ∀ j, j < bs.length → j ≤ Pt.g bs j := by
      intro j
      induction j with
      | zero => intro _; omega
      | succ j ih => intro hj; have := ih (by omega); have := h.inc j hj; omega
    have hp := h.pos
    have a := key (bs.length - 1) (by omega)
    have b := h.lt (bs.length - 1) (by omega)
    omega
theorem Fits.nx {ws : List Int} {bs : List Nat} (h : Fits ws bs) {t : Nat} (ht : t < bs.length) : Pt.g bs t ≤ Pt.nx ws.length bs t ∧ Pt.nx ws.length bs t ≤ ws.length := by
  rcases h with ⟨rfl, rfl⟩ | h
  · simp at ht
  · unfold Pt.nx
    split
    · rename_i h2
      have := h.inc t h2
      have := h.lt (t + 1) h2
      omega
    · have := h.lt t ht
      omega
theorem ends_get {n : Nat} {bs : List Nat} {t : Nat} (ht : t < bs.length) : ((RD bs).drop 1 ++ [.int (n : Int)])[t]? = some (.int (Pt.nx n bs t)) := by
  unfold Pt.nx
  split
  · rename_i h
    rw [List.getElem?_append_left (by simp; omega), List.getElem?_drop, List.getElem?_map, List.getElem?_eq_getElem (by omega)]
    simp [Pt.g, show 1 + t = t + 1 by omega, h]
  · rename_i h
    rw [List.getElem?_append_right (by simp; omega)]
    have : t - (List.drop 1 (RD bs)).length = 0 := by simp; omega
    rw [this]
    rfl
theorem sum_cut {ws : List Int} {i j : Nat} (h : i ≤ j) : ((ws.drop i).take (j - i)).sum = Pt.p ws j - Pt.p ws i := by
  unfold Pt.p
  have e : j = i + (j - i) := by omega
  have : ws.take j = ws.take i ++ (ws.drop i).take (j - i) := by
    conv => lhs; rw [e, List.take_add]
  rw [this, List.sum_append]
  omega
theorem part_cut {ws : List Int} {bs : List Nat} (h : Fits ws bs) {t : Nat} (ht : t < bs.length) : slA (WD ws) (some (Pt.g bs t : Int)) (some (Pt.nx ws.length bs t : Int)) = some (.tuple (((ws.drop (Pt.g bs t)).take (Pt.nx ws.length bs t - Pt.g bs t)).map .int)) := by
  have := h.nx ht
  rw [slA_cut (by omega) (by omega) (by simp; omega), List.map_take, List.map_drop]
  congr 4
  omega
theorem parting_works_ev {ws : List Int} {bs : List Nat} {dr : Dr} (h : Fits ws bs) (hl : ws.length < 1000) : m_parting_works [WD ws, .tuple (RD bs)] dr = some (.tuple ((Pt.sums ws bs).map .int), dr) := by
  have hbl := h.len
  refine fnM_eq ?_
  unfold b_parting_works
  simp -dsimp [slA_from]
  refine ⟨by omega, ?_⟩
  refine wm_lcmap (fun i : Nat => .int (i : Int)) (fun t : Nat => .int (Pt.part ws bs t)) ⟨[.val (WD ws), .val (.tuple (RD bs)), .val (.tuple ((RD bs).tail ++ [.int (ws.length : Int)])), .un], dr⟩ (List.range bs.length) (by simp; omega) ?_ ?_ ?_
  · simp -dsimp [rng1_nat (n := bs.length) (by omega)]
  · intro t ht
    rw [List.mem_range] at ht
    have e := ixD_tuple (ends_get (n := ws.length) ht)
    simp only [List.drop_one] at e
    have hs := sumD_tuple (ns := (ws.drop (Pt.g bs t)).take (Pt.nx ws.length bs t - Pt.g bs t))
    rw [sum_cut (h.nx ht).1] at hs
    simp only [List.map_take, List.map_drop] at hs
    simp -dsimp [rd_ix ht, e, part_cut h ht, hs, Pt.part]
  · simp -dsimp [Pt.sums, Function.comp_def]
theorem law_sums_ev {ws : List Int} {bs : List Nat} {dr : Dr} (h : Fits ws bs) (hl : ws.length < 1000) : m_law_sums [WD ws, .tuple (RD bs)] dr = some (.list ((Pt.sums ws bs).map .int), dr) := by
  have hbl := h.len
  refine fnM_eq ?_
  unfold b_law_sums
  simp -dsimp [slA_from]
  refine ⟨by omega, ?_⟩
  refine wm_lcmap (fun i : Nat => .int (i : Int)) (fun t : Nat => .int (Pt.part ws bs t)) ⟨[.val (WD ws), .val (.tuple (RD bs)), .val (.list ((RD bs).tail ++ [.int (ws.length : Int)])), .un], dr⟩ (List.range bs.length) (by simp; omega) ?_ ?_ ?_
  · simp -dsimp [rng1_nat (n := bs.length) (by omega)]
  · intro t ht
    rw [List.mem_range] at ht
    have e := ixD_list (ends_get (n := ws.length) ht)
    simp only [List.drop_one] at e
    have hs := sumD_tuple (ns := (ws.drop (Pt.g bs t)).take (Pt.nx ws.length bs t - Pt.g bs t))
    rw [sum_cut (h.nx ht).1] at hs
    simp only [List.map_take, List.map_drop] at hs
    simp -dsimp [rd_ix ht, e, part_cut h ht, hs, Pt.part]
  · simp -dsimp [Pt.sums, Function.comp_def]
end Wk
namespace Wk
open PySem PySem.Spec PyProof.Rows L2 Mi
/-- the best most: some row of at most so many stages has no greater part, and each has one as great -/
structure Best (ws : List Int) (stages : Nat) (m : Int) : Prop where
  ge : ∀ x ∈ ws, x ≤ m
  nn : 0 ≤ m
  le : 0 < ws.length → (Pt.greedy ws m).length ≤ stages
  lb : (m = 0 ∧ ws = []) ∨ m = maxL (ws ++ [0]) ∨ Pt.LB ws stages m
  lb2 : ∀ b, Pt.Row ws.length b → b.length ≤ stages → m ≤ maxL (Pt.sums ws b ++ [0])
  nil : ws = [] → m = 0
theorem maxL0_ge {ns : List Int} {x : Int} (h : x ∈ ns) : x ≤ maxL (ns ++ [0]) := maxL_ge (List.mem_append_left _ h)
theorem maxL0_nn {ns : List Int} : 0 ≤ maxL (ns ++ [0]) := maxL_ge (List.mem_append_right _ (List.mem_singleton.mpr rfl))
theorem maxL0_le {ns : List Int} {m : Int} (h0 : 0 ≤ m) (h : ∀ x ∈ ns, x ≤ m) : maxL (ns ++ [0]) ≤ m := by
  have := maxL_mem (ns := ns ++ [0]) (by simp)
  rw [List.mem_append, List.mem_singleton] at this
  rcases this with h1 | h1
  · exact h _ h1
  · omega
theorem greedy_nil {m : Int} : Pt.greedy [] m = [] := rfl
theorem greedy_fits (ws : List Int) (m : Int) : Fits ws (Pt.greedy ws m) := by
  by_cases h : 0 < ws.length
  · exact .inr (Pt.greedy_row m h)
  · have : ws = [] := List.eq_nil_of_length_eq_zero (by omega)
    subst this
    exact .inl ⟨rfl, rfl⟩
/-- what the loop keeps: a bound from below -/
def Low (ws : List Int) (stages : Nat) (m : Int) : Prop := (∀ x ∈ ws, x ≤ m) ∧ 0 ≤ m ∧ (∀ b, Pt.Row ws.length b → b.length ≤ stages → m ≤ maxL (Pt.sums ws b ++ [0])) ∧ (ws = [] → m = 0)
theorem low_lb {ws : List Int} {stages : Nat} {m : Int} (h : Pt.LB ws stages m) : ∀ b, Pt.Row ws.length b → b.length ≤ stages → m ≤ maxL (Pt.sums ws b ++ [0]) := by
  intro b hb hl
  obtain ⟨j, hj, h⟩ := h b hb hl
  exact Int.le_trans h (maxL0_ge (List.mem_map.mpr ⟨j, List.mem_range.mpr hj, rfl⟩))
theorem low_start {ws : List Int} {stages : Nat} (hn : ∀ x ∈ ws, 0 ≤ x) : Low ws stages (maxL (ws ++ [0])) := by
  refine ⟨fun x hx => maxL0_ge hx, maxL0_nn, ?_, fun e => by subst e; rfl⟩
  have hm := maxL_mem (ns := ws ++ [0]) (by simp)
  rw [List.mem_append, List.mem_singleton] at hm
  rcases hm with h | h
  · exact low_lb (Pt.lb_one hn h)
  · intro b _ _
    rw [h]
    exact maxL0_nn
theorem low_step {ws : List Int} {stages : Nat} {m : Int} (hn : ∀ x ∈ ws, 0 ≤ x) (hs : 0 < stages) (h : Low ws stages m) (hl : stages < (Pt.greedy ws m).length) : 0 < (Pt.step ws m).length ∧ Low ws stages (minL (Pt.step ws m)) ∧ m < minL (Pt.step ws m) ∧ minL (Pt.step ws m) ≤ Pt.p ws ws.length := by
  have hp : 0 < ws.length := by have := (greedy_fits ws m).len; omega
  have hlen : 0 < (Pt.step ws m).length := by unfold Pt.step; rw [List.length_map, List.length_range]; omega
  have hmem := minL_mem hlen
  have h1 := Pt.step_gt hp hmem
  refine ⟨hlen, ⟨fun x hx => Int.le_trans (h.1 x hx) (Int.le_of_lt h1), by have := h.2.1; omega, low_lb (Pt.lb_step hp hn hl fun x hx => minL_le hx), fun e => by subst e; simp at hp⟩, h1, Pt.step_le hp hn hmem⟩
theorem best_most_ev {ws : List Int} {stages : Nat} {dr : Dr} (hn : ∀ x ∈ ws, 0 ≤ x) (hs : 0 < stages) (hl : ws.length < 1000) (hp : Pt.p ws ws.length < 1000) : ∃ m, m_best_most [WD ws, .int stages] dr = some (.int m, dr) ∧ Low ws stages m ∧ (Pt.greedy ws m).length ≤ stages := by
  have key : WO (m_best_most [WD ws, .int stages] dr) fun z => ∃ m, z = (.int m, dr) ∧ Low ws stages m ∧ (Pt.greedy ws m).length ≤ stages := by
    refine fnM_wo ?_
    unfold b_best_most
    have hm0 := maxD_list (ns := ws ++ [0]) (by simp)
    simp only [List.map_append, List.map_cons, List.map_nil] at hm0
    simp -dsimp [hm0]
    refine ⟨by omega, ?_⟩
    refine w_while (fun n μ => ∃ m a b, μ = ⟨[.val (WD ws), .val (.int stages), .val (.int m), a, b, .un], dr⟩ ∧ Low ws stages m ∧ (1000 - m).toNat = n) (n := (1000 - maxL (ws ++ [0])).toNat) (by have := maxL0_nn (ns := ws); unfold fuel; omega) ⟨_, _, _, rfl, low_start hn, rfl⟩ ?_
    rintro n μ ⟨m, a, b, rfl, hlow, rfl⟩
    have hgl := (greedy_fits ws m).len
    have hlen : ((RD (Pt.greedy ws m)).length : Int) = ((Pt.greedy ws m).length : Int) := by simp
    simp -dsimp [greedy_parting_ev (ws := ws) (most := m) hl]
    by_cases hc : stages < (Pt.greedy ws m).length
    · obtain ⟨q1, q2, q3, q4⟩ := low_step hn hs hlow hc
      simp -dsimp [hc, greedy_parting_ev (ws := ws) (most := m) hl, parting_works_ev (greedy_fits ws m) hl]
      refine wm_lcmap (fun i : Nat => .int (i : Int)) (fun t : Nat => .int (Pt.part ws (Pt.greedy ws m) t + Pt.w ws (Pt.g (Pt.greedy ws m) (t + 1)))) ⟨[.val (WD ws), .val (.int stages), .val (.int m), .val (.tuple (RD (Pt.greedy ws m))), .val (.tuple ((Pt.sums ws (Pt.greedy ws m)).map .int)), .un], dr⟩ (List.range ((Pt.greedy ws m).length - 1)) (by simp; omega) ?_ ?_ ?_
      · have e : ((Pt.greedy ws m).length : Int) - 1 = (((Pt.greedy ws m).length - 1 : Nat) : Int) := by omega
        simp -dsimp [e, rng1_nat (n := (Pt.greedy ws m).length - 1) (by omega)]
      · intro t ht
        rw [List.mem_range] at ht
        have hrow := Pt.greedy_row m (show 0 < ws.length by omega)
        have e1 : ixD (.tuple ((Pt.sums ws (Pt.greedy ws m)).map .int)) (.int (t : Int)) = some (.int (Pt.part ws (Pt.greedy ws m) t)) := ixD_tuple (by simp [Pt.sums, show t < (Pt.greedy ws m).length by omega])
        have e2 : ixD (.tuple (RD (Pt.greedy ws m))) (.int ((t : Int) + 1)) = some (.int (Pt.g (Pt.greedy ws m) (t + 1))) := rd_ix (t := t + 1) (by omega)
        simp -dsimp [e1, e2, ws_ix (hrow.lt (t + 1) (by omega))]
      · have e : ∀ r : List Nat, r.map (fun t : Nat => PyData.int (Pt.part ws (Pt.greedy ws m) t + Pt.w ws (Pt.g (Pt.greedy ws m) (t + 1)))) = (r.map fun t : Nat => Pt.part ws (Pt.greedy ws m) t + Pt.w ws (Pt.g (Pt.greedy ws m) (t + 1))).map .int := fun r => by rw [List.map_map]; rfl
        have e3 := minDL_list (ns := Pt.step ws m) q1
        unfold Pt.step at e3
        simp only [List.map_map, Function.comp_def] at e3
        simp -dsimp [e3]
        unfold Pt.step at q2 q3 q4
        exact ⟨by omega, q2⟩
    · simp -dsimp [hc]
      exact ⟨hlow, by omega⟩
  cases h : m_best_most [WD ws, .int stages] dr with
  | none => rw [h] at key; simp at key
  | some z =>
    rw [h] at key
    simp at key
    obtain ⟨m, rfl, h1, h2⟩ := key
    exact ⟨m, rfl, h1, h2⟩
end Wk
namespace Wk
open PySem PySem.Spec PyProof.Rows L2 Mi
theorem eqD_nil : eqD (.tuple []) (.tuple []) = some (.bool true) := eqD_self (shaped_of rfl (by decide))
theorem isi_RD {bs : List Nat} : isiN "tuple" (.tuple (RD bs)) = some (.bool true) := isi_tuple
theorem rd_last {bs : List Nat} (h : 0 < bs.length) : ixD (.tuple (RD bs)) (.int (-1)) = some (.int (Pt.g bs (bs.length - 1))) := by
  show atI _ _ = _
  unfold atI ixN
  rw [if_neg (by decide), if_pos (by simp; omega), List.length_map]
  have : ((-1 : Int) + (bs.length : Int)).toNat = bs.length - 1 := by omega
  rw [this]
  simp [Pt.g, List.getElem?_eq_getElem (show bs.length - 1 < bs.length by omega)]
theorem is_parting_ev {ws : List Int} {bs : List Nat} {st : Int} {dr : Dr} (h : Fits ws bs) (hs : (bs.length : Int) ≤ st) (hl : ws.length < 1000) : m_is_parting [WD ws, .int st, .tuple (RD bs)] dr = some (.bool true, dr) := by
  have hbl := h.len
  refine fnM_eq ?_
  unfold b_is_parting
  simp -dsimp [isi_RD, hs]
  refine wm_lcmap (fun b : Nat => .int (b : Int)) (fun _ : Nat => .bool false) ⟨[.val (WD ws), .val (.int st), .val (.tuple (RD bs)), .un, .un, .un], dr⟩ bs (by omega) ?_ ?_ ?_
  · simp -dsimp
  · intro x hx
    simp -dsimp [isi_i, isi_b]
  simp -dsimp [anyD_map (p := fun _ : Nat => false)]
  rcases h with ⟨rfl, rfl⟩ | h
  · simp -dsimp [eqD_nil]
  · have hp := h.pos
    simp -dsimp [List.ne_nil_of_length_pos (Nat.lt_of_lt_of_le hp hbl)]
    refine wm_lcmap (fun i : Nat => .int (i : Int)) (fun _ : Nat => .bool true) ⟨[.val (WD ws), .val (.int st), .val (.tuple (RD bs)), .un, .un, .un], dr⟩ (List.range (bs.length - 1)) (by simp; omega) ?_ ?_ ?_
    · have e : (bs.length : Int) - 1 = ((bs.length - 1 : Nat) : Int) := by omega
      simp -dsimp [e, rng1_nat (n := bs.length - 1) (by omega)]
    · intro t ht
      rw [List.mem_range] at ht
      have e2 : ixD (.tuple (RD bs)) (.int ((t : Int) + 1)) = some (.int (Pt.g bs (t + 1))) := rd_ix (t := t + 1) (by omega)
      have hi := h.inc t (by omega)
      simp -dsimp [rd_ix (bs := bs) (t := t) (by omega), e2, hi]
    have e0 : ixD (.tuple (RD bs)) (.int 0) = some (.int 0) := by
      have := rd_ix (bs := bs) (t := 0) hp
      rw [h.h0] at this
      exact this
    have hlast := h.lt (bs.length - 1) (by omega)
    simp -dsimp [allD_map (p := fun _ : Nat => true), e0, rd_last hp, hp, hlast]
def closer (ws : List Int) (m : Int) : D := if m = maxL (ws ++ [0]) then .tuple [] else .tuple (RD (Pt.greedy ws (m - 1)))
def paper (ws : List Int) (m : Int) : D := .tuple [.int m, .tuple (RD (Pt.greedy ws m)), closer ws m]
theorem best_parting_ev {ws : List Int} {stages : Nat} {m : Int} {dr : Dr} (hl : ws.length < 1000) (hb : m_best_most [WD ws, .int stages] dr = some (.int m, dr)) : m_best_parting [WD ws, .int stages] dr = some (paper ws m, dr) := by
  have hm0 := maxD_list (ns := ws ++ [0]) (by simp)
  simp only [List.map_append, List.map_cons, List.map_nil] at hm0
  have hle : (ws.length : Int) + 1 ≤ 16777216 := by omega
  refine fnM_eq ?_
  unfold b_best_parting
  have hpe : paper ws m = .tuple [.int m, .tuple (RD (Pt.greedy ws m)), closer ws m] := rfl
  simp -dsimp [hb, hm0, hpe]
  refine ⟨by omega, ?_⟩
  split
  · rename_i h
    have hc : closer ws m = .tuple [] := by unfold closer; rw [if_pos h]
    simp -dsimp [greedy_parting_ev (ws := ws) hl, hpe, hc]
  · rename_i h
    have hc : closer ws m = .tuple (RD (Pt.greedy ws (m - 1))) := by unfold closer; rw [if_neg h]
    simp -dsimp [greedy_parting_ev (ws := ws) hl, hpe, hc]
end Wk
namespace Wk
open PySem PySem.Spec PyProof.Rows L2 Mi
def f3 : D → Bool
  | .none => true
  | .bool _ => true
  | .int _ => true
  | _ => false
def OkV : D → Prop
  | .none => True
  | .bool _ => True
  | .int _ => True
  | .str x => (PyData.str x).canLay0 = true
  | .list ds => ∀ e ∈ ds, f3 e = true
  | .tuple ds => (∀ e ∈ ds, f3 e = true) ∧ ds.length < 50
  | .dict _ => False
def isInt : D → Bool
  | .int _ => true
  | _ => false
theorem f3_lay {e : D} (h : f3 e = true) : e.canLay0 = true ∧ e.depth ≤ 0 := by
  cases e <;> simp [f3] at h
  · exact lay_none
  · exact ⟨rfl, by simp [PyData.depth]⟩
  · exact lay_int
theorem shaped_okv {d : D} (h : OkV d) : SeqAt.shaped d = true := by
  cases d with
  | none => exact shaped_lay lay_none (by decide)
  | bool b => exact shaped_lay (n := 0) ⟨rfl, by simp [PyData.depth]⟩ (by decide)
  | int i => exact shaped_lay lay_int (by decide)
  | str x => exact shaped_lay (lay_str h) (by decide)
  | list ds => exact shaped_lay (lay_list fun e he => f3_lay (h e he)) (by decide)
  | tuple ds => exact shaped_lay (lay_tuple fun e he => f3_lay (h.1 e he)) (by decide)
  | dict ks => exact h.elim
theorem isiI_none : isiN "int" .none = some (.bool false) := by rfl
theorem isiI_bool {b : Bool} : isiN "int" (.bool b) = some (.bool true) := by rfl
theorem isiB_none : isiN "bool" .none = some (.bool false) := by rfl
theorem isiB_bool {b : Bool} : isiN "bool" (.bool b) = some (.bool true) := by rfl
theorem isiI_tuple {ds : List D} : isiN "int" (.tuple ds) = some (.bool false) := by rfl
theorem isiI_list {ds : List D} : isiN "int" (.list ds) = some (.bool false) := by rfl
theorem isiI_str {x : Str} : isiN "int" (.str x) = some (.bool false) := by rfl
theorem isiB_tuple {ds : List D} : isiN "bool" (.tuple ds) = some (.bool false) := by rfl
theorem isiB_list {ds : List D} : isiN "bool" (.list ds) = some (.bool false) := by rfl
theorem isiB_str {x : Str} : isiN "bool" (.str x) = some (.bool false) := by rfl
theorem isiT_none : isiN "tuple" .none = some (.bool false) := by rfl
theorem isiT_bool {b : Bool} : isiN "tuple" (.bool b) = some (.bool false) := by rfl
theorem isiT_int {i : Int} : isiN "tuple" (.int i) = some (.bool false) := by rfl
theorem isiT_str {x : Str} : isiN "tuple" (.str x) = some (.bool false) := by rfl
theorem isiT_list {ds : List D} : isiN "tuple" (.list ds) = some (.bool false) := by rfl
def isTup : D → Bool
  | .tuple _ => true
  | _ => false
theorem isiT_okv {d : D} (h : OkV d) (ht : isTup d = false) : isiN "tuple" d = some (.bool false) := by
  cases d <;> first | rfl | (simp [isTup] at ht; done) | exact h.elim
theorem ints_none {ds : List D} (h : ∀ e ∈ ds, f3 e = true) : (ints? ds = none ∧ ds.any (fun e => !isInt e) = true) ∨ ∃ ns, ints? ds = some ns ∧ ds = ns.map .int ∧ ds.any (fun e => !isInt e) = false := by
  induction ds with
  | nil => exact .inr ⟨[], rfl, rfl, rfl⟩
  | cons e ds ih =>
    rcases ih fun x hx => h x (List.mem_cons_of_mem _ hx) with ⟨h1, h2⟩ | ⟨ns, h1, h2, h3⟩
    · left
      refine ⟨?_, by simp only [List.any_cons, h2, Bool.or_true]⟩
      cases e <;> simp [ints?, h1]
    · cases e with
      | int i => exact .inr ⟨i :: ns, by simp [ints?, h1], by rw [List.map_cons, ← h2], by rw [List.any_cons, h3]; rfl⟩
      | none => exact .inl ⟨rfl, rfl⟩
      | bool b => exact .inl ⟨rfl, rfl⟩
      | _ => have := h _ List.mem_cons_self; simp [f3] at this
def PI (n : Nat) (ns : List Int) : Bool := if n = 0 then decide (ns = []) else !decide (ns = []) && (decide (Pt.w ns 0 = 0) && (decide (ns.Pairwise (· < ·)) && decide (Pt.w ns (ns.length - 1) < n)))
def isP (n : Nat) (st : Int) : D → Bool
  | .tuple ds => match ints? ds with
    | some ns => decide ((ns.length : Int) ≤ st) && PI n ns
    | none => false
  | _ => false
theorem rise_all (ns : List Int) : ((List.range (ns.length - 1)).all fun t => decide (Pt.w ns t < Pt.w ns (t + 1))) = decide (ns.Pairwise (· < ·)) := by
  rw [Bool.eq_iff_iff, List.all_eq_true, decide_eq_true_iff]
  have hw : ∀ i (hi : i < ns.length), Pt.w ns i = ns[i] := fun i hi => by simp [Pt.w, hi]
  constructor
  · intro h
    have step : ∀ t, t + 1 < ns.length → Pt.w ns t < Pt.w ns (t + 1) := fun t ht => by
      have := h t (List.mem_range.mpr (by omega))
      simpa using this
    have key : ∀ i j, i < j → j < ns.length → Pt.w ns i < Pt.w ns j := by
      intro i j hij hj
      induction j with
      | zero => omega
      | succ j ih =>
        have := step j hj
        rcases Nat.lt_or_ge i j with h2 | h2
        · have := ih h2 (by omega); omega
        · rw [show i = j by omega]; exact this
    rw [List.pairwise_iff_getElem]
    intro i j hi hj hij
    rw [← hw i hi, ← hw j hj]
    exact key i j hij hj
  · intro h t ht
    rw [List.mem_range] at ht
    rw [List.pairwise_iff_getElem] at h
    rw [decide_eq_true_iff, hw t (by omega), hw (t + 1) (by omega)]
    exact h t (t + 1) (by omega) (by omega) (by omega)
theorem ints_last {ns : List Int} (h : 0 < ns.length) : ixD (.tuple (ns.map .int)) (.int (-1)) = some (.int (Pt.w ns (ns.length - 1))) := by
  show atI _ _ = _
  unfold atI ixN
  rw [if_neg (by decide), if_pos (by simp; omega), List.length_map]
  have : ((-1 : Int) + (ns.length : Int)).toNat = ns.length - 1 := by omega
  rw [this]
  simp [Pt.w, List.getElem?_eq_getElem (show ns.length - 1 < ns.length by omega)]
theorem eqD_tnil {ns : List Int} : eqD (.tuple (ns.map .int)) (.tuple []) = some (.bool (decide (ns = []))) := eqD_tuple_ints (ms := [])
theorem len_int (d : Nat) (e : Int) : (!decide ((d : Int) ≤ e)) = decide (e < (d : Int)) := by
  rw [Bool.eq_iff_iff]
  simp
theorem is_parting_any {ws : List Int} {d : D} {st : Int} {dr : Dr} (hd : OkV d) (hl : ws.length < 1000) : m_is_parting [WD ws, .int st, d] dr = some (.bool (isP ws.length st d), dr) := by
  refine fnM_eq ?_
  unfold b_is_parting
  cases ht : isTup d with
  | false =>
    have e : isP ws.length st d = false := by cases d <;> first | rfl | simp [isTup] at ht
    simp -dsimp [isiT_okv hd ht, e]
  | true =>
    obtain ⟨ds, rfl⟩ : ∃ ds, d = .tuple ds := by cases d <;> first | exact ⟨_, rfl⟩ | simp [isTup] at ht
    obtain ⟨hf, hdl⟩ := hd
    by_cases hst : st < (ds.length : Int)
    · have e : isP ws.length st (.tuple ds) = false := by
        unfold isP
        rcases ints_none hf with ⟨h1, _⟩ | ⟨ns, h1, h2, _⟩
        · simp [h1]
        · rw [h2, List.length_map] at hst
          simp only [h1, show ¬ ((ns.length : Int) ≤ st) by omega, decide_false, Bool.false_and]
      simp -dsimp [isi_tuple, hst, e]
    · simp -dsimp [isi_tuple, hst]
      refine wm_lcmap (fun e : D => e) (fun e : D => .bool (!isInt e)) ⟨[.val (WD ws), .val (.int st), .val (.tuple ds), .un, .un, .un], dr⟩ ds (by omega) ?_ ?_ ?_
      · simp -dsimp
      · intro x hx
        have hx3 := hf x hx
        cases x with
        | none => simp -dsimp [isiI_none, isInt]
        | bool b => simp -dsimp [isiI_bool, isiB_bool, isInt]
        | int i => simp -dsimp [isi_i, isi_b, isInt]
        | _ => simp [f3] at hx3
      rcases ints_none hf with ⟨h1, h2⟩ | ⟨ns, h1, h2, h3⟩
      · have e : isP ws.length st (.tuple ds) = false := by unfold isP; simp [h1]
        simp -dsimp [anyD_map (p := fun e : D => !isInt e), h2, e]
      · have hlen : ds.length = ns.length := by rw [h2, List.length_map]
        have e : isP ws.length st (.tuple ds) = PI ws.length ns := by
          unfold isP
          simp only [h1, show ((ns.length : Int) ≤ st) by omega, decide_true, Bool.true_and]
        simp -dsimp [anyD_map (p := fun e : D => !isInt e), h3, e]
        subst h2
        by_cases hw : ws = []
        · subst hw
          simp only [List.length_nil] at e
          simp -dsimp [eqD_tnil, e, PI]
        · have hn0 : ws.length ≠ 0 := fun z => hw (List.eq_nil_of_length_eq_zero z)
          by_cases hns : ns = []
          · subst hns
            have e' : isP ws.length st (.tuple []) = PI ws.length [] := e
            simp -dsimp [hw, PI, hn0]
            refine wm_lcmap (fun i : Nat => .int (i : Int)) (fun t : Nat => .bool true) ⟨[.val (WD ws), .val (.int st), .val (.tuple []), .un, .un, .un], dr⟩ [] (by decide) ?_ ?_ ?_
            · simp -dsimp [show rng1 [.int (-1)] = some [] from rfl]
            · intro t ht; cases ht
            · simp -dsimp [show allD [.list []] = some (.bool true) from rfl, e', PI, hn0]
          · have hp : 0 < ns.length := List.length_pos_iff.mpr hns
            simp -dsimp [hw]
            refine wm_lcmap (fun i : Nat => .int (i : Int)) (fun t : Nat => .bool (decide (Pt.w ns t < Pt.w ns (t + 1)))) ⟨[.val (WD ws), .val (.int st), .val (.tuple (ns.map .int)), .un, .un, .un], dr⟩ (List.range (ns.length - 1)) (by simp; omega) ?_ ?_ ?_
            · have e : (ns.length : Int) - 1 = ((ns.length - 1 : Nat) : Int) := by omega
              simp -dsimp [e, rng1_nat (n := ns.length - 1) (by omega)]
            · intro t ht
              rw [List.mem_range] at ht
              have e2 : ixD (.tuple (ns.map .int)) (.int ((t : Int) + 1)) = some (.int (Pt.w ns (t + 1))) := ws_ix (ws := ns) (i := t + 1) (by omega)
              simp -dsimp [ws_ix (ws := ns) (i := t) (by omega), e2]
            have e0 : ixD (.tuple (ns.map .int)) (.int 0) = some (.int (Pt.w ns 0)) := ws_ix (ws := ns) (i := 0) hp
            simp -dsimp [allD_map (p := fun t : Nat => decide (Pt.w ns t < Pt.w ns (t + 1))), rise_all, e0, ints_last hp, hp, hns]
            by_cases c1 : Pt.w ns 0 = 0
            · by_cases c2 : ns.Pairwise (· < ·)
              · simp -dsimp [c1, c2, e, PI, hn0, hns, hw]
              · simp -dsimp [c1, c2, e, PI, hn0, hns, hw]
            · simp -dsimp [c1, e, PI, hn0, hns, hw]
end Wk
namespace Wk
open PySem PySem.Spec PyProof.Rows L2 Mi
theorem neD_lnil {xs : List D} (h : ∀ e ∈ xs, f3 e = true) : neD (.list xs) (.list []) = some (.bool (!xs.isEmpty)) := by
  have h1 : SeqAt.shaped (.list xs) = true := shaped_lay (lay_list fun e he => f3_lay (h e he)) (by decide)
  have h2 : SeqAt.shaped (.list []) = true := shaped_of rfl (by decide)
  unfold neD
  rw [h1, h2]
  cases xs <;> simp [PyData.eqv, PyData.eqvAll]
theorem law_parting_any {ws : List Int} {d : D} {st : Int} {dr : Dr} (hd : OkV d) (hl : ws.length < 1000) : m_law_parting [WD ws, d, .int st] dr = some (.bool (isP ws.length st d), dr) := by
  refine fnM_eq ?_
  unfold b_law_parting
  cases ht : isTup d with
  | false =>
    have e : isP ws.length st d = false := by cases d <;> first | rfl | simp [isTup] at ht
    simp -dsimp [isiT_okv hd ht, e]
  | true =>
    obtain ⟨ds, rfl⟩ : ∃ ds, d = .tuple ds := by cases d <;> first | exact ⟨_, rfl⟩ | simp [isTup] at ht
    obtain ⟨hf, hdl⟩ := hd
    simp -dsimp [isi_tuple]
    refine wm_lcfil (fun e : D => e) (fun e : D => !isInt e) (fun e : D => e) ⟨[.val (WD ws), .val (.tuple ds), .val (.int st), .un], dr⟩ ds (by omega) ?_ ?_ ?_
    · simp -dsimp
    · intro x hx
      have hx3 := hf x hx
      cases x with
      | none => simp -dsimp [isiI_none, isInt]
      | bool b => simp -dsimp [isiI_bool, isiB_bool, isInt]
      | int i => simp -dsimp [isi_i, isi_b, isInt]
      | _ => simp [f3] at hx3
    have hne := neD_lnil (xs := ds.filter fun e => !isInt e) fun e he => hf e (List.mem_filter.mp he).1
    rcases ints_none hf with ⟨h1, h2⟩ | ⟨ns, h1, h2, h3⟩
    · have e : isP ws.length st (.tuple ds) = false := by unfold isP; simp [h1]
      have hem : (ds.filter fun e => !isInt e).isEmpty = false := by
        rw [List.any_eq_true] at h2
        obtain ⟨x, hx, hx2⟩ := h2
        rw [List.isEmpty_eq_false_iff_exists_mem]
        exact ⟨x, List.mem_filter.mpr ⟨hx, hx2⟩⟩
      rw [hem] at hne
      simp -dsimp [hne, e]
    · have hem : (ds.filter fun e => !isInt e) = [] := by
        rw [List.filter_eq_nil_iff]
        intro x hx
        rw [List.any_eq_false] at h3
        exact h3 x hx
      rw [hem] at hne
      have hlen : ds.length = ns.length := by rw [h2, List.length_map]
      by_cases hst : st < (ds.length : Int)
      · have e : isP ws.length st (.tuple ds) = false := by
          unfold isP
          simp only [h1, show ¬ ((ns.length : Int) ≤ st) by omega, decide_false, Bool.false_and]
        simp -dsimp [hem, hne, hst, e]
      · have e : isP ws.length st (.tuple ds) = PI ws.length ns := by
          unfold isP
          simp only [h1, show ((ns.length : Int) ≤ st) by omega, decide_true, Bool.true_and]
        simp -dsimp [hem, hne, hst]
        subst h2
        by_cases hw : ws = []
        · subst hw
          simp only [List.length_nil] at e
          by_cases hns : ns = []
          · subst hns
            have e' : isP 0 st (.tuple []) = PI 0 [] := e
            simp -dsimp [e', PI]
          · simp -dsimp [e, PI, hns]
        · have hn0 : ws.length ≠ 0 := fun z => hw (List.eq_nil_of_length_eq_zero z)
          by_cases hns : ns = []
          · subst hns
            have e' : isP ws.length st (.tuple []) = PI ws.length [] := e
            simp -dsimp [hw, e', PI, hn0]
          · have hp : 0 < ns.length := List.length_pos_iff.mpr hns
            have e0 : ixD (.tuple (ns.map .int)) (.int 0) = some (.int (Pt.w ns 0)) := ws_ix (ws := ns) (i := 0) hp
            have hss : srtSetF (.tuple (ns.map .int)) = some ((srtU ns).map .int) := by
              unfold srtSetF
              simp only [ints?_map, Option.bind_some]
              rw [if_pos (by omega)]
            have wm_m1F : ∀ {g : D → Option (List D)} {ma : M O} {μ : MS} {Q : List D → MS → Prop}, @Eq Prop (WM (m1F g ma μ) Q) (WM (ma μ) fun o1 μ1 => WO (look o1 μ1) fun d => WO (g d) fun z => Q z μ1) := by
              intro g ma μ Q
              unfold m1F
              cases ma μ with
              | none => simp
              | some p =>
                obtain ⟨o, μ1⟩ := p
                simp -dsimp
                cases look o μ1 with
                | none => simp
                | some d => cases hg : g d <;> simp [hg]
            simp -dsimp [hw, hns, e0]
            by_cases c1 : Pt.w ns 0 = 0
            · simp -dsimp [c1, wm_m1F, hss, eqD_list_ints, srtU_self]
              by_cases c2 : ns.Pairwise (· < ·)
              · simp -dsimp [c2, c1, ints_last hp, e, PI, hn0, hns]
              · simp -dsimp [c2, c1, e, PI, hn0, hns]
            · simp -dsimp [c1, e, PI, hn0, hns]
end Wk
namespace Wk
open PySem PySem.Spec PyProof.Rows L2 Mi
theorem isP_true {ws : List Int} {st : Int} {d : D} (hd : OkV d) (h : isP ws.length st d = true) : ∃ bs, d = .tuple (RD bs) ∧ Fits ws bs ∧ (bs.length : Int) ≤ st := by
  cases d with
  | tuple ds =>
    rcases ints_none hd.1 with ⟨h1, _⟩ | ⟨ns, h1, h2, _⟩
    · unfold isP at h; simp [h1] at h
    · subst h2
      unfold isP at h
      simp only [h1, Bool.and_eq_true, decide_eq_true_eq] at h
      obtain ⟨hl, hp⟩ := h
      unfold PI at hp
      split at hp
      · rename_i h0
        simp only [decide_eq_true_eq] at hp
        subst hp
        exact ⟨[], rfl, .inl ⟨List.eq_nil_of_length_eq_zero h0, rfl⟩, by simpa using hl⟩
      · rename_i h0
        simp only [Bool.and_eq_true, decide_eq_true_eq, Bool.not_eq_true', decide_eq_false_iff_not] at hp
        obtain ⟨hne, p0, p1, p2⟩ := hp
        have hpos : 0 < ns.length := List.length_pos_iff.mpr hne
        have hw : ∀ i (hi : i < ns.length), Pt.w ns i = ns[i] := fun i hi => by simp [Pt.w, hi]
        rw [List.pairwise_iff_getElem] at p1
        have hmono : ∀ i j, i < j → j < ns.length → Pt.w ns i < Pt.w ns j := fun i j hij hj => by
          rw [hw i (by omega), hw j hj]
          exact p1 i j (by omega) hj hij
        have hnn : ∀ i, i < ns.length → 0 ≤ Pt.w ns i := fun i hi => by
          rcases Nat.eq_zero_or_pos i with rfl | h
          · omega
          · have := hmono 0 i h hi; omega
        have hg : ∀ i, i < ns.length → (Pt.g (ns.map Int.toNat) i : Int) = Pt.w ns i := fun i hi => by
          have := hnn i hi
          rw [hw i hi] at this ⊢
          simp [Pt.g, hi]
          omega
        have hRD : ns.map PyData.int = RD (ns.map Int.toNat) := by
          show _ = (ns.map Int.toNat).map _
          rw [List.map_map]
          refine List.map_congr_left fun x hx => ?_
          obtain ⟨i, hi⟩ := List.getElem?_of_mem hx
          have hil : i < ns.length := (List.getElem?_eq_some_iff.mp hi).1
          have := hnn i hil
          rw [Pt.w, hi] at this
          simp only [Option.getD_some] at this
          show PyData.int x = PyData.int ((x.toNat : Nat) : Int)
          rw [Int.toNat_of_nonneg this]
        refine ⟨ns.map Int.toNat, by rw [hRD], .inr ⟨by simpa using hpos, ?_, fun t ht => ?_, fun t ht => ?_⟩, by simpa using hl⟩
        · have := hg 0 hpos; omega
        · rw [List.length_map] at ht
          have a := hg t (by omega)
          have b := hg (t + 1) ht
          have := hmono t (t + 1) (by omega) ht
          omega
        · rw [List.length_map] at ht
          have a := hg t ht
          rcases Nat.lt_or_ge t (ns.length - 1) with h | h
          · have := hmono t (ns.length - 1) h (by omega); omega
          · rw [show t = ns.length - 1 by omega] at a ⊢; omega
  | _ => simp [isP] at h
def isNil : D → Bool
  | .tuple [] => true
  | _ => false
theorem eqD_okv {c : D} (h : OkV c) : eqD c (.tuple []) = some (.bool (isNil c)) := by
  have h1 := shaped_okv h
  have h2 : SeqAt.shaped (.tuple []) = true := shaped_of rfl (by decide)
  unfold eqD
  rw [h1, h2]
  cases c with
  | tuple ds => cases ds <;> simp [PyData.eqv, PyData.eqvAll, isNil]
  | dict ks => exact h.elim
  | _ => simp [PyData.eqv, isNil]
theorem isNil_true {c : D} (h : isNil c = true) : c = .tuple [] := by
  cases c with
  | tuple ds => cases ds with
    | nil => rfl
    | cons => simp [isNil] at h
  | _ => simp [isNil] at h
def fullB (ws : List Int) (cs : List Nat) (most : Int) : Bool := (List.range (cs.length - 1)).all fun t => decide (most ≤ Pt.part ws cs t + Pt.w ws (Pt.g cs (t + 1)))
theorem fits_row {ws : List Int} {cs : List Nat} (h : Fits ws cs) {t : Nat} (ht : t < cs.length) : Pt.g cs t < ws.length := by
  rcases h with ⟨rfl, rfl⟩ | h
  · simp at ht
  · exact h.lt t ht
theorem part_ix {ws : List Int} {cs : List Nat} {t : Nat} (ht : t < cs.length) : (((Pt.sums ws cs).map PyData.int))[t]? = some (.int (Pt.part ws cs t)) := by simp [Pt.sums, ht]
def natOf : D → Nat
  | .int i => i.toNat
  | _ => 0
/-- what the judge says of a closer paper -/
def jcB (ws : List Int) (stages : Nat) (most : Int) (c : D) : Bool := if most = maxL (ws ++ [0]) then isNil c else isP ws.length ws.length c && (match c with
  | .tuple ds => decide (stages < ds.length) && fullB ws (ds.map natOf) most
  | _ => false)
theorem RD_back (cs : List Nat) : (RD cs).map natOf = cs := by
  rw [List.map_map]
  conv => rhs; rw [← List.map_id cs]
  exact List.map_congr_left fun x _ => rfl
theorem jcB_RD {ws : List Int} {stages : Nat} {most : Int} {cs : List Nat} (hm : most ≠ maxL (ws ++ [0])) (hp : isP ws.length ws.length (.tuple (RD cs)) = true) : jcB ws stages most (.tuple (RD cs)) = (decide (stages < cs.length) && fullB ws cs most) := by
  unfold jcB
  rw [if_neg hm, hp]
  simp only [Bool.true_and, RD_back, List.length_map]
theorem judge_closer_any {ws : List Int} {stages : Nat} {most : Int} {c : D} {dr : Dr} (hc : OkV c) (hl : ws.length < 1000) : m_judge_closer [WD ws, .int stages, .int most, c] dr = some (.bool (jcB ws stages most c), dr) := by
  have hm0 := maxD_list (ns := ws ++ [0]) (by simp)
  simp only [List.map_append, List.map_cons, List.map_nil] at hm0
  refine fnM_eq ?_
  unfold b_judge_closer
  by_cases hm : most = maxL (ws ++ [0])
  · have e : jcB ws stages most c = isNil c := by unfold jcB; rw [if_pos hm]
    simp -dsimp [hm0, ← hm, eqD_okv hc, e]
    omega
  · simp -dsimp [hm0, hm, is_parting_any (st := (ws.length : Int)) (dr := dr) hc hl]
    refine ⟨by omega, ?_⟩
    cases hp : isP ws.length ws.length c with
    | false =>
      have e : jcB ws stages most c = false := by unfold jcB; rw [if_neg hm, hp]; rfl
      simp -dsimp [e]
    | true =>
      obtain ⟨cs, rfl, hf, hcl⟩ := isP_true hc hp
      have e := jcB_RD (stages := stages) hm hp
      have hfl := hf.len
      by_cases hs : stages < cs.length
      · simp -dsimp [show ¬ cs.length ≤ stages by omega, parting_works_ev (dr := dr) hf hl]
        refine wm_lcmap (fun i : Nat => .int (i : Int)) (fun t : Nat => .bool (decide (most ≤ Pt.part ws cs t + Pt.w ws (Pt.g cs (t + 1))))) ⟨[.val (WD ws), .val (.int stages), .val (.int most), .val (.tuple (RD cs)), .val (.tuple ((Pt.sums ws cs).map .int)), .un, .un], dr⟩ (List.range (cs.length - 1)) (by simp; omega) ?_ ?_ ?_
        · have e : (cs.length : Int) - 1 = ((cs.length - 1 : Nat) : Int) := by omega
          simp -dsimp [e, rng1_nat (n := cs.length - 1) (by omega)]
        · intro t ht
          rw [List.mem_range] at ht
          have e1 := ixD_tuple (part_ix (ws := ws) (cs := cs) (t := t) (by omega))
          have e2 : ixD (.tuple (RD cs)) (.int ((t : Int) + 1)) = some (.int (Pt.g cs (t + 1))) := rd_ix (t := t + 1) (by omega)
          simp -dsimp [e1, e2, ws_ix (fits_row hf (t := t + 1) (by omega))]
        · simp -dsimp [allD_map (p := fun t : Nat => decide (most ≤ Pt.part ws cs t + Pt.w ws (Pt.g cs (t + 1)))), e, hs, fullB]
      · simp -dsimp [show cs.length ≤ stages by omega, e, hs]
/-- what it means -/
theorem jcB_sound {ws : List Int} {stages : Nat} {most m : Int} {c : D} (hc : OkV c) (hlow : Low ws stages m) (hst : (Pt.greedy ws m).length ≤ stages) (hn : ∀ x ∈ ws, 0 ≤ x) (h : jcB ws stages most c = true) : most ≤ m := by
  by_cases hm : most = maxL (ws ++ [0])
  · rw [hm]
    exact maxL0_le hlow.2.1 hlow.1
  · have h2 := h
    unfold jcB at h2
    rw [if_neg hm, Bool.and_eq_true] at h2
    obtain ⟨cs, rfl, hf, hcl⟩ := isP_true hc h2.1
    rw [jcB_RD hm h2.1, Bool.and_eq_true, decide_eq_true_iff] at h
    obtain ⟨h3, h4⟩ := h
    unfold fullB at h4
    rw [List.all_eq_true] at h4
    rcases hf with ⟨rfl, rfl⟩ | hf
    · simp at h3
    have hp : 0 < ws.length := by
      have := hf.lt 0 hf.pos
      omega
    obtain ⟨t, j, ht, hj, h5, h6⟩ := Pt.fewer hf (Pt.greedy_row m hp) (by omega)
    have h7 := h4 t (List.mem_range.mpr (by omega))
    rw [decide_eq_true_iff] at h7
    unfold Pt.part Pt.nx at h7
    rw [if_pos ht] at h7
    have a := Pt.p_mono hn h5
    have b := Pt.p_mono hn (show Pt.g cs (t + 1) + 1 ≤ Pt.nx ws.length (Pt.greedy ws m) j from h6)
    rw [Pt.p_succ] at b
    have d := Pt.greedy_le hp hlow.1 hlow.2.1 hj
    unfold Pt.part at d
    omega
end Wk
namespace Wk
open PySem PySem.Spec PyProof.Rows L2 Mi
theorem eqD_lnilF {xs : List D} (h : ∀ e ∈ xs, f3 e = true) : eqD (.list xs) (.list []) = some (.bool xs.isEmpty) := by
  have h1 : SeqAt.shaped (.list xs) = true := shaped_lay (lay_list fun e he => f3_lay (h e he)) (by decide)
  have h2 : SeqAt.shaped (.list []) = true := shaped_of rfl (by decide)
  unfold eqD
  rw [h1, h2]
  cases xs <;> simp [PyData.eqv, PyData.eqvAll]
theorem full_filter {ws : List Int} {cs : List Nat} {most : Int} {f : Nat → D} : (((List.range (cs.length - 1)).filter fun t => decide (Pt.part ws cs t + Pt.w ws (Pt.g cs (t + 1)) < most)).map f).isEmpty = fullB ws cs most := by
  rw [Bool.eq_iff_iff]
  unfold fullB
  rw [List.isEmpty_iff, List.map_eq_nil_iff, List.filter_eq_nil_iff, List.all_eq_true]
  constructor
  · intro h t ht
    have := h t ht
    simp only [decide_eq_true_eq] at this ⊢
    omega
  · intro h t ht
    have := h t ht
    simp only [decide_eq_true_eq] at this ⊢
    omega
theorem law_paper_int {ws : List Int} {stages : Nat} {most : Int} {b c : D} {dr : Dr} {bs : List Nat} (hc : OkV c) (hl : ws.length < 1000) (hb : OkV (.tuple (RD bs))) (hp : isP ws.length stages (.tuple (RD bs)) = true) (hf : Fits ws bs) (hmx : maxL (Pt.sums ws bs ++ [0]) = most) :
    m_law_paper [WD ws, .int stages, .tuple [.int most, .tuple (RD bs), c]] dr = some (.bool (jcB ws stages most c), dr) := by
  have hm0 := maxD_list (ns := ws ++ [0]) (by simp)
  simp only [List.map_append, List.map_cons, List.map_nil] at hm0
  have hms := maxD_list (ns := Pt.sums ws bs ++ [0]) (by simp)
  rw [hmx] at hms
  simp only [List.map_append, List.map_cons, List.map_nil] at hms
  have hsl : (Pt.sums ws bs).length = bs.length := by simp [Pt.sums]
  have hbl := hf.len
  have ix0 : ixD (.tuple [.int most, .tuple (RD bs), c]) (.int 0) = some (.int most) := rfl
  refine fnM_eq ?_
  unfold b_law_paper
  simp -dsimp [isi_tuple, ix0, isi_i, isi_b, law_parting_any (dr := dr) hb hl, hp, law_sums_ev (dr := dr) hf hl, hms, hsl, hm0]
  refine ⟨by omega, by omega, ?_⟩
  by_cases hm : most = maxL (ws ++ [0])
  · have e : jcB ws stages most c = isNil c := by unfold jcB; rw [if_pos hm]
    simp -dsimp [← hm, eqD_okv hc, e]
    cases hn : isNil c with
    | false => simp -dsimp
    | true =>
      have := isNil_true hn
      subst this
      rw [hn] at e
      simp -dsimp [isi_tuple, e]
  · simp -dsimp [hm, law_parting_any (st := (ws.length : Int)) (dr := dr) hc hl]
    cases hp2 : isP ws.length ws.length c with
    | false =>
      have e : jcB ws stages most c = false := by unfold jcB; rw [if_neg hm, hp2]; rfl
      simp -dsimp [e]
    | true =>
      obtain ⟨cs, rfl, hfc, hcl⟩ := isP_true hc hp2
      have e := jcB_RD (stages := stages) hm hp2
      have hfl := hfc.len
      by_cases hs : stages < cs.length
      · simp -dsimp [show ¬ cs.length ≤ stages by omega, law_sums_ev (dr := dr) hfc hl]
        refine wm_lcfil (fun i : Nat => .int (i : Int)) (fun t : Nat => decide (Pt.part ws cs t + Pt.w ws (Pt.g cs (t + 1)) < most)) (fun t : Nat => .int (t : Int)) ⟨[.val (WD ws), .val (.int stages), .val (.tuple [.int most, .tuple (RD bs), .tuple (RD cs)]), .val (.int most), .val (.tuple (RD bs)), .val (.tuple (RD cs)), .val (.list ((Pt.sums ws cs).map .int)), .un], dr⟩ (List.range (cs.length - 1)) (by simp; omega) ?_ ?_ ?_
        · have e : (cs.length : Int) - 1 = ((cs.length - 1 : Nat) : Int) := by omega
          simp -dsimp [e, rng1_nat (n := cs.length - 1) (by omega)]
        · intro t ht
          rw [List.mem_range] at ht
          have e1 := ixD_list (part_ix (ws := ws) (cs := cs) (t := t) (by omega))
          have e2 : ixD (.tuple (RD cs)) (.int ((t : Int) + 1)) = some (.int (Pt.g cs (t + 1))) := rd_ix (t := t + 1) (by omega)
          simp -dsimp [e1, e2, ws_ix (fits_row hfc (t := t + 1) (by omega))]
        · have h3 : ∀ e ∈ ((List.range (cs.length - 1)).filter fun t => decide (Pt.part ws cs t + Pt.w ws (Pt.g cs (t + 1)) < most)).map (fun t : Nat => PyData.int (t : Int)), f3 e = true := by
            intro e he
            rw [List.mem_map] at he
            obtain ⟨t, _, rfl⟩ := he
            rfl
          have h4 := eqD_lnilF h3
          rw [full_filter] at h4
          simp -dsimp [h4, e, hs]
      · simp -dsimp [show cs.length ≤ stages by omega, e, hs]
theorem judge_any {ws : List Int} {stages : Nat} {m : Int} {a b c : D} (ha : OkV a) (hb : OkV b) (hc : OkV c) (hl : ws.length < 1000) (hn : ∀ x ∈ ws, 0 ≤ x) (hlow : Low ws stages m) (hst : (Pt.greedy ws m).length ≤ stages) :
    ∃ t, (∀ dr, m_judge_parting [WD ws, .int stages, .tuple [a, b, c]] dr = some (.bool t, dr)) ∧ (∀ dr, m_law_paper [WD ws, .int stages, .tuple [a, b, c]] dr = some (.bool t, dr)) ∧ (t = true → a = .int m) := by
  have ix0 : ∀ a b c : D, ixD (.tuple [a, b, c]) (.int 0) = some a := fun _ _ _ => rfl
  have hno : (∃ most, a = .int most) ∨ ((isiN "int" a = some (.bool false) ∧ isiN "bool" a = some (.bool false)) ∨ (isiN "int" a = some (.bool true) ∧ isiN "bool" a = some (.bool true))) := by
    cases a with
    | int i => exact .inl ⟨i, rfl⟩
    | none => exact .inr (.inl ⟨isiI_none, isiB_none⟩)
    | bool b => exact .inr (.inr ⟨isiI_bool, isiB_bool⟩)
    | str x => exact .inr (.inl ⟨isiI_str, isiB_str⟩)
    | list x => exact .inr (.inl ⟨isiI_list, isiB_list⟩)
    | tuple x => exact .inr (.inl ⟨isiI_tuple, isiB_tuple⟩)
    | dict x => exact ha.elim
  rcases hno with ⟨most, rfl⟩ | hno
  · cases hp : isP ws.length stages b with
    | false =>
      refine ⟨false, fun dr => ?_, fun dr => ?_, fun h => by cases h⟩
      · refine fnM_eq ?_
        unfold b_judge_parting
        simp -dsimp [isi_tuple, ix0, isi_i, isi_b, is_parting_any (st := (stages : Int)) (dr := dr) hb hl, hp]
      · refine fnM_eq ?_
        unfold b_law_paper
        simp -dsimp [isi_tuple, ix0, isi_i, isi_b, law_parting_any (st := (stages : Int)) (dr := dr) hb hl, hp]
    | true =>
      obtain ⟨bs, rfl, hf, hbl⟩ := isP_true hb hp
      have hsl : (Pt.sums ws bs).length = bs.length := by simp [Pt.sums]
      have hfl := hf.len
      have hmt := maxD_tuple (ns := Pt.sums ws bs ++ [0]) (by simp)
      simp only [List.map_append, List.map_cons, List.map_nil] at hmt
      have hml := maxD_list (ns := Pt.sums ws bs ++ [0]) (by simp)
      simp only [List.map_append, List.map_cons, List.map_nil] at hml
      by_cases hmx : maxL (Pt.sums ws bs ++ [0]) = most
      · rw [hmx] at hmt
        refine ⟨jcB ws stages most c, fun dr => ?_, fun dr => law_paper_int (b := .none) hc hl hb hp hf hmx, fun h => ?_⟩
        · refine fnM_eq ?_
          unfold b_judge_parting
          simp -dsimp [isi_tuple, ix0, isi_i, isi_b, is_parting_any (st := (stages : Int)) (dr := dr) hb hl, hp, parting_works_ev (dr := dr) hf hl, hmt, hsl, judge_closer_any (stages := stages) (most := most) (dr := dr) hc hl]
          omega
        · have h1 := jcB_sound hc hlow hst hn h
          have h2 : m ≤ most := by
            rcases hf with ⟨rfl, rfl⟩ | hf
            · rw [hlow.2.2.2 rfl, ← hmx]
              exact maxL0_nn
            · rw [← hmx]
              exact hlow.2.2.1 bs hf (by omega)
          rw [show most = m by omega]
      · refine ⟨false, fun dr => ?_, fun dr => ?_, fun h => by cases h⟩
        · refine fnM_eq ?_
          unfold b_judge_parting
          simp -dsimp [isi_tuple, ix0, isi_i, isi_b, is_parting_any (st := (stages : Int)) (dr := dr) hb hl, hp, parting_works_ev (dr := dr) hf hl, hmt, hsl, hmx]
          omega
        · refine fnM_eq ?_
          unfold b_law_paper
          simp -dsimp [isi_tuple, ix0, isi_i, isi_b, law_parting_any (st := (stages : Int)) (dr := dr) hb hl, hp, law_sums_ev (dr := dr) hf hl, hml, hsl, hmx]
          omega
  · refine ⟨false, fun dr => ?_, fun dr => ?_, fun h => by cases h⟩
    · refine fnM_eq ?_
      unfold b_judge_parting
      rcases hno with ⟨h1, h2⟩ | ⟨h1, h2⟩ <;> simp -dsimp [isi_tuple, ix0, h1, h2]
    · refine fnM_eq ?_
      unfold b_law_paper
      rcases hno with ⟨h1, h2⟩ | ⟨h1, h2⟩ <;> simp -dsimp [isi_tuple, ix0, h1, h2]
theorem judge_notT {ws : List Int} {stages : Nat} {v : D} {dr : Dr} (h : isiN "tuple" v = some (.bool false)) : m_judge_parting [WD ws, .int stages, v] dr = some (.bool false, dr) ∧ m_law_paper [WD ws, .int stages, v] dr = some (.bool false, dr) := by
  constructor
  · refine fnM_eq ?_
    unfold b_judge_parting
    simp -dsimp [h]
  · refine fnM_eq ?_
    unfold b_law_paper
    simp -dsimp [h]
theorem judge_not3 {ws : List Int} {stages : Nat} {ds : List D} {dr : Dr} (h : ds.length ≠ 3) : m_judge_parting [WD ws, .int stages, .tuple ds] dr = some (.bool false, dr) ∧ m_law_paper [WD ws, .int stages, .tuple ds] dr = some (.bool false, dr) := by
  have h' : ¬ ((ds.length : Int) = 3) := by omega
  constructor
  · refine fnM_eq ?_
    unfold b_judge_parting
    simp -dsimp [isi_tuple, h, h']
  · refine fnM_eq ?_
    unfold b_law_paper
    simp -dsimp [isi_tuple, h, h']
/-- a row's value: no tuple, none of three, or three of a kind -/
def RowV (v : D) : Prop := isiN "tuple" v = some (.bool false) ∨ (∃ ds, v = .tuple ds ∧ ds.length ≠ 3) ∨ ∃ a b c, v = .tuple [a, b, c] ∧ OkV a ∧ OkV b ∧ OkV c
theorem row_any {ws : List Int} {stages : Nat} {m : Int} {v : D} (hv : RowV v) (hl : ws.length < 1000) (hn : ∀ x ∈ ws, 0 ≤ x) (hlow : Low ws stages m) (hst : (Pt.greedy ws m).length ≤ stages) :
    ∃ t, (∀ dr, m_judge_parting [WD ws, .int stages, v] dr = some (.bool t, dr)) ∧ (∀ dr, m_law_paper [WD ws, .int stages, v] dr = some (.bool t, dr)) ∧ (t = true → ixD v (.int 0) = some (.int m)) := by
  rcases hv with h | ⟨ds, rfl, h⟩ | ⟨a, b, c, rfl, ha, hb, hc⟩
  · exact ⟨false, fun dr => (judge_notT h).1, fun dr => (judge_notT h).2, fun h => by cases h⟩
  · exact ⟨false, fun dr => (judge_not3 h).1, fun dr => (judge_not3 h).2, fun h => by cases h⟩
  · obtain ⟨t, h1, h2, h3⟩ := judge_any ha hb hc hl hn hlow hst
    exact ⟨t, h1, h2, fun h => by rw [h3 h]; rfl⟩
end Wk
namespace Wk
open PySem PySem.Spec PyProof.Rows L2 Mi
def odds : List D := [.none, .bool true, .int 0, .int 1, .int (-1), .tuple [], .tuple [.int 0], .tuple [.int 0, .int 1], .tuple [.int 0, .int 2], .tuple [.int 1], .tuple [.int 0, .int 0], .tuple [.bool true], .list [.int 0], .str "0", .tuple [.int 0, .int 1, .int 2], .tuple [.int 0, .int 2, .int 3], .tuple [.none], .tuple [.int 0, .int 99]]
theorem okv_ints {ns : List Int} (h : ns.length < 50) : OkV (.tuple (ns.map .int)) := ⟨fun e he => by
  rw [List.mem_map] at he
  obtain ⟨x, _, rfl⟩ := he
  rfl, by simpa using h⟩
theorem odds_ok : ∀ d ∈ odds, OkV d ∧ RowV d := by
  intro d hd
  have h2 : ∀ ns : List Int, ns.length < 50 → ns.length ≠ 3 → OkV (.tuple (ns.map .int)) ∧ RowV (.tuple (ns.map .int)) := fun ns h h3 => ⟨okv_ints h, .inr (.inl ⟨_, rfl, by simpa using h3⟩)⟩
  simp only [odds, List.mem_cons, List.not_mem_nil, or_false] at hd
  rcases hd with rfl | rfl | rfl | rfl | rfl | rfl | rfl | rfl | rfl | rfl | rfl | rfl | rfl | rfl | rfl | rfl | rfl | rfl
  · exact ⟨trivial, .inl isiT_none⟩
  · exact ⟨trivial, .inl isiT_bool⟩
  · exact ⟨trivial, .inl isiT_int⟩
  · exact ⟨trivial, .inl isiT_int⟩
  · exact ⟨trivial, .inl isiT_int⟩
  · exact h2 [] (by decide) (by decide)
  · exact h2 [0] (by decide) (by decide)
  · exact h2 [0, 1] (by decide) (by decide)
  · exact h2 [0, 2] (by decide) (by decide)
  · exact h2 [1] (by decide) (by decide)
  · exact h2 [0, 0] (by decide) (by decide)
  · exact ⟨⟨fun e he => by rw [List.mem_singleton] at he; subst he; rfl, by decide⟩, .inr (.inl ⟨_, rfl, by decide⟩)⟩
  · exact ⟨fun e he => by rw [List.mem_singleton] at he; subst he; rfl, .inl isiT_list⟩
  · exact ⟨by show (PyData.str "0").canLay0 = true; decide +kernel, .inl isiT_str⟩
  · exact ⟨okv_ints (ns := [0, 1, 2]) (by decide), .inr (.inr ⟨_, _, _, rfl, trivial, trivial, trivial⟩)⟩
  · exact ⟨okv_ints (ns := [0, 2, 3]) (by decide), .inr (.inr ⟨_, _, _, rfl, trivial, trivial, trivial⟩)⟩
  · exact ⟨⟨fun e he => by rw [List.mem_singleton] at he; subst he; rfl, by decide⟩, .inr (.inl ⟨_, rfl, by decide⟩)⟩
  · exact h2 [0, 99] (by decide) (by decide)
theorem law_odd_ev {dr : Dr} : WO (m_law_odd [.dict []] dr) fun z => OkV z.1 ∧ RowV z.1 := by
  refine fnM_wo ?_
  unfold b_law_odd
  simp -dsimp
  refine draw_w (by decide) (by decide) fun k dr1 k0 k1 => ?_
  obtain ⟨k, rfl⟩ := Int.eq_ofNat_of_zero_le k0
  have hk : k < odds.length := by show k < 18; omega
  have hx := List.getElem?_eq_getElem hk
  have hi : ixD (.list odds) (.int (k : Int)) = some odds[k] := ixD_list hx
  have ho := odds_ok odds[k] (List.mem_of_getElem? hx)
  generalize odds[k] = x at hi ho
  unfold odds at hi
  simp -dsimp [hi]
  exact ho
theorem sl_p {a b c : D} : slA (.tuple [a, b, c]) none (some 0) = some (.tuple []) ∧ slA (.tuple [a, b, c]) none (some 1) = some (.tuple [a]) ∧ slA (.tuple [a, b, c]) none (some 2) = some (.tuple [a, b])
    ∧ slA (.tuple [a, b, c]) (some 1) none = some (.tuple [b, c]) ∧ slA (.tuple [a, b, c]) (some 2) none = some (.tuple [c]) ∧ slA (.tuple [a, b, c]) (some 3) none = some (.tuple []) := ⟨rfl, rfl, rfl, rfl, rfl, rfl⟩
theorem paper_ok {ws : List Int} {m : Int} (hl : ws.length < 40) : ∃ b c, paper ws m = .tuple [.int m, b, c] ∧ OkV b ∧ OkV c := by
  have key : ∀ m, OkV (.tuple (RD (Pt.greedy ws m))) := fun m => ⟨fun e he => by
    rw [List.mem_map] at he
    obtain ⟨x, _, rfl⟩ := he
    rfl, by have := (greedy_fits ws m).len; simp; omega⟩
  refine ⟨_, _, rfl, key m, ?_⟩
  unfold closer
  split
  · exact okv_ints (ns := []) (by decide)
  · exact key _
theorem neD_bool {a b : Bool} : neD (.bool a) (.bool b) = some (.bool (!(a == b))) := by simp [neD, SeqAt.shaped, PyData.canLay0, PyData.depth, PyData.eqv]
theorem law_true (ns : List Int) (_ : ns.length ≤ 63) : ∃ dr, f_law (drOf ns) = .rt (.bool true) dr := by
  refine of_W ?_
  unfold f_law b_law
  simp -dsimp
  refine w_forN (fun i : Nat => .int i) (fun i μ => ∃ a2 a3 a4 a5 a6 a7 a8 a9 dr', μ = ⟨[.un, .val (.dict []), a2, a3, a4, a5, a6, a7, a8, a9, .un], dr'⟩) (List.range 20) ?_ ?_ ?_
  · simp -dsimp [show rng1 [.int 20] = some ((List.range 20).map fun (i : Nat) => .int (i : Int)) from rng1_nat (n := 20) (by decide)]
  · rintro i x μ hi ⟨a2, a3, a4, a5, a6, a7, a8, a9, dr', rfl⟩
    simp -dsimp
    refine wm_lcD 7 (by decide) [.un, .val (.dict []), .val (.int x), a3, a4, a5, a6, a7, a8, a9, .un] [.un, .val (.dict []), .val (.int x), a3, a4, a5, a6, a7, a8, a9, .un] (fun k => 0 ≤ k ∧ k ≤ 8) ?_ (fun _ => rfl) ?_ ?_
    · simp -dsimp
      refine draw_w (by decide) (by decide) fun d dr1 d0 d1 => ?_
      simp -dsimp [rng1_int d0 (show d < 2 ^ 62 by omega)]
      exact ⟨d.toNat, by omega, rfl⟩
    · intro i dr1 hi
      simp -dsimp
      refine draw_w (by decide) (by decide) fun d dr2 d0 d1 => ?_
      simp -dsimp
      omega
    · intro ws hl hw dr1 dr2
      have hn : ∀ x ∈ ws, 0 ≤ x := fun x hx => (hw x hx).1
      have hl' : ws.length < 1000 := by omega
      have hp : Pt.p ws ws.length < 1000 := by
        have key : ∀ i, Pt.p ws i ≤ 8 * i := by
          intro i
          induction i with
          | zero => simp [Pt.p_zero]
          | succ i ih =>
            have := Pt.w_le (fun x hx => (hw x hx).2) (by decide) i
            rw [Pt.p_succ]
            omega
        have := key ws.length
        omega
      simp -dsimp
      refine draw_w (by decide) (by decide) fun sg dr3 s0 s1 => ?_
      obtain ⟨stages, hsg⟩ : ∃ stages : Nat, 1 + sg = (stages : Int) := ⟨(1 + sg).toNat, by omega⟩
      have hs : 0 < stages := by omega
      obtain ⟨m, hbm, hlow, hst⟩ := best_most_ev (ws := ws) (stages := stages) (dr := dr3) hn hs hl' hp
      obtain ⟨b, c, hpe, hb, hc⟩ := paper_ok (ws := ws) (m := m) (by omega)
      have hpp := best_parting_ev (ws := ws) hl' hbm
      rw [hpe] at hpp
      obtain ⟨p0, p1, p2, q1, q2, q3⟩ := sl_p (a := .int m) (b := b) (c := c)
      have ha : OkV (.int m) := trivial
      simp -dsimp [hsg, hpp]
      refine WO_mono law_odd_ev ?_
      rintro ⟨od, dr4⟩ ⟨ho1, ho2⟩
      refine un_go ?_
      simp only at ho1 ho2
      simp -dsimp [p2]
      refine w_forN (fun i : Nat => .int i) (fun i μ => ∃ vs a7 dr', (∀ v ∈ vs, RowV v) ∧ vs.length = 5 + i ∧ μ = ⟨[.un, .val (.dict []), .val (.int x), .val (WD ws), .val (.int stages), .val (.tuple [.int m, b, c]), .own vs, a7, a8, a9, .un], dr'⟩) (List.range 3) ?_ ?_ ?_
      · simp -dsimp [show rng1 [.int 3] = some ((List.range 3).map fun (i : Nat) => .int (i : Int)) from rng1_nat (n := 3) (by decide)]
        exact ⟨.inr (.inr ⟨_, _, _, rfl, ha, hb, hc⟩), ho2, .inl isiT_list, .inr (.inl ⟨_, rfl, by simp⟩), .inr (.inl ⟨_, rfl, by simp⟩)⟩
      · rintro i y μ hi ⟨vs, a7, dr5, hv, hvl, rfl⟩
        obtain ⟨rfl, hi'⟩ := range_get hi
        have hcase : i = 0 ∨ i = 1 ∨ i = 2 := by omega
        rcases hcase with rfl | rfl | rfl
        · simp -dsimp [p0, q1]
          refine WO_mono law_odd_ev ?_
          rintro ⟨od, dr6⟩ ⟨ho1, ho2⟩
          refine un_go ?_
          simp only at ho1 ho2
          simp -dsimp [q1]
          refine ⟨by omega, ?_, by omega⟩
          intro v hv2
          rcases hv2 with h | rfl
          · exact hv v h
          · exact .inr (.inr ⟨_, _, _, rfl, ho1, hb, hc⟩)
        · simp -dsimp [p1, q2]
          refine WO_mono law_odd_ev ?_
          rintro ⟨od, dr6⟩ ⟨ho1, ho2⟩
          refine un_go ?_
          simp only at ho1 ho2
          simp -dsimp [q2]
          refine ⟨by omega, ?_, by omega⟩
          intro v hv2
          rcases hv2 with h | rfl
          · exact hv v h
          · exact .inr (.inr ⟨_, _, _, rfl, ha, ho1, hc⟩)
        · simp -dsimp [p2, q3]
          refine WO_mono law_odd_ev ?_
          rintro ⟨od, dr6⟩ ⟨ho1, ho2⟩
          refine un_go ?_
          simp only at ho1 ho2
          simp -dsimp [q3]
          refine ⟨by omega, ?_, by omega⟩
          intro v hv2
          rcases hv2 with h | rfl
          · exact hv v h
          · exact .inr (.inr ⟨_, _, _, rfl, ha, hb, ho1⟩)
      · rintro μ ⟨vs, a7, dr5, hv, hvl, rfl⟩
        simp only [List.length_range] at hvl
        have i0 : ixD (.tuple [.int m, b, c]) (.int 0) = some (.int m) := rfl
        have i1 : ixD (.tuple [.int m, b, c]) (.int 1) = some b := rfl
        have i2 : ixD (.tuple [.int m, b, c]) (.int 2) = some c := rfl
        simp -dsimp [i0, i1]
        refine wm_lcc (fun i : Nat => .int (i : Int)) ⟨[.un, .val (.dict []), .val (.int x), .val (WD ws), .val (.int stages), .val (.tuple [.int m, b, c]), .own vs, a7, a8, a9, .un], dr5⟩ (fun i acc μ => ∃ (ks : List Int) (dr' : Dr), acc = ks.map .int ∧ ks.length ≤ i ∧ μ = ⟨[.un, .val (.dict []), .val (.int x), .val (WD ws), .val (.int stages), .val (.tuple [.int m, b, c]), .own vs, a7, a8, a9, .un], dr'⟩) (List.range ws.length) (by simp; omega) ?_ ?_ ?_ ?_
        · simp -dsimp [rng1_nat (n := ws.length) (by omega)]
        · simp -dsimp
        · rintro i y acc μ hy ha ⟨ks, dr6, rfl, hk, rfl⟩
          obtain ⟨rfl, hi'⟩ := range_get hy
          simp -dsimp
          by_cases h0 : i = 0
          · simp -dsimp [h0]
            exact ⟨ks ++ [0], by simp, by rw [List.length_append, List.length_singleton]; omega⟩
          · simp -dsimp [h0]
            refine draw_w (by decide) (by decide) fun d dr7 d0 d1 => ?_
            by_cases hd : 0 < d
            · simp -dsimp [hd]
              exact ⟨ks ++ [(i : Int)], by simp, by rw [List.length_append, List.length_singleton]; omega⟩
            · simp -dsimp [hd]
              exact ⟨ks, rfl, by omega⟩
        · rintro acc μ2 ⟨ks, dr6, rfl, hk, rfl⟩
          rw [List.length_range] at hk
          simp -dsimp [i0, i1, i2]
          refine ⟨by omega, by omega, ?_⟩
          obtain ⟨vs2, hvs2⟩ : ∃ vs2, vs2 = vs ++ [.tuple [.int m, b, .tuple (ks.map .int)], .tuple [.int (m + 1), b, c]] := ⟨_, rfl⟩
          have hrow : ∀ v ∈ vs2, RowV v := by
            intro v hv2
            rw [hvs2] at hv2
            simp only [List.mem_append, List.mem_cons, List.not_mem_nil, or_false] at hv2
            rcases hv2 with h | rfl | rfl
            · exact hv v h
            · exact .inr (.inr ⟨_, _, _, rfl, ha, hb, okv_ints (by omega)⟩)
            · exact .inr (.inr ⟨_, _, _, rfl, trivial, hb, hc⟩)
          refine w_forN (fun v : D => v) (fun i μ => ∃ a6 a8 a9 dr', μ = ⟨[.un, .val (.dict []), .val (.int x), .val (WD ws), .val (.int stages), .val (.tuple [.int m, b, c]), a6, a7, a8, a9, .un], dr'⟩) vs2 ?_ ?_ ?_
          · simp -dsimp [hvs2]
          · rintro i v μ hv2 ⟨a6, a8, a9, dr7, rfl⟩
            obtain ⟨t, h1, h2, h3⟩ := row_any (stages := stages) (hrow v (List.mem_of_getElem? hv2)) hl' hn hlow hst
            cases t with
            | false => simp -dsimp [h1, h2, neD_bool]
            | true => simp -dsimp [h1, h2, h3 rfl, i0, neD_bool]
          · rintro μ ⟨a6, a8, a9, dr7, rfl⟩
            simp -dsimp
  · rintro μ ⟨a2, a3, a4, a5, a6, a7, a8, a9, dr', rfl⟩
    simp -dsimp
end Wk
namespace Wk
open PySem PySem.Spec PyProof.Rows L2 Mi
theorem all_mk {l : PySem.W.OpenLaw} {w : World} {K : PySem.W.Frag} {h : Heap} {mg : Str → Option Value} {fa : Addr} (X : K.In h) (G : h.Ns mainGlobals mg) (hfa : mg "law" = some (.ref fa))
    {od1 an1 : Option Addr} {sl1 : Array (Option Value)} {oc1 kV1 dc1 pm1 cd1 ct1 : Value} {f1 : Addr}
    {od2 an2 : Option Addr} {sl2 : Array (Option Value)} {oc2 kV2 dc2 pm2 cd2 ct2 : Value} {f2 : Addr}
    {od3 an3 : Option Addr} {sl3 : Array (Option Value)} {oc3 kV3 dc3 pm3 cd3 ct3 : Value} {f3 : Addr}
    {od4 an4 : Option Addr} {sl4 : Array (Option Value)} {oc4 kV4 dc4 pm4 cd4 ct4 : Value} {f4 : Addr}
    {od5 an5 : Option Addr} {sl5 : Array (Option Value)} {oc5 kV5 dc5 pm5 cd5 ct5 : Value} {f5 : Addr}
    {od6 an6 : Option Addr} {sl6 : Array (Option Value)} {oc6 kV6 dc6 pm6 cd6 ct6 : Value} {f6 : Addr}
    {od7 an7 : Option Addr} {sl7 : Array (Option Value)} {oc7 kV7 dc7 pm7 cd7 ct7 : Value} {f7 : Addr}
    {od9 an9 : Option Addr} {sl9 : Array (Option Value)} {oc9 kV9 dc9 pm9 cd9 ct9 : Value} {f9 : Addr}
    {od10 an10 : Option Addr} {sl10 : Array (Option Value)} {oc10 kV10 dc10 pm10 cd10 ct10 : Value} {f10 : Addr}
    {od11 an11 : Option Addr} {sl11 : Array (Option Value)} {oc11 kV11 dc11 pm11 cd11 ct11 : Value} {f11 : Addr}
    {od12 an12 : Option Addr} {sl12 : Array (Option Value)} {oc12 kV12 dc12 pm12 cd12 ct12 : Value} {f12 : Addr}
    {od13 an13 : Option Addr} {sl13 : Array (Option Value)} {oc13 kV13 dc13 pm13 cd13 ct13 : Value} {f13 : Addr}
    {od14 an14 : Option Addr} {sl14 : Array (Option Value)} {oc14 kV14 dc14 pm14 cd14 ct14 : Value} {f14 : Addr}
    {od15 an15 : Option Addr} {sl15 : Array (Option Value)} {oc15 kV15 dc15 pm15 cd15 ct15 : Value} {f15 : Addr}
    (a1 : PySem.W.nsIn K mainGlobals "greedy_parting" = some (some (.ref f1))) (l1 : K.lookup f1 = some ⟨oc1, od1, .func (PySem.W.fnOf "greedy_parting" "greedy_parting" (defArgs (topS 1)) (defBody (topS 1)) (defScope (topS 1)) .none kV1 dc1 pm1 an1 cd1 ct1), sl1⟩) (c1 : PySem.W.codeIn K cd1 "greedy_parting" = true) (k1 : PySem.W.keepIn K (.ref f1) = true)
    (a2 : PySem.W.nsIn K mainGlobals "parting_works" = some (some (.ref f2))) (l2 : K.lookup f2 = some ⟨oc2, od2, .func (PySem.W.fnOf "parting_works" "parting_works" (defArgs (topS 2)) (defBody (topS 2)) (defScope (topS 2)) .none kV2 dc2 pm2 an2 cd2 ct2), sl2⟩) (c2 : PySem.W.codeIn K cd2 "parting_works" = true) (k2 : PySem.W.keepIn K (.ref f2) = true)
    (a3 : PySem.W.nsIn K mainGlobals "best_most" = some (some (.ref f3))) (l3 : K.lookup f3 = some ⟨oc3, od3, .func (PySem.W.fnOf "best_most" "best_most" (defArgs (topS 3)) (defBody (topS 3)) (defScope (topS 3)) .none kV3 dc3 pm3 an3 cd3 ct3), sl3⟩) (c3 : PySem.W.codeIn K cd3 "best_most" = true) (k3 : PySem.W.keepIn K (.ref f3) = true)
    (a4 : PySem.W.nsIn K mainGlobals "best_parting" = some (some (.ref f4))) (l4 : K.lookup f4 = some ⟨oc4, od4, .func (PySem.W.fnOf "best_parting" "best_parting" (defArgs (topS 4)) (defBody (topS 4)) (defScope (topS 4)) .none kV4 dc4 pm4 an4 cd4 ct4), sl4⟩) (c4 : PySem.W.codeIn K cd4 "best_parting" = true) (k4 : PySem.W.keepIn K (.ref f4) = true)
    (a5 : PySem.W.nsIn K mainGlobals "is_parting" = some (some (.ref f5))) (l5 : K.lookup f5 = some ⟨oc5, od5, .func (PySem.W.fnOf "is_parting" "is_parting" (defArgs (topS 5)) (defBody (topS 5)) (defScope (topS 5)) .none kV5 dc5 pm5 an5 cd5 ct5), sl5⟩) (c5 : PySem.W.codeIn K cd5 "is_parting" = true) (k5 : PySem.W.keepIn K (.ref f5) = true)
    (a6 : PySem.W.nsIn K mainGlobals "judge_parting" = some (some (.ref f6))) (l6 : K.lookup f6 = some ⟨oc6, od6, .func (PySem.W.fnOf "judge_parting" "judge_parting" (defArgs (topS 6)) (defBody (topS 6)) (defScope (topS 6)) .none kV6 dc6 pm6 an6 cd6 ct6), sl6⟩) (c6 : PySem.W.codeIn K cd6 "judge_parting" = true) (k6 : PySem.W.keepIn K (.ref f6) = true)
    (a7 : PySem.W.nsIn K mainGlobals "judge_closer" = some (some (.ref f7))) (l7 : K.lookup f7 = some ⟨oc7, od7, .func (PySem.W.fnOf "judge_closer" "judge_closer" (defArgs (topS 7)) (defBody (topS 7)) (defScope (topS 7)) .none kV7 dc7 pm7 an7 cd7 ct7), sl7⟩) (c7 : PySem.W.codeIn K cd7 "judge_closer" = true) (k7 : PySem.W.keepIn K (.ref f7) = true)
    (a9 : PySem.W.nsIn K mainGlobals "_law_state" = some (some (.ref f9))) (l9 : K.lookup f9 = some ⟨oc9, od9, .func (PySem.W.fnOf "_law_state" "_law_state" (defArgs (topS 9)) (defBody (topS 9)) (defScope (topS 9)) .none kV9 dc9 pm9 an9 cd9 ct9), sl9⟩) (c9 : PySem.W.codeIn K cd9 "_law_state" = true) (k9 : PySem.W.keepIn K (.ref f9) = true)
    (a10 : PySem.W.nsIn K mainGlobals "_law_draw" = some (some (.ref f10))) (l10 : K.lookup f10 = some ⟨oc10, od10, .func (PySem.W.fnOf "_law_draw" "_law_draw" (defArgs (topS 10)) (defBody (topS 10)) (defScope (topS 10)) .none kV10 dc10 pm10 an10 cd10 ct10), sl10⟩) (c10 : PySem.W.codeIn K cd10 "_law_draw" = true) (k10 : PySem.W.keepIn K (.ref f10) = true)
    (a11 : PySem.W.nsIn K mainGlobals "_law_sums" = some (some (.ref f11))) (l11 : K.lookup f11 = some ⟨oc11, od11, .func (PySem.W.fnOf "_law_sums" "_law_sums" (defArgs (topS 11)) (defBody (topS 11)) (defScope (topS 11)) .none kV11 dc11 pm11 an11 cd11 ct11), sl11⟩) (c11 : PySem.W.codeIn K cd11 "_law_sums" = true) (k11 : PySem.W.keepIn K (.ref f11) = true)
    (a12 : PySem.W.nsIn K mainGlobals "_law_parting" = some (some (.ref f12))) (l12 : K.lookup f12 = some ⟨oc12, od12, .func (PySem.W.fnOf "_law_parting" "_law_parting" (defArgs (topS 12)) (defBody (topS 12)) (defScope (topS 12)) .none kV12 dc12 pm12 an12 cd12 ct12), sl12⟩) (c12 : PySem.W.codeIn K cd12 "_law_parting" = true) (k12 : PySem.W.keepIn K (.ref f12) = true)
    (a13 : PySem.W.nsIn K mainGlobals "_law_paper" = some (some (.ref f13))) (l13 : K.lookup f13 = some ⟨oc13, od13, .func (PySem.W.fnOf "_law_paper" "_law_paper" (defArgs (topS 13)) (defBody (topS 13)) (defScope (topS 13)) .none kV13 dc13 pm13 an13 cd13 ct13), sl13⟩) (c13 : PySem.W.codeIn K cd13 "_law_paper" = true) (k13 : PySem.W.keepIn K (.ref f13) = true)
    (a14 : PySem.W.nsIn K mainGlobals "_law_odd" = some (some (.ref f14))) (l14 : K.lookup f14 = some ⟨oc14, od14, .func (PySem.W.fnOf "_law_odd" "_law_odd" (defArgs (topS 14)) (defBody (topS 14)) (defScope (topS 14)) .none kV14 dc14 pm14 an14 cd14 ct14), sl14⟩) (c14 : PySem.W.codeIn K cd14 "_law_odd" = true) (k14 : PySem.W.keepIn K (.ref f14) = true)
    (a15 : PySem.W.nsIn K mainGlobals "law" = some (some (.ref f15))) (l15 : K.lookup f15 = some ⟨oc15, od15, .func (PySem.W.fnOf "law" "law" (defArgs (topS 15)) (defBody (topS 15)) (defScope (topS 15)) .none kV15 dc15 pm15 an15 cd15 ct15), sl15⟩) (c15 : PySem.W.codeIn K cd15 "law" = true) (k15 : PySem.W.keepIn K (.ref f15) = true)
    (z_abs : PySem.W.nsIn K mainGlobals "abs" = some none)
    (z_all : PySem.W.nsIn K mainGlobals "all" = some none)
    (z_any : PySem.W.nsIn K mainGlobals "any" = some none)
    (z_bool : PySem.W.nsIn K mainGlobals "bool" = some none)
    (z_int : PySem.W.nsIn K mainGlobals "int" = some none)
    (z_isinstance : PySem.W.nsIn K mainGlobals "isinstance" = some none)
    (z_len : PySem.W.nsIn K mainGlobals "len" = some none)
    (z_list : PySem.W.nsIn K mainGlobals "list" = some none)
    (z_max : PySem.W.nsIn K mainGlobals "max" = some none)
    (z_min : PySem.W.nsIn K mainGlobals "min" = some none)
    (z_range : PySem.W.nsIn K mainGlobals "range" = some none)
    (z_set : PySem.W.nsIn K mainGlobals "set" = some none)
    (z_sorted : PySem.W.nsIn K mainGlobals "sorted" = some none)
    (z_sum : PySem.W.nsIn K mainGlobals "sum" = some none)
    (z_tuple : PySem.W.nsIn K mainGlobals "tuple" = some none) :
    ∃ fd : FuncData, (∀ (s : Shared) (v : Value), BindsTo s fd ⟨[v], []⟩ [("script", v)]) ∧ ∀ base : Heap, K.In base → base.Ns mainGlobals mg → FnOk l.prog w K mg base CX0 4 fa fd ["script"] (spLaw K f_law) := by
  have e := hfa.symm.trans (PySem.W.mg_of X G a15)
  cases e
  have F1 := fun_mk (st := topS 1) l1 c1 k1
  have b1 := F1.binds (ps := ["works", "most"]) fun _ _ _ _ _ _ us hl => match us, hl with | [_, _], _ => rfl
  have F2 := fun_mk (st := topS 2) l2 c2 k2
  have b2 := F2.binds (ps := ["works", "begins"]) fun _ _ _ _ _ _ us hl => match us, hl with | [_, _], _ => rfl
  have F3 := fun_mk (st := topS 3) l3 c3 k3
  have b3 := F3.binds (ps := ["works", "stages"]) fun _ _ _ _ _ _ us hl => match us, hl with | [_, _], _ => rfl
  have F4 := fun_mk (st := topS 4) l4 c4 k4
  have b4 := F4.binds (ps := ["works", "stages"]) fun _ _ _ _ _ _ us hl => match us, hl with | [_, _], _ => rfl
  have F5 := fun_mk (st := topS 5) l5 c5 k5
  have b5 := F5.binds (ps := ["works", "stages", "begins"]) fun _ _ _ _ _ _ us hl => match us, hl with | [_, _, _], _ => rfl
  have F6 := fun_mk (st := topS 6) l6 c6 k6
  have b6 := F6.binds (ps := ["works", "stages", "value"]) fun _ _ _ _ _ _ us hl => match us, hl with | [_, _, _], _ => rfl
  have F7 := fun_mk (st := topS 7) l7 c7 k7
  have b7 := F7.binds (ps := ["works", "stages", "most", "closer"]) fun _ _ _ _ _ _ us hl => match us, hl with | [_, _, _, _], _ => rfl
  have F9 := fun_mk (st := topS 9) l9 c9 k9
  have b9 := F9.binds (ps := ["script"]) fun _ _ _ _ _ _ us hl => match us, hl with | [_], _ => rfl
  have F10 := fun_mk (st := topS 10) l10 c10 k10
  have b10 := F10.binds (ps := ["state", "many"]) fun _ _ _ _ _ _ us hl => match us, hl with | [_, _], _ => rfl
  have F11 := fun_mk (st := topS 11) l11 c11 k11
  have b11 := F11.binds (ps := ["works", "begins"]) fun _ _ _ _ _ _ us hl => match us, hl with | [_, _], _ => rfl
  have F12 := fun_mk (st := topS 12) l12 c12 k12
  have b12 := F12.binds (ps := ["works", "begins", "stages"]) fun _ _ _ _ _ _ us hl => match us, hl with | [_, _, _], _ => rfl
  have F13 := fun_mk (st := topS 13) l13 c13 k13
  have b13 := F13.binds (ps := ["works", "stages", "value"]) fun _ _ _ _ _ _ us hl => match us, hl with | [_, _, _], _ => rfl
  have F14 := fun_mk (st := topS 14) l14 c14 k14
  have b14 := F14.binds (ps := ["state"]) fun _ _ _ _ _ _ us hl => match us, hl with | [_], _ => rfl
  have F15 := fun_mk (st := topS 15) l15 c15 k15
  have b15 := F15.binds (ps := ["script"]) fun _ _ _ _ _ _ us hl => match us, hl with | [_], _ => rfl
  let aa : Nat → Addr := fun n => match n with
    | 1 => f1
    | 2 => f2
    | 3 => f3
    | 4 => f4
    | 5 => f5
    | 6 => f6
    | 7 => f7
    | 9 => f9
    | 10 => f10
    | 11 => f11
    | 12 => f12
    | 13 => f13
    | 14 => f14
    | 15 => fa
    | _ => 0
  let dd : Nat → FuncData := fun n => match n with
    | 1 => PySem.W.fnOf "greedy_parting" "greedy_parting" (defArgs (topS 1)) (defBody (topS 1)) (defScope (topS 1)) .none kV1 dc1 pm1 an1 cd1 ct1
    | 2 => PySem.W.fnOf "parting_works" "parting_works" (defArgs (topS 2)) (defBody (topS 2)) (defScope (topS 2)) .none kV2 dc2 pm2 an2 cd2 ct2
    | 3 => PySem.W.fnOf "best_most" "best_most" (defArgs (topS 3)) (defBody (topS 3)) (defScope (topS 3)) .none kV3 dc3 pm3 an3 cd3 ct3
    | 4 => PySem.W.fnOf "best_parting" "best_parting" (defArgs (topS 4)) (defBody (topS 4)) (defScope (topS 4)) .none kV4 dc4 pm4 an4 cd4 ct4
    | 5 => PySem.W.fnOf "is_parting" "is_parting" (defArgs (topS 5)) (defBody (topS 5)) (defScope (topS 5)) .none kV5 dc5 pm5 an5 cd5 ct5
    | 6 => PySem.W.fnOf "judge_parting" "judge_parting" (defArgs (topS 6)) (defBody (topS 6)) (defScope (topS 6)) .none kV6 dc6 pm6 an6 cd6 ct6
    | 7 => PySem.W.fnOf "judge_closer" "judge_closer" (defArgs (topS 7)) (defBody (topS 7)) (defScope (topS 7)) .none kV7 dc7 pm7 an7 cd7 ct7
    | 9 => PySem.W.fnOf "_law_state" "_law_state" (defArgs (topS 9)) (defBody (topS 9)) (defScope (topS 9)) .none kV9 dc9 pm9 an9 cd9 ct9
    | 10 => PySem.W.fnOf "_law_draw" "_law_draw" (defArgs (topS 10)) (defBody (topS 10)) (defScope (topS 10)) .none kV10 dc10 pm10 an10 cd10 ct10
    | 11 => PySem.W.fnOf "_law_sums" "_law_sums" (defArgs (topS 11)) (defBody (topS 11)) (defScope (topS 11)) .none kV11 dc11 pm11 an11 cd11 ct11
    | 12 => PySem.W.fnOf "_law_parting" "_law_parting" (defArgs (topS 12)) (defBody (topS 12)) (defScope (topS 12)) .none kV12 dc12 pm12 an12 cd12 ct12
    | 13 => PySem.W.fnOf "_law_paper" "_law_paper" (defArgs (topS 13)) (defBody (topS 13)) (defScope (topS 13)) .none kV13 dc13 pm13 an13 cd13 ct13
    | 14 => PySem.W.fnOf "_law_odd" "_law_odd" (defArgs (topS 14)) (defBody (topS 14)) (defScope (topS 14)) .none kV14 dc14 pm14 an14 cd14 ct14
    | 15 => PySem.W.fnOf "law" "law" (defArgs (topS 15)) (defBody (topS 15)) (defScope (topS 15)) .none kV15 dc15 pm15 an15 cd15 ct15
    | _ => PySem.W.fnOf "law" "law" (defArgs (topS 15)) (defBody (topS 15)) (defScope (topS 15)) .none kV15 dc15 pm15 an15 cd15 ct15
  have TT : T K mg aa dd := {
    z_abs := PySem.W.mg_none_of X G z_abs
    z_all := PySem.W.mg_none_of X G z_all
    z_any := PySem.W.mg_none_of X G z_any
    z_bool := PySem.W.mg_none_of X G z_bool
    z_int := PySem.W.mg_none_of X G z_int
    z_isinstance := PySem.W.mg_none_of X G z_isinstance
    z_len := PySem.W.mg_none_of X G z_len
    z_list := PySem.W.mg_none_of X G z_list
    z_max := PySem.W.mg_none_of X G z_max
    z_min := PySem.W.mg_none_of X G z_min
    z_range := PySem.W.mg_none_of X G z_range
    z_set := PySem.W.mg_none_of X G z_set
    z_sorted := PySem.W.mg_none_of X G z_sorted
    z_sum := PySem.W.mg_none_of X G z_sum
    z_tuple := PySem.W.mg_none_of X G z_tuple
    F1 := F1
    m1 := PySem.W.mg_of X G a1
    b1 := b1
    F2 := F2
    m2 := PySem.W.mg_of X G a2
    b2 := b2
    F3 := F3
    m3 := PySem.W.mg_of X G a3
    b3 := b3
    F4 := F4
    m4 := PySem.W.mg_of X G a4
    b4 := b4
    F5 := F5
    m5 := PySem.W.mg_of X G a5
    b5 := b5
    F6 := F6
    m6 := PySem.W.mg_of X G a6
    b6 := b6
    F7 := F7
    m7 := PySem.W.mg_of X G a7
    b7 := b7
    F9 := F9
    m9 := PySem.W.mg_of X G a9
    b9 := b9
    F10 := F10
    m10 := PySem.W.mg_of X G a10
    b10 := b10
    F11 := F11
    m11 := PySem.W.mg_of X G a11
    b11 := b11
    F12 := F12
    m12 := PySem.W.mg_of X G a12
    b12 := b12
    F13 := F13
    m13 := PySem.W.mg_of X G a13
    b13 := b13
    F14 := F14
    m14 := PySem.W.mg_of X G a14
    b14 := b14
    F15 := F15
    m15 := PySem.W.mg_of X G a15
    b15 := b15
  }
  exact ⟨PySem.W.fnOf "law" "law" (defArgs (topS 15)) (defBody (topS 15)) (defScope (topS 15)) .none kV15 dc15 pm15 an15 cd15 ct15, fun s v => .of_eq rfl, fun base _ _ => ok_law TT⟩
theorem walk {l : PySem.W.OpenLaw} {q : Program} {loose : List Str} {XP : (Str → Option Value) → Heap → Prop} {YP : World → Heap → Prop} {d : DefRec} {K : Params → PySem.W.Frag} (hf : ∀ ns : List Int, ns.length ≤ 63 → ∃ dr, f_law (drOf ns) = .rt (.bool true) dr) (hn : l.most = some 63) (hdf : d.params.defaults = [])
    (hY : ∀ (w : World) (h : Heap), YP w h → (K w.params).In h)
    (F : ∀ (w : World) (mg : Str → Option Value) (fa : Addr) (h : Heap), (K w.params).In h → h.Ns mainGlobals mg → mg d.name = some (.ref fa) →
      ∃ fd : FuncData, (∀ (s : Shared) (u : Value), BindsTo s fd ⟨[u], []⟩ [("script", u)]) ∧ ∀ base : Heap, (K w.params).In base → base.Ns mainGlobals mg → FnOk l.prog w (K w.params) mg base CX0 4 fa fd ["script"] (spLaw (K w.params) f_law)) :
    PySem.W.WalkO q loose XP YP l.row.toRowW d [] (fun f vs => PySem.call f vs) :=
  L2.walk_of (n := 63) (k := 4) (x := "script") (CX := fun _ => CX0) (sp := fun w => spLaw (K w.params) f_law) hn (by decide) hdf ⟨rfl, by decide, by decide⟩ hY F (fun _ _ a ns hl _ hS => ⟨a, ns, rfl, hS, hl, hf ns hl, fun _ => rfl⟩) fun _ _ _ _ _ z => z
end Wk

open PySem PySem.W PyProof.Rows in
set_option maxHeartbeats 0 in
theorem PySem.Challenge.cw_plaintraining_k53_papers_of_partings_jud_holds : PySem.Challenge.rw_plaintraining_k53_papers_of_partings_jud.Holds := by
  w_on; o_law; k_head; (case hw => w_witness2)
  k_fill
  refine Wk.walk (l := PySem.Challenge.rw_plaintraining_k53_papers_of_partings_jud) Wk.law_true rfl rfl (fun w h Y => PySem.W.kIn_of Y) ?F
  case F =>
    intro w mg fa h KX G hmg
    refine' Wk.all_mk KX G hmg ?a1 ?l1 ?c1 ?k1 ?a2 ?l2 ?c2 ?k2 ?a3 ?l3 ?c3 ?k3 ?a4 ?l4 ?c4 ?k4 ?a5 ?l5 ?c5 ?k5 ?a6 ?l6 ?c6 ?k6 ?a7 ?l7 ?c7 ?k7 ?a9 ?l9 ?c9 ?k9 ?a10 ?l10 ?c10 ?k10 ?a11 ?l11 ?c11 ?k11 ?a12 ?l12 ?c12 ?k12 ?a13 ?l13 ?c13 ?k13 ?a14 ?l14 ?c14 ?k14 ?a15 ?l15 ?c15 ?k15 ?z_abs ?z_all ?z_any ?z_bool ?z_int ?z_isinstance ?z_len ?z_list ?z_max ?z_min ?z_range ?z_set ?z_sorted ?z_sum ?z_tuple
    (case a1 => k_is)
    (case l1 => k_is)
    (case c1 => k_is)
    (case k1 => k_is)
    (case a2 => k_is)
    (case l2 => k_is)
    (case c2 => k_is)
    (case k2 => k_is)
    (case a3 => k_is)
    (case l3 => k_is)
    (case c3 => k_is)
    (case k3 => k_is)
    (case a4 => k_is)
    (case l4 => k_is)
    (case c4 => k_is)
    (case k4 => k_is)
    (case a5 => k_is)
    (case l5 => k_is)
    (case c5 => k_is)
    (case k5 => k_is)
    (case a6 => k_is)
    (case l6 => k_is)
    (case c6 => k_is)
    (case k6 => k_is)
    (case a7 => k_is)
    (case l7 => k_is)
    (case c7 => k_is)
    (case k7 => k_is)
    (case a9 => k_is)
    (case l9 => k_is)
    (case c9 => k_is)
    (case k9 => k_is)
    (case a10 => k_is)
    (case l10 => k_is)
    (case c10 => k_is)
    (case k10 => k_is)
    (case a11 => k_is)
    (case l11 => k_is)
    (case c11 => k_is)
    (case k11 => k_is)
    (case a12 => k_is)
    (case l12 => k_is)
    (case c12 => k_is)
    (case k12 => k_is)
    (case a13 => k_is)
    (case l13 => k_is)
    (case c13 => k_is)
    (case k13 => k_is)
    (case a14 => k_is)
    (case l14 => k_is)
    (case c14 => k_is)
    (case k14 => k_is)
    (case a15 => k_is)
    (case l15 => k_is)
    (case c15 => k_is)
    (case k15 => k_is)
    (case z_abs => k_is)
    (case z_all => k_is)
    (case z_any => k_is)
    (case z_bool => k_is)
    (case z_int => k_is)
    (case z_isinstance => k_is)
    (case z_len => k_is)
    (case z_list => k_is)
    (case z_max => k_is)
    (case z_min => k_is)
    (case z_range => k_is)
    (case z_set => k_is)
    (case z_sorted => k_is)
    (case z_sum => k_is)
    (case z_tuple => k_is)
#print axioms PySem.Challenge.cw_plaintraining_k53_papers_of_partings_jud_holds
