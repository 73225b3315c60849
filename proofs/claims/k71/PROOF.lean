import PyProof.Rows.All
import Wide.All
import OpenK.AllK
import Wide.FinOn
import HandS.ForMost
import HandS.Wide
import HandS.SortInts
import HandS.Deep
import HandS.EndBits
import HandS.IsInst
import HandS.ForExc
import HandS.ExcOwn
import HandS.TryOnly
import HandS.WordsExc
import KE.KExcIs
import KE.KExcInit
import HandS.SetFor
import PyProof.SumWalkG
import HandS.Strs
import PyProof.FactsAll.subtypes_4
import HandS.Defaults
import HandS.NoneIn
import HandS.ExcValue
import HandS.Style
import HandS.Conv
import KE.GoesEnum
import KE.DataMinMax
import HandS.Rev
import PyProof.ReprRoads
import HandS.Text
import HandS.Iter
import HandS.Steps
import PySem.Challenge.RW_halfsearch_k71_texts_that_are_none
import KE.IntTextText
set_option Elab.async false
set_option linter.all false
set_option maxRecDepth 100000
set_option maxHeartbeats 4000000
namespace DL
open PySem PySem.Spec PyProof.Rows L2

/-- a thing whose object is told by its class and its own dict: an error that was caught -/
def Caught (C : Addr) (d : Option Addr) (a : Addr) : HO := .ext fun h => ∃ (o : Obj) (fs : Array Value), h.get? a = some o ∧ Zc (.ref C) d o ∧ o.data = .fields fs
/-! ### data at a value; a caught error stands as a dict of its class's name and its field -/
mutual
inductive Rp (K : PySem.W.Frag) (H : Hp) : V → PyData → Prop
  | non : Rp K H .non .none
  | bl (b : Bool) : Rp K H (.bl b) (.bool b)
  | int (i : Int) : Rp K H (.int i) (.int i)
  | str (x : Str) : Rp K H (.str x) (.str x)
  | lst {a : Addr} {xs : List V} {ds : List PyData} : H a = some (.lst xs) → RpA K H xs ds → Rp K H (.ref a) (.list ds)
  | tup {a : Addr} {xs : List V} {ds : List PyData} : SqT K H a xs → RpA K H xs ds → Rp K H (.ref a) (.tuple ds)
  | dct {a : Addr} : H a = some (.dK []) → Rp K H (.ref a) (.dict [])
  | dks {a : Addr} {kvs : List (Key × V)} {ks : List Str} {ds : List PyData} : H a = some (.dK kvs) → kvs.map (·.1) = ks.map Sum.inr → RpA K H (kvs.map (·.2)) ds → Rp K H (.ref a) (.dict [(.list (ks.map .str), .list ds)])
  | exc {a C : Addr} {c : Str} : PySem.W.nsIn K mainGlobals c = some (some (.ref C)) → H a = some (Caught C none a) → Rp K H (.ref a) (.dict [(.str c, .none)])
  | exf {a C dd : Addr} {c f : Str} {v : V} {p : PyData} : PySem.W.nsIn K mainGlobals c = some (some (.ref C)) → H a = some (Caught C (some dd) a) → H dd = some (.xd [(f, v)]) → Rp K H v p → Rp K H (.ref a) (.dict [(.str c, .none), (.str f, p)])
inductive RpA (K : PySem.W.Frag) (H : Hp) : List V → List PyData → Prop
  | nil : RpA K H [] []
  | cons {v : V} {vs : List V} {d : PyData} {ds : List PyData} : Rp K H v d → RpA K H vs ds → RpA K H (v :: vs) (d :: ds)
end
theorem seqT {K : PySem.W.Frag} {H H' : Hp} {a : Addr} {xs : List V} (e : Same H H') (h : SqT K H a xs) : SqT K H' a xs := by
  rcases h with (h | ⟨o, h⟩) | h
  · exact .inl (.inl (e _ _ h))
  · exact .inl (.inr ⟨o, e _ _ h⟩)
  · exact .inr h
mutual
theorem Rp.mono {K : PySem.W.Frag} {H H' : Hp} (e : Same H H') : ∀ (d : PyData) {v : V}, Rp K H v d → Rp K H' v d
  | .none, _, h => by cases h; exact .non
  | .bool b, _, h => by cases h; exact .bl b
  | .int i, _, h => by cases h; exact .int i
  | .str x, _, h => by cases h; exact .str x
  | .list ds, _, h => by
    cases h with
    | lst h1 h2 => exact .lst (e _ _ h1) (RpA.mono e ds h2)
  | .tuple ds, _, h => by
    cases h with
    | tup h1 h2 => exact .tup (seqT e h1) (RpA.mono e ds h2)
  | .dict kvs, _, h => by
    match kvs, h with
    | _, .dct h1 => exact .dct (e _ _ h1)
    | _, .dks (ds := ds) h1 h2 h3 => exact .dks (e _ _ h1) h2 (RpA.mono e ds h3)
    | _, .exc h1 h2 => exact .exc h1 (e _ _ h2)
    | _, .exf (p := p) h1 h2 h3 h4 => exact .exf h1 (e _ _ h2) (e _ _ h3) (Rp.mono e p h4)
termination_by d => sizeOf d
decreasing_by all_goals (simp_wf; try omega)
theorem RpA.mono {K : PySem.W.Frag} {H H' : Hp} (e : Same H H') : ∀ (ds : List PyData) {vs : List V}, RpA K H vs ds → RpA K H' vs ds
  | [], _, h => by cases h; exact .nil
  | d :: ds, _, h => by
    cases h with
    | cons h1 h2 => exact .cons (Rp.mono e d h1) (RpA.mono e ds h2)
termination_by ds => sizeOf ds
decreasing_by all_goals (simp_wf; try omega)
end
mutual
theorem Rp.dp {K : PySem.W.Frag} {H : Hp} : ∀ (d : PyData) {v : V}, d.hasDict = false → Rp K H v d → Dp K H v d
  | .none, _, _, h => by cases h; exact .non
  | .bool b, _, _, h => by cases h; exact .bl b
  | .int i, _, _, h => by cases h; exact .int i
  | .str x, _, _, h => by cases h; exact .str x
  | .list ds, _, n, h => by
    cases h with
    | lst h1 h2 => exact .lst (.inl (.inl h1)) (RpA.dp ds (by simpa only [PyData.hasDict] using n) h2)
  | .tuple ds, _, n, h => by
    cases h with
    | tup h1 h2 => exact .tup h1 (RpA.dp ds (by simpa only [PyData.hasDict] using n) h2)
  | .dict _, _, n, h => by simp [PyData.hasDict] at n
theorem RpA.dp {K : PySem.W.Frag} {H : Hp} : ∀ (ds : List PyData) {vs : List V}, PyData.hasDictAll ds = false → RpA K H vs ds → DpAll K H vs ds
  | [], _, _, h => by cases h; exact .nil
  | d :: ds, _, n, h => by
    cases h with
    | cons h1 h2 =>
      simp only [PyData.hasDictAll, Bool.or_eq_false_iff] at n
      exact .cons (Rp.dp d n.1 h1) (RpA.dp ds n.2 h2)
end
mutual
theorem lay_dict : ∀ d : PyData, d.canLay0 = true → d.hasDict = false
  | .none, _ => by simp [PyData.hasDict]
  | .bool b, _ => by simp [PyData.hasDict]
  | .int i, _ => by simp [PyData.hasDict]
  | .str x, _ => by simp [PyData.hasDict]
  | .list ds, h => by simp only [PyData.hasDict]; exact lay_dicts ds (by simpa only [PyData.canLay0] using h)
  | .tuple ds, h => by simp only [PyData.hasDict]; exact lay_dicts ds (by simpa only [PyData.canLay0] using h)
  | .dict _, h => by simp [PyData.canLay0] at h
theorem lay_dicts : ∀ ds : List PyData, PyData.canLayAll0 ds = true → PyData.hasDictAll ds = false
  | [], _ => by simp [PyData.hasDictAll]
  | d :: ds, h => by
    simp only [PyData.canLayAll0, Bool.and_eq_true] at h
    simp only [PyData.hasDictAll, lay_dict d h.1, lay_dicts ds h.2, Bool.or_false]
end
theorem shaped_dict {d : PyData} (h : SeqAt.shaped d = true) : d.hasDict = false := lay_dict d (SeqAt.canLay_of_shaped h)
theorem RpA.length {K : PySem.W.Frag} {H : Hp} : ∀ {vs : List V} {ds : List PyData}, RpA K H vs ds → vs.length = ds.length
  | _, [], h => by cases h; rfl
  | _, _ :: ds, h => by
    cases h with
    | cons h1 h2 => rw [List.length_cons, List.length_cons, RpA.length h2]
theorem RpA.get {K : PySem.W.Frag} {H : Hp} : ∀ {ds : List PyData} {vs : List V} {i : Nat} {d : PyData}, RpA K H vs ds → ds[i]? = some d → ∃ v, vs[i]? = some v ∧ Rp K H v d
  | [], _, _, _, _, e => by simp at e
  | _ :: ds, _, 0, _, h, e => by
    cases h with
    | cons h1 h2 => simp at e; subst e; exact ⟨_, rfl, h1⟩
  | _ :: ds, _, i + 1, d, h, e => by
    cases h with
    | cons h1 h2 =>
      obtain ⟨v, q1, q2⟩ := RpA.get (i := i) (d := d) h2 (by simpa using e)
      exact ⟨v, by simpa using q1, q2⟩
theorem RpA.app {K : PySem.W.Frag} {H : Hp} : ∀ {ds es : List PyData} {vs ws : List V}, RpA K H vs ds → RpA K H ws es → RpA K H (vs ++ ws) (ds ++ es)
  | [], _, _, _, h, q => by cases h; exact q
  | _ :: ds, _, _, _, h, q => by
    cases h with
    | cons h1 h2 => exact .cons h1 (RpA.app h2 q)
theorem RpA.take {K : PySem.W.Frag} {H : Hp} : ∀ {ds : List PyData} {vs : List V} (n : Nat), RpA K H vs ds → RpA K H (vs.take n) (ds.take n)
  | _, _, 0, _ => .nil
  | [], _, _ + 1, h => by cases h; exact .nil
  | _ :: ds, _, n + 1, h => by
    cases h with
    | cons h1 h2 => exact .cons h1 (RpA.take n h2)
theorem RpA.drop {K : PySem.W.Frag} {H : Hp} : ∀ {ds : List PyData} {vs : List V} (n : Nat), RpA K H vs ds → RpA K H (vs.drop n) (ds.drop n)
  | _, _, 0, h => h
  | [], _, _ + 1, h => by cases h; exact .nil
  | _ :: ds, _, n + 1, h => by
    cases h with
    | cons h1 h2 => exact RpA.drop n h2
theorem RpA.set {K : PySem.W.Frag} {H : Hp} {v : V} {d : PyData} (q : Rp K H v d) : ∀ {ds : List PyData} {vs : List V} (n : Nat), RpA K H vs ds → RpA K H (vs.set n v) (ds.set n d)
  | [], _, _, h => by cases h; exact .nil
  | _ :: ds, _, 0, h => by
    cases h with
    | cons h1 h2 => exact .cons q h2
  | _ :: ds, _, n + 1, h => by
    cases h with
    | cons h1 h2 => exact .cons h1 (RpA.set q n h2)
theorem RpA.ints {K : PySem.W.Frag} {H : Hp} : ∀ {ns : List Int} {vs : List V}, RpA K H vs (ns.map .int) → vs = ns.map V.int
  | [], _, h => by cases h; rfl
  | _ :: ns, _, h => by
    cases h with
    | cons h1 h2 => cases h1; rw [RpA.ints h2]; rfl
theorem RpA.ofInts {K : PySem.W.Frag} {H : Hp} : ∀ {ns : List Int}, RpA K H (ns.map V.int) (ns.map .int)
  | [] => .nil
  | n :: _ => .cons (.int n) RpA.ofInts

/-! ### what is blocked -/
abbrev Bk := Addr → Prop
open Classical in
noncomputable def hid (B : Bk) (H : Hp) : Hp := fun b => if B b then none else H b
theorem hid_some {B : Bk} {H : Hp} {b : Addr} {o : HO} : hid B H b = some o ↔ ¬ B b ∧ H b = some o := by
  unfold hid
  by_cases h : B b
  · simp [h]
  · simp [h]
/-- what is not blocked stays, and stays unblocked -/
def Ext (B : Bk) (H : Hp) (B' : Bk) (H' : Hp) : Prop := Same (hid B H) (hid B' H')
theorem Ext.refl {B : Bk} {H : Hp} : Ext B H B H := Same.refl _
theorem Ext.trans {B B1 B2 : Bk} {H H1 H2 : Hp} (a : Ext B H B1 H1) (b : Ext B1 H1 B2 H2) : Ext B H B2 H2 := Same.trans a b
theorem Ext.grow {B : Bk} {H H' : Hp} (e : Same H H') : Ext B H B H' := fun b o h => by
  rw [hid_some] at h ⊢
  exact ⟨h.1, e _ _ h.2⟩
theorem hid_le {B : Bk} {H : Hp} : Same (hid B H) H := fun b o h => (hid_some.mp h).2
theorem hid_sub {B B' : Bk} {H : Hp} (h : ∀ b, B' b → B b) : Same (hid B H) (hid B' H) := fun b o e => by
  rw [hid_some] at e ⊢
  exact ⟨fun z => e.1 (h b z), e.2⟩
theorem Rp.ext {K : PySem.W.Frag} {B B' : Bk} {H H' : Hp} (e : Ext B H B' H') {d : PyData} {v : V} (h : Rp K (hid B H) v d) : Rp K (hid B' H') v d := h.mono e
theorem same_new {H : Hp} {p : Addr} {o : HO} (h : H p = none) : Same H (upd H p o) := fun b u q => by rw [upd_ne (ne_of_none q h)]; exact q

/-! ### slots -/
inductive Sl where
  /-- nothing is known -/
  | un
  /-- a value that does not change -/
  | v (d : PyData)
  /-- a list that only this slot holds; k: it is the caller's -/
  | l (k : Bool) (ds : List PyData)
  /-- a list that is only read -/
  | w (ds : List PyData)
abbrev Rho := List Sl
def er : Sl → Sl
  | .l k _ => .l k []
  | s => s
/-- nothing but the content of held lists has changed -/
def Shp (ρ ρ' : Rho) : Prop := ρ.map er = ρ'.map er
theorem Shp.refl (ρ : Rho) : Shp ρ ρ := rfl
theorem Shp.trans {a b c : Rho} (x : Shp a b) (y : Shp b c) : Shp a c := Eq.trans x y
theorem Shp.symm {a b : Rho} (x : Shp a b) : Shp b a := Eq.symm x
theorem Shp.len {a b : Rho} (x : Shp a b) : a.length = b.length := by
  have := congrArg List.length x
  simpa using this
theorem Shp.at {a b : Rho} (x : Shp a b) (i : Nat) : (a[i]?).map er = (b[i]?).map er := by
  have := congrArg (fun l => l[i]?) x
  simpa using this
theorem Shp.val {a b : Rho} (x : Shp a b) {i : Nat} {d : PyData} (h : a[i]? = some (.v d)) : b[i]? = some (.v d) := by
  have q := x.at i
  rw [h] at q
  cases e : b[i]? with
  | none => rw [e] at q; cases q
  | some s =>
    rw [e] at q
    cases s <;> simp [er] at q
    rw [q]
theorem Shp.wr {a b : Rho} (x : Shp a b) {i : Nat} {d : List PyData} (h : a[i]? = some (.w d)) : b[i]? = some (.w d) := by
  have q := x.at i
  rw [h] at q
  cases e : b[i]? with
  | none => rw [e] at q; cases q
  | some s =>
    rw [e] at q
    cases s <;> simp [er] at q
    rw [q]
theorem Shp.lst {a b : Rho} (x : Shp a b) {i : Nat} {k : Bool} {d : List PyData} (h : a[i]? = some (.l k d)) : ∃ d', b[i]? = some (.l k d') := by
  have q := x.at i
  rw [h] at q
  cases e : b[i]? with
  | none => rw [e] at q; cases q
  | some s =>
    rw [e] at q
    cases s <;> simp [er] at q
    rw [q]
    exact ⟨_, rfl⟩

/-- the entry: blocked, the heap, the callers' lists that may change -/
structure En where
  B0 : Bk
  H0 : Hp
  io : Bk
  ad : Nat → Addr
structure J (K : PySem.W.Frag) (E : En) (B : Bk) (σ : L2.St) (H : Hp) (ρ : Rho) : Prop where
  keep : ∀ b o, ¬ E.io b → E.H0 b = some o → H b = some o
  b0 : ∀ b, E.B0 b → B b
  bn : ∀ b, B b → E.B0 b ∨ E.H0 b = none
  b0t : ∀ b, E.B0 b → E.H0 b ≠ none
  bt : ∀ b, B b → H b ≠ none
  ioB : ∀ b, E.io b → E.B0 b
  len : σ.length = ρ.length
  val : ∀ (i : Nat) d, ρ[i]? = some (.v d) → ∃ x, σ[i]? = some (some x) ∧ Rp K (hid B H) x d
  own : ∀ (i : Nat) k ds, ρ[i]? = some (.l k ds) → ∃ p vs, σ[i]? = some (some (.ref p)) ∧ B p ∧ H p = some (.lst vs) ∧ RpA K (hid B H) vs ds ∧ (if k = true then E.io p ∧ p = E.ad i else E.H0 p = none)
  inj : ∀ (i j : Nat) k ds k' ds' p, ρ[i]? = some (.l k ds) → ρ[j]? = some (.l k' ds') → σ[i]? = some (some (.ref p)) → σ[j]? = some (some (.ref p)) → i = j
  wr : ∀ (i : Nat) ds, ρ[i]? = some (.w ds) → ∃ p vs, σ[i]? = some (some (.ref p)) ∧ SqL K (hid B H) p vs ∧ RpA K (hid B H) vs ds
section
variable {K : PySem.W.Frag} {E : En} {B B' : Bk} {σ : L2.St} {H H' : Hp} {ρ ρ' : Rho}
/-- the heap has grown -/
theorem J.grow (j : J K E B σ H ρ) (e : Same H H') : J K E B σ H' ρ where
  keep := fun b o h q => e _ _ (j.keep b o h q)
  b0 := j.b0
  bn := j.bn
  b0t := j.b0t
  bt := fun b h => by
    cases q : H b with
    | none => exact absurd q (j.bt b h)
    | some o => rw [e _ _ q]; simp
  ioB := j.ioB
  len := j.len
  val := fun i d h => by
    obtain ⟨x, h1, h2⟩ := j.val i d h
    exact ⟨x, h1, h2.ext (Ext.grow e)⟩
  own := fun i k ds h => by
    obtain ⟨p, vs, h1, h2, h3, h4, h5⟩ := j.own i k ds h
    exact ⟨p, vs, h1, h2, e _ _ h3, h4.mono (Ext.grow e), h5⟩
  inj := j.inj
  wr := fun i ds h => by
    obtain ⟨p, vs, h1, h2, h3⟩ := j.wr i ds h
    exact ⟨p, vs, h1, Same.seq (Ext.grow e) h2, h3.mono (Ext.grow e)⟩
/-- a new address was never known -/
theorem J.fresh (j : J K E B σ H ρ) {p : Addr} (h : H p = none) : E.H0 p = none ∧ ¬ B p ∧ ¬ E.io p ∧ ¬ E.B0 p := by
  have nb : ¬ B p := fun z => j.bt p z h
  have nb0 : ¬ E.B0 p := fun z => nb (j.b0 p z)
  have ni : ¬ E.io p := fun z => nb0 (j.ioB p z)
  refine ⟨?_, nb, ni, nb0⟩
  cases q : E.H0 p with
  | none => rfl
  | some o =>
    rw [j.keep p o ni q] at h
    cases h
end

/-! ### what an expression is worth -/
inductive Ar where
  | d (d : PyData)
  | s (i : Nat)
def ArOk (K : PySem.W.Frag) (B : Bk) (σ : L2.St) (H : Hp) (ρ : Rho) (x : V) : Ar → Prop
  | .d d => Rp K (hid B H) x d
  | .s i => σ[i]? = some (some x) ∧ ((∃ k ds, ρ[i]? = some (.l k ds)) ∨ ∃ ds, ρ[i]? = some (.w ds))
def res (ρ : Rho) : Ar → Option PyData
  | .d d => some d
  | .s i => match ρ[i]? with
    | some (.l _ ds) => some (.list ds)
    | some (.w ds) => some (.list ds)
    | _ => none
/-- what may be read at a value now -/
inductive BD (K : PySem.W.Frag) (B : Bk) (H : Hp) : V → PyData → Prop
  | val {x : V} {d : PyData} : Rp K (hid B H) x d → BD K B H x d
  | own {p : Addr} {vs : List V} {ds : List PyData} : H p = some (.lst vs) → RpA K (hid B H) vs ds → BD K B H (.ref p) (.list ds)
  | wr {p : Addr} {vs : List V} {ds : List PyData} : SqL K H p vs → RpA K (hid B H) vs ds → BD K B H (.ref p) (.list ds)
section
variable {K : PySem.W.Frag} {E : En} {B B' : Bk} {σ : L2.St} {H H' : Hp} {ρ ρ' : Rho} {x : V} {a : Ar} {d : PyData}
theorem ArOk.later (h : ArOk K B σ H ρ x a) (e : Ext B H B H') (s : Shp ρ ρ') : ArOk K B σ H' ρ' x a := by
  cases a with
  | d d => exact Rp.ext e h
  | s i =>
    refine ⟨h.1, ?_⟩
    rcases h.2 with ⟨k, ds, q⟩ | ⟨ds, q⟩
    · obtain ⟨d', q'⟩ := s.lst q
      exact .inl ⟨k, d', q'⟩
    · exact .inr ⟨ds, s.wr q⟩
theorem ArOk.bd (j : J K E B σ H ρ) (h : ArOk K B σ H ρ x a) (r : res ρ a = some d) : BD K B H x d := by
  cases a with
  | d d' =>
    cases r
    exact .val h
  | s i =>
    rcases h.2 with ⟨k, ds, q⟩ | ⟨ds, q⟩
    · simp only [res, q, Option.some.injEq] at r
      subst r
      obtain ⟨p, vs, h1, h2, h3, h4, _⟩ := j.own i k ds q
      have e := h.1
      rw [h1] at e
      cases e
      exact .own h3 h4
    · simp only [res, q, Option.some.injEq] at r
      subst r
      obtain ⟨p, vs, h1, h2, h3⟩ := j.wr i ds q
      have e := h.1
      rw [h1] at e
      cases e
      exact .wr (Same.seq hid_le h2) h3
theorem BD.int {i : Int} (h : BD K B H x (.int i)) : x = .int i := by
  cases h with
  | val h => cases h; rfl
theorem BD.bl {i : Bool} (h : BD K B H x (.bool i)) : x = .bl i := by
  cases h with
  | val h => cases h; rfl
theorem BD.str {i : Str} (h : BD K B H x (.str i)) : x = .str i := by
  cases h with
  | val h => cases h; rfl
theorem BD.non (h : BD K B H x .none) : x = .non := by
  cases h with
  | val h => cases h; rfl
theorem BD.list {ds : List PyData} (h : BD K B H x (.list ds)) : ∃ p vs, x = .ref p ∧ SqL K H p vs ∧ RpA K (hid B H) vs ds := by
  cases h with
  | val h =>
    cases h with
    | lst h1 h2 => exact ⟨_, _, rfl, .inl (.inl (hid_le _ _ h1)), h2⟩
  | own h1 h2 => exact ⟨_, _, rfl, .inl (.inl h1), h2⟩
  | wr h1 h2 => exact ⟨_, _, rfl, h1, h2⟩
theorem BD.tuple {ds : List PyData} (h : BD K B H x (.tuple ds)) : ∃ p vs, x = .ref p ∧ SqT K H p vs ∧ RpA K (hid B H) vs ds := by
  cases h with
  | val h =>
    cases h with
    | tup h1 h2 => exact ⟨_, _, rfl, seqT hid_le h1, h2⟩
theorem BD.dp (n : d.hasDict = false) (h : BD K B H x d) : Dp K H x d := by
  cases h with
  | val h => exact Rp.dp _ n (h.mono hid_le)
  | own h1 h2 => exact .lst (.inl (.inl h1)) (RpA.dp _ (by simpa only [PyData.hasDict] using n) (h2.mono hid_le))
  | wr h1 h2 => exact .lst h1 (RpA.dp _ (by simpa only [PyData.hasDict] using n) (h2.mono hid_le))
end

abbrev EF := Rho → Option (Ar × Rho)
def Sd (K : PySem.W.Frag) (t : TE) (g : EF) : Prop := ∀ (E : En) (B : Bk) (σ : L2.St) (H : Hp) (ρ : Rho) (a : Ar) (ρ' : Rho) (Q : VK), J K E B σ H ρ → g ρ = some (a, ρ') →
  (∀ x H', J K E B σ H' ρ' → Ext B H B H' → Shp ρ ρ' → ArOk K B σ H' ρ' x a → Q x H') → t σ H Q
structure PD (X : Cx) (e : Expr) (g : EF) : Prop where
  run : ∃ t, PE X e t ∧ Sd X.K t g
/-- the same for a list that is new -/
abbrev FF := Rho → Option (List PyData × Rho)
def Sf (K : PySem.W.Frag) (t : TE) (g : FF) : Prop := ∀ (E : En) (B : Bk) (σ : L2.St) (H : Hp) (ρ : Rho) (ds : List PyData) (ρ' : Rho) (Q : VK), J K E B σ H ρ → g ρ = some (ds, ρ') →
  (∀ p vs H', H p = none → J K E (fun b => B b ∨ b = p) σ H' ρ' → Ext B H (fun b => B b ∨ b = p) H' → Shp ρ ρ' → H' p = some (.lst vs) → RpA K (hid (fun b => B b ∨ b = p) H') vs ds → Q (.ref p) H') → t σ H Q
structure PF (X : Cx) (e : Expr) (g : FF) : Prop where
  run : ∃ t, PE X e t ∧ Sf X.K t g
abbrev BF := Rho → Option (Bool × Rho)
def Sb (K : PySem.W.Frag) (t : TT) (g : BF) : Prop := ∀ (E : En) (B : Bk) (σ : L2.St) (H : Hp) (ρ : Rho) (b : Bool) (ρ' : Rho) (Q : Bool → Hp → Prop), J K E B σ H ρ → g ρ = some (b, ρ') →
  (∀ H', J K E B σ H' ρ' → Ext B H B H' → Shp ρ ρ' → Q b H') → t σ H Q
structure PB (X : Cx) (e : Expr) (g : BF) : Prop where
  run : ∃ t, PT X e t ∧ Sb X.K t g
abbrev AF := Rho → Option (List Ar × Rho)
inductive ArsOk (K : PySem.W.Frag) (B : Bk) (σ : L2.St) (H : Hp) (ρ : Rho) : List V → List Ar → Prop
  | nil : ArsOk K B σ H ρ [] []
  | cons {x : V} {xs : List V} {a : Ar} {as : List Ar} : ArOk K B σ H ρ x a → ArsOk K B σ H ρ xs as → ArsOk K B σ H ρ (x :: xs) (a :: as)
theorem ArsOk.later {K : PySem.W.Frag} {B : Bk} {σ : L2.St} {H H' : Hp} {ρ ρ' : Rho} {xs : List V} {as : List Ar} (h : ArsOk K B σ H ρ xs as) (e : Ext B H B H') (s : Shp ρ ρ') : ArsOk K B σ H' ρ' xs as := by
  induction h with
  | nil => exact .nil
  | cons h _ ih => exact .cons (h.later e s) ih
def Sa (K : PySem.W.Frag) (t : TA) (g : AF) : Prop := ∀ (E : En) (B : Bk) (σ : L2.St) (H : Hp) (ρ : Rho) (as : List Ar) (ρ' : Rho) (Q : List V → Hp → Prop), J K E B σ H ρ → g ρ = some (as, ρ') →
  (∀ xs H', J K E B σ H' ρ' → Ext B H B H' → Shp ρ ρ' → ArsOk K B σ H' ρ' xs as → Q xs H') → t σ H Q
structure PAD (X : Cx) (es : List Expr) (g : AF) : Prop where
  run : ∃ t, PA X es t ∧ Sa X.K t g

section
variable {X : Cx} {pos : Pos}
/-! ### names, constants -/
def gVar (i : Nat) : EF := fun ρ => match ρ[i]? with
  | some (.v d) => some (.d d, ρ)
  | some (.l _ _) => some (.s i, ρ)
  | some (.w _) => some (.s i, ρ)
  | _ => none
theorem sd_var {K : PySem.W.Frag} {i : Nat} : Sd K (tVar i) (gVar i) := by
  intro E B σ H ρ a ρ' Q j h q
  unfold gVar at h
  cases e : ρ[i]? with
  | none => rw [e] at h; cases h
  | some s =>
    rw [e] at h
    cases s with
    | un => cases h
    | v d =>
      cases h
      obtain ⟨x, h1, h2⟩ := j.val i d e
      exact ⟨x, h1, q x H j Ext.refl (Shp.refl _) h2⟩
    | l k ds =>
      cases h
      obtain ⟨p, vs, h1, _⟩ := j.own i k ds e
      exact ⟨_, h1, q _ H j Ext.refl (Shp.refl _) ⟨h1, .inl ⟨k, ds, e⟩⟩⟩
    | w ds =>
      cases h
      obtain ⟨p, vs, h1, _⟩ := j.wr i ds e
      exact ⟨_, h1, q _ H j Ext.refl (Shp.refl _) ⟨h1, .inr ⟨ds, e⟩⟩⟩
theorem dv (i : Nat) {x : Str} (hN : X.N[i]? = some x := by rfl) (hv : Vis X.env.scope x := by first | exact Or.inl rfl | exact Or.inr (Or.inl rfl) | exact Or.inr (Or.inr rfl)) (hd : (x == ("__debug__" : Str)) = false := by decide)
    (hcd : (x == ("__classdict__" : Str)) = false := by decide) : PD X (.Name x pos) (gVar i) := ⟨_, pe_var hN hv hd hcd, sd_var⟩
def gC (d : PyData) : EF := fun ρ => some (.d d, ρ)
theorem sd_c {K : PySem.W.Frag} {v : V} {d : PyData} (h : ∀ H, Rp K H v d) : Sd K (tC v) (gC d) := by
  intro E B σ H ρ a ρ' Q j e q
  cases e
  exact q v H j Ext.refl (Shp.refl _) (h _)
theorem dint {i : Int} {k : Nat} : PD X (.Constant (.int i) k pos) (gC (.int i)) := ⟨_, pe_int, sd_c fun _ => .int i⟩
theorem dbl {b : Bool} {k : Nat} : PD X (.Constant (.bool b) k pos) (gC (.bool b)) := ⟨_, pe_bl, sd_c fun _ => .bl b⟩
theorem dnon {k : Nat} : PD X (.Constant .none k pos) (gC .none) := ⟨_, pe_non, sd_c fun _ => .non⟩
theorem dstr {x : Str} {k : Nat} : PD X (.Constant (.str x) k pos) (gC (.str x)) := ⟨_, pe_str, sd_c fun _ => .str x⟩

/-! ### arguments -/
def gNil : AF := fun ρ => some ([], ρ)
def gCons (g : EF) (r : AF) : AF := fun ρ => match g ρ with
  | none => none
  | some (a, ρ1) => match r ρ1 with
    | none => none
    | some (as, ρ2) => some (a :: as, ρ2)
theorem da_nil : PAD X [] gNil := ⟨_, pa_nil, fun E B σ H ρ as ρ' Q j e q => by
  cases e
  exact q [] H j Ext.refl (Shp.refl _) .nil⟩
theorem sa_cons {K : PySem.W.Frag} {te : TE} {ta : TA} {g : EF} {r : AF} (h1 : Sd K te g) (h2 : Sa K ta r) : Sa K (tCons te ta) (gCons g r) := by
  intro E B σ H ρ as ρ' Q j e q
  unfold gCons at e
  cases e1 : g ρ with
  | none => rw [e1] at e; cases e
  | some p =>
    obtain ⟨a, ρ1⟩ := p
    rw [e1] at e
    dsimp only at e
    cases e2 : r ρ1 with
    | none => rw [e2] at e; cases e
    | some p =>
      obtain ⟨as1, ρ2⟩ := p
      rw [e2] at e
      cases e
      refine h1 E B σ H ρ a ρ1 _ j e1 fun x H1 j1 x1 s1 a1 => ?_
      refine h2 E B σ H1 ρ1 as1 _ _ j1 e2 fun xs H2 j2 x2 s2 a2 => ?_
      exact q (x :: xs) H2 j2 (x1.trans x2) (s1.trans s2) (.cons (a1.later x2 s2) a2)
theorem da_cons {e : Expr} {es : List Expr} {g : EF} {r : AF} (h1 : PD X e g) (h2 : PAD X es r) (hs : starEach (e :: es) X.env = (false, eval e X.env) :: starEach es X.env := by rfl) : PAD X (e :: es) (gCons g r) := by
  obtain ⟨te, p1, d1⟩ := h1.run
  obtain ⟨ta, p2, d2⟩ := h2.run
  exact ⟨_, pa_cons p1 p2 hs, sa_cons d1 d2⟩
end
end DL
namespace DL
open PySem PySem.Spec PyProof.Rows L2

/-! ### operations on data -/
abbrev R2f := PyData → PyData → Option PyData
def Trk (B : Bk) (H : Hp) : Prop := ∀ b, B b → H b ≠ none
def OpS (K : PySem.W.Frag) (r : R2) (f : R2f) : Prop := ∀ (B : Bk) (H : Hp) (x y : V) (a b d : PyData) (Q : VK), Trk B H → BD K B H x a → BD K B H y b → f a b = some d →
  (∀ v H', Same H H' → Rp K (hid B H') v d → Q v H') → r x y H Q
def gOp (f : R2f) (ga gb : EF) : EF := fun ρ => (ga ρ).bind fun p => (gb p.2).bind fun q => (res q.2 p.1).bind fun x => (res q.2 q.1).bind fun y => (f x y).map fun d => (.d d, q.2)
theorem sd_op {K : PySem.W.Frag} {r : R2} {f : R2f} {ta tb : TE} {ga gb : EF} (ho : OpS K r f) (h1 : Sd K ta ga) (h2 : Sd K tb gb) : Sd K (tOp r ta tb) (gOp f ga gb) := by
  intro E B σ H ρ a ρ' Q j e q
  simp only [gOp, Option.bind_eq_some_iff, Option.map_eq_some_iff] at e
  obtain ⟨⟨a1, ρ1⟩, e1, ⟨a2, ρ2⟩, e2, x, ex, y, ey, d, ed, e3⟩ := e
  cases e3
  refine h1 E B σ H ρ a1 ρ1 _ j e1 fun v1 H1 j1 x1 s1 o1 => ?_
  refine h2 E B σ H1 ρ1 a2 ρ2 _ j1 e2 fun v2 H2 j2 x2 s2 o2 => ?_
  refine ho B H2 v1 v2 x y d Q j2.bt ((o1.later x2 s2).bd j2 ex) (o2.bd j2 ey) ed fun v H3 sm rp => ?_
  exact q v H3 (j2.grow sm) ((x1.trans x2).trans (Ext.grow sm)) (s1.trans s2) rp
section
variable {X : Cx} {pos : Pos} {a b : Expr} {ga gb : EF} {r : R2} {f : R2f}
theorem dop {op : Operator} (ho : OpR X (binaryOp op) r) (hs : OpS X.K r f) (ha : PD X a ga) (hb : PD X b gb) : PD X (.BinOp a op b pos) (gOp f ga gb) := by
  obtain ⟨ta, p1, d1⟩ := ha.run
  obtain ⟨tb, p2, d2⟩ := hb.run
  exact ⟨_, pe_op ho p1 p2, sd_op hs d1 d2⟩
theorem dcmp {op : CmpOp} (ho : OpR X (compareOp op) r) (hs : OpS X.K r f) (ha : PD X a ga) (hb : PD X b gb) (hm : behindInMarks op b = false) : PD X (.Compare a [op] [b] pos) (gOp f ga gb) := by
  obtain ⟨ta, p1, d1⟩ := ha.run
  obtain ⟨tb, p2, d2⟩ := hb.run
  exact ⟨_, pe_cmpR ho p1 p2 hm, sd_op hs d1 d2⟩
theorem dix (hs : OpS X.K r f) (hr : IxR X r) (ha : PD X a ga) (hb : PD X b gb) (hp : PlainIx b) : PD X (.Subscript a b pos) (gOp f ga gb) := by
  obtain ⟨ta, p1, d1⟩ := ha.run
  obtain ⟨tb, p2, d2⟩ := hb.run
  exact ⟨_, pe_ix hr p1 p2 hp, sd_op hs d1 d2⟩
end
theorem OpS.or {K : PySem.W.Frag} {r r' : R2} {f f' : R2f} (h : OpS K r f) (h' : OpS K r' f') : OpS K (fun x y H Q => r x y H Q ∨ r' x y H Q) (fun a b => (f a b).or (f' a b)) := by
  intro B H x y a b d Q tr ha hb e q
  dsimp only at e
  cases e1 : f a b with
  | some d' =>
    rw [e1] at e
    cases e
    exact .inl (h B H x y a b _ Q tr ha hb e1 q)
  | none =>
    rw [e1] at e
    exact .inr (h' B H x y a b _ Q tr ha hb e q)
/-- a new list or tuple -/
theorem rp_new {K : PySem.W.Frag} {B : Bk} {H : Hp} {p : Addr} {o : HO} (tr : Trk B H) (h : H p = none) : ¬ B p ∧ hid B (upd H p o) p = some o := by
  have n : ¬ B p := fun z => tr p z h
  exact ⟨n, hid_some.mpr ⟨n, upd_same⟩⟩
theorem rp_lst {K : PySem.W.Frag} {B : Bk} {H : Hp} {p : Addr} {vs : List V} {ds : List PyData} (tr : Trk B H) (h : H p = none) (r : RpA K (hid B H) vs ds) : Rp K (hid B (upd H p (.lst vs))) (.ref p) (.list ds) :=
  .lst (rp_new (K := K) tr h).2 (r.mono (Ext.grow (same_new h)))
theorem rp_tup {K : PySem.W.Frag} {B : Bk} {H : Hp} {p : Addr} {vs : List V} {ds : List PyData} (tr : Trk B H) (h : H p = none) (r : RpA K (hid B H) vs ds) : Rp K (hid B (upd H p (.tup vs))) (.ref p) (.tuple ds) :=
  .tup (.inl (.inl (rp_new (K := K) tr h).2)) (r.mono (Ext.grow (same_new h)))

/-! ### ints -/
def fI (g : Int → Int → Int) : R2f
  | .int i, .int j => some (.int (g i j))
  | _, _ => none
theorem os_I0 {K : PySem.W.Frag} {g : Int → Int → Int} : OpS K (rI0 fun i j => .int (g i j)) (fI g) := by
  intro B H x y a b d Q tr ha hb e q
  unfold fI at e
  split at e
  · cases e
    exact ⟨_, _, ha.int, hb.int, q _ H (Same.refl _) (.int _)⟩
  · cases e
def fIC (C : Int → Int → Prop) [∀ i j, Decidable (C i j)] (g : Int → Int → Int) : R2f
  | .int i, .int j => if C i j then some (.int (g i j)) else none
  | _, _ => none
theorem os_I {K : PySem.W.Frag} {C : Int → Int → Prop} [∀ i j, Decidable (C i j)] {g : Int → Int → Int} : OpS K (rI C fun i j => .int (g i j)) (fIC C g) := by
  intro B H x y a b d Q tr ha hb e q
  unfold fIC at e
  split at e
  · split at e
    · rename_i hc
      cases e
      exact ⟨_, _, ha.int, hb.int, hc, q _ H (Same.refl _) (.int _)⟩
    · cases e
  · cases e
def fB (g : Int → Int → Bool) : R2f
  | .int i, .int j => some (.bool (g i j))
  | _, _ => none
theorem os_B {K : PySem.W.Frag} {g : Int → Int → Bool} : OpS K (rI0 fun i j => .bl (g i j)) (fB g) := by
  intro B H x y a b d Q tr ha hb e q
  unfold fB at e
  split at e
  · cases e
    exact ⟨_, _, ha.int, hb.int, q _ H (Same.refl _) (.bl _)⟩
  · cases e
abbrev big : Nat := 1000000
theorem big_le {n : Nat} (h : n ≤ big) : n ≤ sizeLine := by
  rw [sizeLine_eq]
  have : big = 1000000 := rfl
  omega
theorem big_lt {n : Nat} (h : n ≤ big) : n < sizeLine := by
  rw [sizeLine_eq]
  have : big = 1000000 := rfl
  omega
/-- list + list, of any lists that may be read -/
def rCatS (K : PySem.W.Frag) : R2 := fun x y H Q => ∃ l b xs zs, x = .ref l ∧ y = .ref b ∧ SqL K H l xs ∧ SqL K H b zs ∧ xs.length + zs.length ≤ sizeLine ∧ ∀ p, H p = none → Q (.ref p) (upd H p (.lst (xs ++ zs)))
theorem lst_at {X : Cx} {pins : List (Addr × Obj)} {s : Shared} {σ : L2.St} {H : Hp} {l : Addr} {xs : List V} (I : Inv X pins σ H s) (h : SqL X.K H l xs) :
    ∃ (its : List Value) (n : Nat) (sl : Array (Option Value)), Vals xs its ∧ s.heap.get? l = some { cls := .type "list", dict := none, data := .seq its.toArray n, slots := sl } := by
  obtain ⟨its, r, ⟨⟨c, dd, dt, sl⟩, n, ho, hc, hd, hdt⟩, hz⟩ := I.list h
  simp only at hc hd hdt
  subst hc hd hdt
  exact ⟨its, n, sl, r, ho⟩

theorem op_catS {X : Cx} : OpR X (binaryOp .Add) (rCatS X.K) := by
  intro pins s σ H x y v u Q I rx ry h
  obtain ⟨l, b, xs, zs, rfl, rfl, hH, hB, hz, q⟩ := h
  cases rx
  cases ry
  obtain ⟨its, n, sl, r, e⟩ := lst_at I hH
  obtain ⟨its2, n2, sl2, r2, e2⟩ := lst_at I hB
  have h1 := r.length
  have h2 := r2.length
  refine PySem.concat_meets ⟨_, e, rfl⟩ ⟨_, e2, rfl⟩ noFill_list_add seq_list_add PySem.F.slot_list_add PySem.F.entry_list_add (PySem.F.args_list_add_2 _ _) (list_addW l b its.toArray its2.toArray n n2 none none sl sl2 (by rw [List.size_toArray, List.size_toArray]; omega)) ⟨e, e2, ?_⟩
  have ea : its.toArray ++ its2.toArray = (its ++ its2).toArray := by simp
  rw [ea]
  exact ⟨.ref _, _, I.lnew (t' := s.toks) (r.append r2) (by rw [List.length_append]; omega), rfl, q _ I.fresh⟩
def fCat : R2f
  | .list xs, .list ys => if xs.length + ys.length ≤ big then some (.list (xs ++ ys)) else none
  | _, _ => none
theorem os_cat {K : PySem.W.Frag} : OpS K (rCatS K) fCat := by
  intro B H x y a b d Q tr ha hb e q
  unfold fCat at e
  split at e
  · split at e
    · rename_i xs ys hz
      cases e
      obtain ⟨p, vs, rfl, h1, h2⟩ := ha.list
      obtain ⟨p', vs', rfl, h1', h2'⟩ := hb.list
      have l1 := h2.length
      have l2 := h2'.length
      refine ⟨p, p', vs, vs', rfl, rfl, h1, h1', big_le (by omega), fun r hr => ?_⟩
      exact q _ _ (same_new hr) (rp_lst tr hr (h2.app h2'))
    · cases e
  · cases e
def fAddS : R2f
  | .str i, .str j => if i.length + j.length ≤ big then some (.str (i ++ j)) else none
  | _, _ => none
theorem os_addS {K : PySem.W.Frag} : OpS K (fun x y H Q => ∃ i j, x = .str i ∧ y = .str j ∧ i.length + j.length ≤ sizeLine ∧ Q (.str (i ++ j)) H) fAddS := by
  intro B H x y a b d Q tr ha hb e q
  unfold fAddS at e
  split at e
  · split at e
    · rename_i hz
      cases e
      exact ⟨_, _, ha.str, hb.str, big_le hz, q _ H (Same.refl _) (.str _)⟩
    · cases e
  · cases e
def fAdd : R2f := fun a b => (fI (fun i j => i + j) a b).or ((fCat a b).or (fAddS a b))
theorem dadd {X : Cx} {pos : Pos} {a b : Expr} {ga gb : EF} (ha : PD X a ga) (hb : PD X b gb) : PD X (.BinOp a .Add b pos) (gOp fAdd ga gb) :=
  dop (op_add.or (op_catS.or op_add_str)) (os_I0.or (os_cat.or os_addS)) ha hb
def fSub : R2f := fI fun i j => i - j
theorem dsub {X : Cx} {pos : Pos} {a b : Expr} {ga gb : EF} (ha : PD X a ga) (hb : PD X b gb) : PD X (.BinOp a .Sub b pos) (gOp fSub ga gb) := dop op_sub os_I0 ha hb
instance (i j : Int) : Decidable (CMulW i j) := inferInstanceAs (Decidable (i.natAbs.log2 + j.natAbs.log2 < 1000000))
instance (i j : Int) : Decidable (CDivW i j) := inferInstanceAs (Decidable (0 < j ∧ j.natAbs.log2 < 9000))
instance (i j : Int) : Decidable ((fun _ j : Int => 0 < j) i j) := inferInstanceAs (Decidable (0 < j))
def fRep : R2f
  | .list xs, .int k => if k ≤ big ∧ xs.length * k.toNat ≤ big then some (.list (List.replicate k.toNat xs).flatten) else none
  | _, _ => none
theorem RpA.rep {K : PySem.W.Frag} {H : Hp} {vs : List V} {ds : List PyData} (h : RpA K H vs ds) : ∀ k : Nat, RpA K H (List.replicate k vs).flatten (List.replicate k ds).flatten
  | 0 => .nil
  | k + 1 => by
    rw [List.replicate_succ, List.replicate_succ, List.flatten_cons, List.flatten_cons]
    exact h.app (RpA.rep h k)
/-- a list that is tracked, times an int -/
def rRepS (K : PySem.W.Frag) : R2 := fun x y H Q => ∃ l k xs, x = .ref l ∧ y = .int k ∧ H l = some (.lst xs) ∧ k < 2 ^ 63 ∧ xs.length * k.toNat ≤ sizeLine ∧
  ∀ p, H p = none → Q (.ref p) (upd H p (.lst (List.replicate k.toNat xs).flatten))
def fMul : R2f := fIC CMulW fun i j => i * j
theorem dmul {X : Cx} {pos : Pos} {a b : Expr} {ga gb : EF} (ha : PD X a ga) (hb : PD X b gb) : PD X (.BinOp a .Mult b pos) (gOp fMul ga gb) := dop op_mulW os_I ha hb
def fDiv : R2f := fIC CDivW fun i j => i / j
theorem ddiv {X : Cx} {pos : Pos} {a b : Expr} {ga gb : EF} (ha : PD X a ga) (hb : PD X b gb) : PD X (.BinOp a .FloorDiv b pos) (gOp fDiv ga gb) := dop op_fdivW os_I ha hb
def fMod : R2f := fIC (fun _ j => 0 < j) fun i j => i % j
theorem dmod {X : Cx} {pos : Pos} {a b : Expr} {ga gb : EF} (ha : PD X a ga) (hb : PD X b gb) : PD X (.BinOp a .Mod b pos) (gOp fMod ga gb) := dop op_mod os_I ha hb
def CPowW (i j : Int) : Prop := 0 ≤ j ∧ (Builtin.Int.intBits i : Int) * j ≤ 2 ^ 27
instance (i j : Int) : Decidable (CPowW i j) := inferInstanceAs (Decidable (0 ≤ j ∧ (Builtin.Int.intBits i : Int) * j ≤ 2 ^ 27))
theorem op_powW {X : Cx} : OpR X (binaryOp .Pow) (rI CPowW fun i j => .int (i ^ j.toNat)) := opI fun _ _ _ _ _ _ _ hc q => pow_int hc.1 hc.2 q
def fPow : R2f := fIC CPowW fun i j => i ^ j.toNat
theorem dpow {X : Cx} {pos : Pos} {a b : Expr} {ga gb : EF} (ha : PD X a ga) (hb : PD X b gb) : PD X (.BinOp a .Pow b pos) (gOp fPow ga gb) := dop op_powW os_I ha hb

/-! ### one-place -/
def gUn (f : PyData → Option PyData) (ga : EF) : EF := fun ρ => (ga ρ).bind fun p => (res p.2 p.1).bind fun x => (f x).map fun d => (.d d, p.2)
def UnS (K : PySem.W.Frag) (r : V → Hp → VK → Prop) (f : PyData → Option PyData) : Prop := ∀ (B : Bk) (H : Hp) (x : V) (a d : PyData) (Q : VK), Trk B H → BD K B H x a → f a = some d →
  (∀ v H', Same H H' → Rp K (hid B H') v d → Q v H') → r x H Q
theorem sd_un {K : PySem.W.Frag} {r : V → Hp → VK → Prop} {f : PyData → Option PyData} {ta : TE} {ga : EF} (ho : UnS K r f) (h1 : Sd K ta ga) : Sd K (tUn r ta) (gUn f ga) := by
  intro E B σ H ρ a ρ' Q j e q
  simp only [gUn, Option.bind_eq_some_iff, Option.map_eq_some_iff] at e
  obtain ⟨⟨a1, ρ1⟩, e1, x, ex, d, ed, e3⟩ := e
  cases e3
  refine h1 E B σ H ρ a1 ρ1 _ j e1 fun v1 H1 j1 x1 s1 o1 => ?_
  refine ho B H1 v1 x d Q j1.bt (o1.bd j1 ex) ed fun v H3 sm rp => ?_
  exact q v H3 (j1.grow sm) (x1.trans (Ext.grow sm)) s1 rp
def fNeg : PyData → Option PyData
  | .int i => some (.int (-i))
  | _ => none
theorem dneg {X : Cx} {pos : Pos} {a : Expr} {ga : EF} (ha : PD X a ga) : PD X (.UnaryOp .USub a pos) (gUn fNeg ga) := by
  obtain ⟨ta, p1, d1⟩ := ha.run
  refine ⟨_, pe_un un_neg p1, sd_un ?_ d1⟩
  intro B H x a d Q tr ha e q
  unfold fNeg at e
  split at e
  · cases e
    exact ⟨_, ha.int, q _ H (Same.refl _) (.int _)⟩
  · cases e

/-! ### comparisons -/
def fEq : R2f := fun a b => if SeqAt.shaped a = true ∧ SeqAt.shaped b = true then some (.bool (PyData.eqv a b)) else none
def fNe : R2f := fun a b => if SeqAt.shaped a = true ∧ SeqAt.shaped b = true then some (.bool (!PyData.eqv a b)) else none
theorem os_eq {K : PySem.W.Frag} : OpS K (rEqD K) fEq := by
  intro B H x y a b d Q tr ha hb e q
  unfold fEq at e
  split at e
  · rename_i hs
    cases e
    exact ⟨a, b, BD.dp (shaped_dict hs.1) ha, BD.dp (shaped_dict hs.2) hb, hs.1, hs.2, q _ H (Same.refl _) (.bl _)⟩
  · cases e
theorem os_ne {K : PySem.W.Frag} : OpS K (rNeD K) fNe := by
  intro B H x y a b d Q tr ha hb e q
  unfold fNe at e
  split at e
  · rename_i hs
    cases e
    exact ⟨a, b, BD.dp (shaped_dict hs.1) ha, BD.dp (shaped_dict hs.2) hb, hs.1, hs.2, q _ H (Same.refl _) (.bl _)⟩
  · cases e
def fLt : R2f := fB fun i j => decide (i < j)
def fLe : R2f := fB fun i j => decide (i ≤ j)
def fGt : R2f := fB fun i j => decide (j < i)
def fGe : R2f := fB fun i j => decide (j ≤ i)
def fIsN : R2f
  | .none, .none => some (.bool true)
  | _, .none => some (.bool false)
  | _, _ => none
def fNotN : R2f
  | .none, .none => some (.bool false)
  | _, .none => some (.bool true)
  | _, _ => none
theorem BD.isN {K : PySem.W.Frag} {B : Bk} {H : Hp} {x : V} {d : PyData} (h : BD K B H x d) : (x = .non) ↔ (d = .none) := by
  cases h with
  | val h => cases h <;> simp
  | own _ _ => simp
  | wr _ _ => simp
theorem os_isN {K : PySem.W.Frag} : OpS K (fun x y H Q => y = .non ∧ Q (.bl (decide (x = .non))) H) fIsN := by
  intro B H x y a b d Q tr ha hb e q
  unfold fIsN at e
  split at e
  · cases e
    refine ⟨hb.non, ?_⟩
    rw [show (decide (x = V.non)) = true from decide_eq_true ha.non]
    exact q _ H (Same.refl _) (.bl _)
  · rename_i hn
    cases e
    refine ⟨hb.non, ?_⟩
    rw [show (decide (x = V.non)) = false from decide_eq_false fun z => hn (ha.isN.mp z)]
    exact q _ H (Same.refl _) (.bl _)
  · cases e
theorem os_notN {K : PySem.W.Frag} : OpS K (fun x y H Q => y = .non ∧ Q (.bl (!decide (x = .non))) H) fNotN := by
  intro B H x y a b d Q tr ha hb e q
  unfold fNotN at e
  split at e
  · cases e
    refine ⟨hb.non, ?_⟩
    rw [show (decide (x = V.non)) = true from decide_eq_true ha.non]
    exact q _ H (Same.refl _) (.bl _)
  · rename_i hn
    cases e
    refine ⟨hb.non, ?_⟩
    rw [show (decide (x = V.non)) = false from decide_eq_false fun z => hn (ha.isN.mp z)]
    exact q _ H (Same.refl _) (.bl _)
  · cases e
def fIn : R2f := fun a b => match b with
  | .list ds => if SeqAt.shaped a = true ∧ SeqAt.shaped (.list ds) = true then some (.bool (ds.any fun z => PyData.eqv z a)) else none
  | _ => none
def fNotIn : R2f := fun a b => match b with
  | .list ds => if SeqAt.shaped a = true ∧ SeqAt.shaped (.list ds) = true then some (.bool (!ds.any fun z => PyData.eqv z a)) else none
  | _ => none
theorem os_in {K : PySem.W.Frag} : OpS K (rInD K) fIn := by
  intro B H x y a b d Q tr ha hb e q
  unfold fIn at e
  split at e
  · split at e
    · rename_i hs
      cases e
      exact ⟨a, _, BD.dp (shaped_dict hs.1) ha, BD.dp (shaped_dict hs.2) hb, hs.1, hs.2, q _ H (Same.refl _) (.bl _)⟩
    · cases e
  · cases e
theorem os_notIn {K : PySem.W.Frag} : OpS K (rNotInD K) fNotIn := by
  intro B H x y a b d Q tr ha hb e q
  unfold fNotIn at e
  split at e
  · split at e
    · rename_i hs
      cases e
      exact ⟨a, _, BD.dp (shaped_dict hs.1) ha, BD.dp (shaped_dict hs.2) hb, hs.1, hs.2, q _ H (Same.refl _) (.bl _)⟩
    · cases e
  · cases e
/-- an operator of comparison, its data function -/
structure CmpD (X : Cx) (op : CmpOp) (f : R2f) : Prop where
  run : ∃ r, OpR X (compareOp op) r ∧ OpS X.K r f
theorem cm_eq {X : Cx} {k : Nat} (hr : Room k X.A) : CmpD X .Eq fEq := ⟨_, op_eqD hr.units, os_eq⟩
theorem cm_ne {X : Cx} {k : Nat} (hr : Room k X.A) : CmpD X .NotEq fNe := ⟨_, op_neD hr.units, os_ne⟩
theorem cm_lt {X : Cx} : CmpD X .Lt fLt := ⟨_, op_lt, os_B⟩
theorem cm_le {X : Cx} : CmpD X .LtE fLe := ⟨_, op_le, os_B⟩
theorem cm_gt {X : Cx} : CmpD X .Gt fGt := ⟨_, op_gt, os_B⟩
theorem cm_ge {X : Cx} : CmpD X .GtE fGe := ⟨_, op_ge, os_B⟩
theorem cm_is {X : Cx} : CmpD X .Is fIsN := ⟨_, op_isN, os_isN⟩
theorem cm_isnot {X : Cx} : CmpD X .IsNot fNotN := ⟨_, op_notN, os_notN⟩
theorem units65 {k : Nat} {A : Around} (hr : Room k A) : A.units + 65 < cLine := by have := hr.un; omega
theorem cm_in {X : Cx} {k : Nat} (hr : Room k X.A) : CmpD X .In fIn := ⟨_, op_inD (units65 hr), os_in⟩
theorem cm_notin {X : Cx} {k : Nat} (hr : Room k X.A) : CmpD X .NotIn fNotIn := ⟨_, op_notInD (units65 hr), os_notIn⟩
section
variable {X : Cx} {pos : Pos} {a b c : Expr} {ga gb gc : EF} {f f' : R2f}
theorem dcm {op : CmpOp} (h : CmpD X op f) (ha : PD X a ga) (hb : PD X b gb) (hm : behindInMarks op b = false) : PD X (.Compare a [op] [b] pos) (gOp f ga gb) := by
  obtain ⟨r, h1, h2⟩ := h.run
  exact dcmp h1 h2 ha hb hm
/-- a value that is a bool, as a test -/
def gTest (g : EF) : BF := fun ρ => (g ρ).bind fun p => match p.1 with
  | .d (.bool b) => some (b, p.2)
  | _ => none
theorem sb_test {K : PySem.W.Frag} {t : TE} {g : EF} (h : Sd K t g) : Sb K (tTest t) (gTest g) := by
  intro E B σ H ρ b ρ' Q j e q
  simp only [gTest, Option.bind_eq_some_iff] at e
  obtain ⟨⟨a1, ρ1⟩, e1, e2⟩ := e
  split at e2
  · rename_i k ha
    cases e2
    cases ha
    refine h E B σ H ρ _ ρ1 _ j e1 fun v1 H1 j1 x1 s1 o1 => ?_
    have o2 : Rp K (hid B H1) v1 (.bool _) := o1
    cases o2
    exact ⟨_, rfl, q H1 j1 x1 s1⟩
  · cases e2
theorem bcm {op : CmpOp} (h : CmpD X op f) (ha : PD X a ga) (hb : PD X b gb) (hm : behindInMarks op b = false) : PB X (.Compare a [op] [b] pos) (gTest (gOp f ga gb)) := by
  obtain ⟨r, h1, h2⟩ := h.run
  obtain ⟨ta, p1, d1⟩ := ha.run
  obtain ⟨tb, p2, d2⟩ := hb.run
  exact ⟨_, pt_cmpR h1 p1 p2 hm, sb_test (sd_op h2 d1 d2)⟩
/-- a op b op' c -/
def gChain (f f' : R2f) (ga gb gc : EF) : EF := fun ρ => (ga ρ).bind fun p => (gb p.2).bind fun q => (res q.2 p.1).bind fun x => (res q.2 q.1).bind fun y => (f x y).bind fun d => match d with
  | .bool true => (gc q.2).bind fun s => (res s.2 q.1).bind fun y' => (res s.2 s.1).bind fun z => (f' y' z).map fun d' => (.d d', s.2)
  | .bool false => some (.d (.bool false), q.2)
  | _ => none
theorem sd_chain {K : PySem.W.Frag} {r r' : R2} {ta tb tc : TE} (ho : OpS K r f) (ho' : OpS K r' f') (h1 : Sd K ta ga) (h2 : Sd K tb gb) (h3 : Sd K tc gc) : Sd K (tChain r r' ta tb tc) (gChain f f' ga gb gc) := by
  intro E B σ H ρ a ρ' Q j e q
  simp only [gChain, Option.bind_eq_some_iff] at e
  obtain ⟨⟨a1, ρ1⟩, e1, ⟨a2, ρ2⟩, e2, x, ex, y, ey, d, ed, e3⟩ := e
  refine h1 E B σ H ρ a1 ρ1 _ j e1 fun v1 H1 j1 x1 s1 o1 => ?_
  refine h2 E B σ H1 ρ1 a2 ρ2 _ j1 e2 fun v2 H2 j2 x2 s2 o2 => ?_
  refine ho B H2 v1 v2 x y d _ j2.bt ((o1.later x2 s2).bd j2 ex) (o2.bd j2 ey) ed fun v H3 sm rp => ?_
  have j3 := j2.grow sm
  split at e3
  · cases rp
    refine ⟨true, rfl, ?_⟩
    rw [if_pos rfl]
    simp only [Option.bind_eq_some_iff, Option.map_eq_some_iff] at e3
    obtain ⟨⟨a4, ρ4⟩, e4, y', ey', z, ez, d', ed', e5⟩ := e3
    cases e5
    refine h3 E B σ H3 ρ2 a4 ρ4 _ j3 e4 fun v4 H4 j4 x4 s4 o4 => ?_
    refine ho' B H4 v2 v4 y' z d' Q j4.bt ((o2.later ((Ext.grow sm).trans x4) s4).bd j4 ey') (o4.bd j4 ez) ed' fun v H5 sm' rp' => ?_
    exact q v H5 (j4.grow sm') ((((x1.trans x2).trans (Ext.grow sm)).trans x4).trans (Ext.grow sm')) ((s1.trans s2).trans s4) rp'
  · cases rp
    cases e3
    refine ⟨false, rfl, ?_⟩
    rw [if_neg Bool.false_ne_true]
    exact q _ H3 j3 ((x1.trans x2).trans (Ext.grow sm)) (s1.trans s2) (.bl _)
  · cases e3
theorem dchain {op op' : CmpOp} (h : CmpD X op f) (h' : CmpD X op' f') (ha : PD X a ga) (hb : PD X b gb) (hc : PD X c gc) (hm : lastMarks [op, op'] [b, c] = false := by with_unfolding_all rfl) : PD X (.Compare a [op, op'] [b, c] pos) (gChain f f' ga gb gc) := by
  obtain ⟨r, h1, h2⟩ := h.run
  obtain ⟨r', h1', h2'⟩ := h'.run
  obtain ⟨ta, p1, d1⟩ := ha.run
  obtain ⟨tb, p2, d2⟩ := hb.run
  obtain ⟨tc, p3, d3⟩ := hc.run
  exact ⟨_, pe_chain h1 h1' p1 p2 p3 hm, sd_chain h2 h2' d1 d2 d3⟩
theorem bchain {op op' : CmpOp} (h : CmpD X op f) (h' : CmpD X op' f') (ha : PD X a ga) (hb : PD X b gb) (hc : PD X c gc) (hm : lastMarks [op, op'] [b, c] = false := by with_unfolding_all rfl) : PB X (.Compare a [op, op'] [b, c] pos) (gTest (gChain f f' ga gb gc)) := by
  obtain ⟨r, h1, h2⟩ := h.run
  obtain ⟨r', h1', h2'⟩ := h'.run
  obtain ⟨ta, p1, d1⟩ := ha.run
  obtain ⟨tb, p2, d2⟩ := hb.run
  obtain ⟨tc, p3, d3⟩ := hc.run
  exact ⟨_, pt_chain h1 h1' p1 p2 p3 hm, sb_test (sd_chain h2 h2' d1 d2 d3)⟩
end

/-! ### tests -/
/-- truth -/
def fTru : PyData → Option Bool
  | .none => some false
  | .bool b => some b
  | .int i => some (i != 0)
  | .str y => if y.length ≤ big then some ((y.length : Int) != 0) else none
  | .list xs => some (!xs.isEmpty)
  | .tuple xs => some (!xs.isEmpty)
  | _ => none
theorem RpA.isEmpty {K : PySem.W.Frag} {H : Hp} {vs : List V} {ds : List PyData} (h : RpA K H vs ds) : vs.isEmpty = ds.isEmpty := by
  cases h <;> rfl
theorem tru_of {K : PySem.W.Frag} {B : Bk} {H : Hp} {x : V} {d : PyData} {b : Bool} (h : BD K B H x d) (e : fTru d = some b) : TruV K x H b := by
  unfold fTru at e
  split at e
  · rw [h.non]; cases e; rfl
  · rw [h.bl]; cases e; rfl
  · rw [h.int]; cases e; rfl
  · split at e
    · rename_i hz
      rw [h.str]; cases e
      exact ⟨big_le hz, rfl⟩
    · cases e
  · obtain ⟨p, vs, rfl, h1, h2⟩ := h.list
    cases e
    exact .inl ⟨vs, h1, by rw [h2.isEmpty]⟩
  · obtain ⟨p, vs, rfl, h1, h2⟩ := h.tuple
    cases e
    exact .inr (.inl ⟨vs, h1, by rw [h2.isEmpty]⟩)
  · cases e
def gTru (g : EF) : BF := fun ρ => (g ρ).bind fun p => (res p.2 p.1).bind fun x => (fTru x).map fun b => (b, p.2)
section
variable {X : Cx} {pos : Pos} {a b c : Expr} {ga gb gc : EF} {rest : List Expr} {tA tB' : BF}
theorem btru (ha : PD X a ga) (he : ∀ whole, isTrue a X.env whole = (do let v ← whole; standAt a.pos; holding [v] (truthy v)) := by intro _; rfl) : PB X a (gTru ga) := by
  obtain ⟨ta, p1, d1⟩ := ha.run
  refine ⟨_, pt_truth p1 he, ?_⟩
  intro E B σ H ρ b ρ' Q j e q
  simp only [gTru, Option.bind_eq_some_iff, Option.map_eq_some_iff] at e
  obtain ⟨⟨a1, ρ1⟩, e1, x, ex, k, ek, e3⟩ := e
  cases e3
  refine d1 E B σ H ρ a1 ρ1 _ j e1 fun v1 H1 j1 x1 s1 o1 => ?_
  exact ⟨_, tru_of (o1.bd j1 ex) ek, q H1 j1 x1 s1⟩
def bNot (g : BF) : BF := fun ρ => (g ρ).map fun p => (!p.1, p.2)
theorem bnot (ha : PB X a tA) : PB X (.UnaryOp .Not a pos) (bNot tA) := by
  obtain ⟨ta, p1, d1⟩ := ha.run
  refine ⟨_, pt_not p1, ?_⟩
  intro E B σ H ρ b ρ' Q j e q
  simp only [bNot, Option.map_eq_some_iff] at e
  obtain ⟨⟨a1, ρ1⟩, e1, e3⟩ := e
  cases e3
  exact d1 E B σ H ρ a1 ρ1 _ j e1 fun H1 j1 x1 s1 => q H1 j1 x1 s1
/-- and, or: whatever the whole is -/
structure PBW (X : Cx) (e : Expr) (g : BF) : Prop where
  run : ∃ t, PW X e t ∧ Sb X.K t g
def bAnd (g h : BF) : BF := fun ρ => (g ρ).bind fun p => if p.1 = true then h p.2 else some (false, p.2)
def bOr (g h : BF) : BF := fun ρ => (g ρ).bind fun p => if p.1 = true then some (true, p.2) else h p.2
theorem bw_and1 (ha : PB X a tA) : PBW X (.BoolOp .And [a] pos) tA := by
  obtain ⟨ta, p1, d1⟩ := ha.run
  exact ⟨_, pw_and1 p1, d1⟩
theorem bw_or1 (ha : PB X a tA) : PBW X (.BoolOp .Or [a] pos) tA := by
  obtain ⟨ta, p1, d1⟩ := ha.run
  exact ⟨_, pw_or1 p1, d1⟩
theorem bw_and (ha : PB X a tA) (hb : PBW X (.BoolOp .And (b :: rest) pos) tB') : PBW X (.BoolOp .And (a :: b :: rest) pos) (bAnd tA tB') := by
  obtain ⟨ta, p1, d1⟩ := ha.run
  obtain ⟨tb, p2, d2⟩ := hb.run
  refine ⟨_, pw_and p1 p2, ?_⟩
  intro E B σ H ρ b ρ' Q j e q
  simp only [bAnd, Option.bind_eq_some_iff] at e
  obtain ⟨⟨a1, ρ1⟩, e1, e3⟩ := e
  refine d1 E B σ H ρ a1 ρ1 _ j e1 fun H1 j1 x1 s1 => ?_
  cases a1 with
  | true =>
    rw [if_pos rfl]
    rw [if_pos rfl] at e3
    exact d2 E B σ H1 ρ1 b ρ' Q j1 e3 fun H2 j2 x2 s2 => q H2 j2 (x1.trans x2) (s1.trans s2)
  | false =>
    rw [if_neg Bool.false_ne_true]
    rw [if_neg Bool.false_ne_true] at e3
    cases e3
    exact q H1 j1 x1 s1
theorem bw_or (ha : PB X a tA) (hb : PBW X (.BoolOp .Or (b :: rest) pos) tB') : PBW X (.BoolOp .Or (a :: b :: rest) pos) (bOr tA tB') := by
  obtain ⟨ta, p1, d1⟩ := ha.run
  obtain ⟨tb, p2, d2⟩ := hb.run
  refine ⟨_, pw_or p1 p2, ?_⟩
  intro E B σ H ρ b ρ' Q j e q
  simp only [bOr, Option.bind_eq_some_iff] at e
  obtain ⟨⟨a1, ρ1⟩, e1, e3⟩ := e
  refine d1 E B σ H ρ a1 ρ1 _ j e1 fun H1 j1 x1 s1 => ?_
  cases a1 with
  | false =>
    rw [if_neg Bool.false_ne_true]
    rw [if_neg Bool.false_ne_true] at e3
    exact d2 E B σ H1 ρ1 b ρ' Q j1 e3 fun H2 j2 x2 s2 => q H2 j2 (x1.trans x2) (s1.trans s2)
  | true =>
    rw [if_pos rfl]
    rw [if_pos rfl] at e3
    cases e3
    exact q H1 j1 x1 s1
theorem PBW.pb {e : Expr} {g : BF} (h : PBW X e g) : PB X e g := by
  obtain ⟨t, p, d⟩ := h.run
  exact ⟨_, p.pt, d⟩
/-- as values: all but the last are bools -/
def gAndV (ga gb : EF) : EF := fun ρ => (ga ρ).bind fun p => match p.1 with
  | .d (.bool true) => gb p.2
  | .d (.bool false) => some (.d (.bool false), p.2)
  | _ => none
def gOrV (ga gb : EF) : EF := fun ρ => (ga ρ).bind fun p => match p.1 with
  | .d (.bool false) => gb p.2
  | .d (.bool true) => some (.d (.bool true), p.2)
  | _ => none
theorem done {op} (h : PD X a ga) : PD X (.BoolOp op [a] pos) ga := by
  obtain ⟨ta, p1, d1⟩ := h.run
  exact ⟨_, pe_one p1, d1⟩
theorem dand (ha : PD X a ga) (hb : PD X (.BoolOp .And (b :: rest) pos) gb) : PD X (.BoolOp .And (a :: b :: rest) pos) (gAndV ga gb) := by
  obtain ⟨ta, p1, d1⟩ := ha.run
  obtain ⟨tb, p2, d2⟩ := hb.run
  refine ⟨_, pe_and p1 p2, ?_⟩
  intro E B σ H ρ b ρ' Q j e q
  simp only [gAndV, Option.bind_eq_some_iff] at e
  obtain ⟨⟨a1, ρ1⟩, e1, e3⟩ := e
  refine d1 E B σ H ρ a1 ρ1 _ j e1 fun v1 H1 j1 x1 s1 o1 => ?_
  split at e3
  · rename_i ha
    cases ha
    have o2 : Rp X.K (hid B H1) v1 (.bool true) := o1
    cases o2
    refine ⟨true, rfl, ?_⟩
    rw [if_pos rfl]
    exact d2 E B σ H1 ρ1 b ρ' Q j1 e3 fun v2 H2 j2 x2 s2 o2 => q v2 H2 j2 (x1.trans x2) (s1.trans s2) o2
  · rename_i ha
    cases ha
    cases e3
    have o2 : Rp X.K (hid B H1) v1 (.bool false) := o1
    cases o2
    refine ⟨false, rfl, ?_⟩
    rw [if_neg Bool.false_ne_true]
    exact q _ H1 j1 x1 s1 (Rp.bl false)
  · cases e3
theorem dor (ha : PD X a ga) (hb : PD X (.BoolOp .Or (b :: rest) pos) gb) : PD X (.BoolOp .Or (a :: b :: rest) pos) (gOrV ga gb) := by
  obtain ⟨ta, p1, d1⟩ := ha.run
  obtain ⟨tb, p2, d2⟩ := hb.run
  refine ⟨_, pe_or p1 p2, ?_⟩
  intro E B σ H ρ b ρ' Q j e q
  simp only [gOrV, Option.bind_eq_some_iff] at e
  obtain ⟨⟨a1, ρ1⟩, e1, e3⟩ := e
  refine d1 E B σ H ρ a1 ρ1 _ j e1 fun v1 H1 j1 x1 s1 o1 => ?_
  split at e3
  · rename_i ha
    cases ha
    have o2 : Rp X.K (hid B H1) v1 (.bool false) := o1
    cases o2
    refine ⟨false, rfl, ?_⟩
    rw [if_neg Bool.false_ne_true]
    exact d2 E B σ H1 ρ1 b ρ' Q j1 e3 fun v2 H2 j2 x2 s2 o2 => q v2 H2 j2 (x1.trans x2) (s1.trans s2) o2
  · rename_i ha
    cases ha
    cases e3
    have o2 : Rp X.K (hid B H1) v1 (.bool true) := o1
    cases o2
    refine ⟨true, rfl, ?_⟩
    rw [if_pos rfl]
    exact q _ H1 j1 x1 s1 (Rp.bl true)
  · cases e3
def gNotV (ga : EF) : EF := fun ρ => (ga ρ).bind fun p => match p.1 with
  | .d (.bool k) => some (.d (.bool (!k)), p.2)
  | _ => none
theorem dnot (ha : PD X a ga) : PD X (.UnaryOp .Not a pos) (gNotV ga) := by
  obtain ⟨ta, p1, d1⟩ := ha.run
  refine ⟨_, pe_not p1, ?_⟩
  intro E B σ H ρ b ρ' Q j e q
  simp only [gNotV, Option.bind_eq_some_iff] at e
  obtain ⟨⟨a1, ρ1⟩, e1, e3⟩ := e
  refine d1 E B σ H ρ a1 ρ1 _ j e1 fun v1 H1 j1 x1 s1 o1 => ?_
  split at e3
  · rename_i k ha
    cases ha
    cases e3
    have o2 : Rp X.K (hid B H1) v1 (.bool k) := o1
    cases o2
    exact ⟨k, rfl, q _ H1 j1 x1 s1 (Rp.bl _)⟩
  · cases e3
def gIf (c : BF) (ga gb : EF) : EF := fun ρ => (c ρ).bind fun p => if p.1 = true then ga p.2 else gb p.2
theorem dif (hc : PB X c tA) (ha : PD X a ga) (hb : PD X b gb) : PD X (.IfExp c a b pos) (gIf tA ga gb) := by
  obtain ⟨tc, p0, d0⟩ := hc.run
  obtain ⟨ta, p1, d1⟩ := ha.run
  obtain ⟨tb, p2, d2⟩ := hb.run
  refine ⟨_, pe_ifExp p0 p1 p2, ?_⟩
  intro E B σ H ρ b ρ' Q j e q
  simp only [gIf, Option.bind_eq_some_iff] at e
  obtain ⟨⟨k, ρ1⟩, e1, e3⟩ := e
  refine d0 E B σ H ρ k ρ1 _ j e1 fun H1 j1 x1 s1 => ?_
  cases k with
  | true =>
    rw [if_pos rfl]
    rw [if_pos rfl] at e3
    exact d1 E B σ H1 ρ1 b ρ' Q j1 e3 fun v2 H2 j2 x2 s2 o2 => q v2 H2 j2 (x1.trans x2) (s1.trans s2) o2
  | false =>
    rw [if_neg Bool.false_ne_true]
    rw [if_neg Bool.false_ne_true] at e3
    exact d2 E B σ H1 ρ1 b ρ' Q j1 e3 fun v2 H2 j2 x2 s2 o2 => q v2 H2 j2 (x1.trans x2) (s1.trans s2) o2
end

/-! ### subscripts -/
def fIx : R2f
  | .list ds, .int i => atI ds i
  | .tuple ds, .int i => atI ds i
  | .str z, .int i => if z.length ≤ big then (atI z.cps.toList i).map fun c => .str ⟨#[c]⟩ else none
  | _, _ => none
theorem RpA.atI {K : PySem.W.Frag} {H : Hp} {vs : List V} {ds : List PyData} {i : Int} {d : PyData} (h : RpA K H vs ds) (e : L2.atI ds i = some d) : ∃ v, L2.atI vs i = some v ∧ Rp K H v d := by
  unfold L2.atI at e ⊢
  rw [h.length]
  cases q : ixN ds.length i with
  | none => rw [q] at e; cases e
  | some k =>
    rw [q] at e
    exact h.get e
theorem os_ix {K : PySem.W.Frag} : OpS K (rIx K) fIx := by
  intro B H x y a b d Q tr ha hb e q
  unfold fIx at e
  split at e
  · obtain ⟨p, vs, rfl, h1, h2⟩ := ha.list
    obtain ⟨v, h3, h4⟩ := h2.atI e
    exact .inl ⟨p, vs, _, v, rfl, hb.int, h1, h3, q v H (Same.refl _) h4⟩
  · obtain ⟨p, vs, rfl, h1, h2⟩ := ha.tuple
    obtain ⟨v, h3, h4⟩ := h2.atI e
    exact .inr (.inl ⟨p, vs, _, v, rfl, hb.int, h1, h3, q v H (Same.refl _) h4⟩)
  · split at e
    · rename_i hz
      obtain ⟨c, e1, e2⟩ := Option.map_eq_some_iff.mp e
      cases e2
      exact .inr (.inr ⟨_, _, c, ha.str, hb.int, big_le hz, e1, q _ H (Same.refl _) (.str _)⟩)
    · cases e
  · cases e
theorem dsubs {X : Cx} {pos : Pos} {a b : Expr} {ga gb : EF} (ha : PD X a ga) (hb : PD X b gb) (hp : PlainIx b := by exact fun _ _ => rfl) : PD X (.Subscript a b pos) (gOp fIx ga gb) := dix os_ix ix_seq ha hb hp
end DL
namespace DL
open PySem PySem.Spec PyProof.Rows L2

/-! ### displays -/
def allD : List Ar → Option (List PyData)
  | [] => some []
  | .d d :: r => (allD r).map fun l => d :: l
  | .s _ :: _ => none
theorem ArsOk.rpA {K : PySem.W.Frag} {B : Bk} {σ : L2.St} {H : Hp} {ρ : Rho} {xs : List V} {as : List Ar} (h : ArsOk K B σ H ρ xs as) : ∀ {ds : List PyData}, allD as = some ds → RpA K (hid B H) xs ds := by
  induction h with
  | nil => intro ds e; cases e; exact .nil
  | cons h _ ih =>
    rename_i a as _
    intro ds e
    cases a with
    | s i => cases e
    | d d =>
      simp only [allD, Option.map_eq_some_iff] at e
      obtain ⟨l, e1, e2⟩ := e
      cases e2
      exact .cons h (ih e1)
def gTup (g : AF) : EF := fun ρ => (g ρ).bind fun p => (allD p.1).bind fun ds => if ds.length ≤ big then some (.d (.tuple ds), p.2) else none
def fLst (g : AF) : FF := fun ρ => (g ρ).bind fun p => (allD p.1).bind fun ds => if ds.length ≤ big then some (ds, p.2) else none
section
variable {X : Cx} {pos : Pos} {es : List Expr} {e : Expr} {g : AF} {gf : FF}
theorem dtup {k : Nat} (h : PAD X es g) : PD X (.Tuple es k pos) (gTup g) := by
  obtain ⟨t, p, d⟩ := h.run
  refine ⟨_, pe_tup p, ?_⟩
  intro E B σ H ρ a ρ' Q j e q
  simp only [gTup, Option.bind_eq_some_iff] at e
  obtain ⟨⟨as, ρ1⟩, e1, ds, e2, e3⟩ := e
  split at e3
  · rename_i hz
    cases e3
    refine d E B σ H ρ as ρ1 _ j e1 fun xs H1 j1 x1 s1 o1 => ?_
    have r := o1.rpA e2
    refine ⟨big_le (by rw [r.length]; exact hz), fun p hp => ?_⟩
    exact q _ _ (j1.grow (same_new hp)) (x1.trans (Ext.grow (same_new hp))) s1 (rp_tup j1.bt hp r)
  · cases e3
/-- the list's address is blocked -/
theorem J.block {K : PySem.W.Frag} {E : En} {B : Bk} {σ : L2.St} {H : Hp} {ρ : Rho} {p : Addr} {o : HO} (j : J K E B σ H ρ) (h : H p = none) : J K E (fun b => B b ∨ b = p) σ (upd H p o) ρ := by
  obtain ⟨n0, nb, ni, nb0⟩ := j.fresh h
  have x : Ext B H (fun b => B b ∨ b = p) (upd H p o) := fun b u q => by
    rw [hid_some] at q ⊢
    have ne : b ≠ p := ne_of_none q.2 h
    exact ⟨fun z => z.elim q.1 ne, by rw [upd_ne ne]; exact q.2⟩
  refine ⟨fun b u h1 h2 => same_new h _ _ (j.keep b u h1 h2), fun b z => .inl (j.b0 b z), fun b z => ?_, j.b0t, fun b z => ?_, j.ioB, j.len, fun i d z => ?_, fun i k ds z => ?_, j.inj, fun i ds z => ?_⟩
  · rcases z with z | z
    · exact j.bn b z
    · exact .inr (by rw [z]; exact n0)
  · rcases z with z | z
    · by_cases e : b = p
      · rw [e, upd_same]; simp
      · rw [upd_ne e]; exact j.bt b z
    · rw [z, upd_same]; simp
  · obtain ⟨v, h1, h2⟩ := j.val i d z
    exact ⟨v, h1, h2.ext x⟩
  · obtain ⟨a, vs, h1, h2, h3, h4, h5⟩ := j.own i k ds z
    exact ⟨a, vs, h1, .inl h2, same_new h _ _ h3, h4.mono x, h5⟩
  · obtain ⟨a, vs, h1, h2, h3⟩ := j.wr i ds z
    exact ⟨a, vs, h1, Same.seq x h2, h3.mono x⟩
theorem ext_block {B : Bk} {H : Hp} {p : Addr} {o : HO} (h : H p = none) : Ext B H (fun b => B b ∨ b = p) (upd H p o) := fun b u q => by
  rw [hid_some] at q ⊢
  have ne : b ≠ p := ne_of_none q.2 h
  exact ⟨fun z => z.elim q.1 ne, by rw [upd_ne ne]; exact q.2⟩
/-- .. and free again -/
theorem J.unblock {K : PySem.W.Frag} {E : En} {B : Bk} {σ : L2.St} {H H' : Hp} {ρ ρ' : Rho} {p : Addr} (j : J K E B σ H ρ) (h : H p = none) (s : Shp ρ ρ') (j' : J K E (fun b => B b ∨ b = p) σ H' ρ') : J K E B σ H' ρ' := by
  have sub : Same (hid (fun b => B b ∨ b = p) H') (hid B H') := hid_sub fun b z => .inl z
  refine ⟨j'.keep, j.b0, j.bn, j.b0t, fun b z => j'.bt b (.inl z), j.ioB, j'.len, fun i d z => ?_, fun i k ds z => ?_, j'.inj, fun i ds z => ?_⟩
  · obtain ⟨v, h1, h2⟩ := j'.val i d z
    exact ⟨v, h1, h2.mono sub⟩
  · obtain ⟨a, vs, h1, h2, h3, h4, h5⟩ := j'.own i k ds z
    obtain ⟨ds0, z0⟩ := s.symm.lst z
    obtain ⟨a0, vs0, g1, g2, g3, _⟩ := j.own i k ds0 z0
    rw [h1] at g1
    cases g1
    exact ⟨a, vs, h1, g2, h3, h4.mono sub, h5⟩
  · obtain ⟨a, vs, h1, h2, h3⟩ := j'.wr i ds z
    exact ⟨a, vs, h1, Same.seq sub h2, h3.mono sub⟩
theorem flst (h : PAD X es g) : PF X (.List es pos) (fLst g) := by
  obtain ⟨t, p, d⟩ := h.run
  refine ⟨_, pe_lst p, ?_⟩
  intro E B σ H ρ a ρ' Q j e q
  simp only [fLst, Option.bind_eq_some_iff] at e
  obtain ⟨⟨as, ρ1⟩, e1, ds, e2, e3⟩ := e
  split at e3
  · rename_i hz
    cases e3
    refine d E B σ H ρ as ρ1 _ j e1 fun xs H1 j1 x1 s1 o1 => ?_
    have r := o1.rpA e2
    refine ⟨big_le (by rw [r.length]; exact hz), fun p hp => ?_⟩
    have hp0 : H p = none := by
      cases z : H p with
      | none => rfl
      | some u =>
        exfalso
        by_cases b : B p
        · exact j1.bt p b hp
        · have := (hid_some.mp (x1 p u (hid_some.mpr ⟨b, z⟩))).2
          rw [hp] at this
          cases this
    exact q _ xs _ hp0 (j1.block hp) (x1.trans (ext_block hp)) s1 upd_same (r.mono (ext_block hp))
  · cases e3
/-- what is new stays free before -/
theorem free_back {K : PySem.W.Frag} {E : En} {B : Bk} {σ : L2.St} {H H1 : Hp} {ρ1 : Rho} {p : Addr} (j1 : J K E B σ H1 ρ1) (x1 : Ext B H B H1) (hp : H1 p = none) : H p = none := by
  cases z : H p with
  | none => rfl
  | some u =>
    exfalso
    by_cases b : B p
    · exact j1.bt p b hp
    · have := (hid_some.mp (x1 p u (hid_some.mpr ⟨b, z⟩))).2
      rw [hp] at this
      cases this
/-- a new list as a value -/
def gF (g : FF) : EF := fun ρ => (g ρ).map fun p => (.d (.list p.1), p.2)
theorem dof (h : PF X e gf) : PD X e (gF gf) := by
  obtain ⟨t, p, d⟩ := h.run
  refine ⟨t, p, ?_⟩
  intro E B σ H ρ a ρ' Q j e q
  simp only [gF, Option.map_eq_some_iff] at e
  obtain ⟨⟨ds, ρ1⟩, e1, e2⟩ := e
  cases e2
  refine d E B σ H ρ ds ρ1 Q j e1 fun p vs H1 hp j1 x1 s1 hl r => ?_
  have nb : ¬ B p := (j.fresh hp).2.1
  have sub : Same (hid (fun b => B b ∨ b = p) H1) (hid B H1) := hid_sub fun b z => .inl z
  refine q (.ref p) H1 (j.unblock hp s1 j1) (Same.trans x1 sub) s1 ?_
  exact Rp.lst (hid_some.mpr ⟨nb, hl⟩) (r.mono sub)
/-- a value that is a new list, by its data -/
theorem dlst (h : PAD X es g) : PD X (.List es pos) (gF (fLst g)) := dof (flst h)
end

/-! ### built-in functions -/
inductive BDs (K : PySem.W.Frag) (B : Bk) (H : Hp) : List V → List PyData → Prop
  | nil : BDs K B H [] []
  | cons {x : V} {xs : List V} {d : PyData} {ds : List PyData} : BD K B H x d → BDs K B H xs ds → BDs K B H (x :: xs) (d :: ds)
def resA (ρ : Rho) : List Ar → Option (List PyData)
  | [] => some []
  | a :: r => (res ρ a).bind fun d => (resA ρ r).map fun l => d :: l
theorem ArsOk.bds {K : PySem.W.Frag} {E : En} {B : Bk} {σ : L2.St} {H : Hp} {ρ : Rho} {xs : List V} {as : List Ar} (j : J K E B σ H ρ) (h : ArsOk K B σ H ρ xs as) : ∀ {ds : List PyData}, resA ρ as = some ds → BDs K B H xs ds := by
  induction h with
  | nil => intro ds e; cases e; exact .nil
  | cons h _ ih =>
    intro ds e
    simp only [resA, Option.bind_eq_some_iff, Option.map_eq_some_iff] at e
    obtain ⟨d, e1, l, e2, e3⟩ := e
    cases e3
    exact .cons (h.bd j e1) (ih e2)
def CallS (K : PySem.W.Frag) (r : List V → Hp → VK → Prop) (f : List PyData → Option PyData) : Prop := ∀ (B : Bk) (H : Hp) (xs : List V) (ds : List PyData) (d : PyData) (Q : VK), Trk B H → BDs K B H xs ds → f ds = some d →
  (∀ (v : V) (H' : Hp), Same H H' → Rp K (hid B H') v d → Q v H') → r xs H Q
/-- .. that give a new list -/
def CallF (K : PySem.W.Frag) (r : List V → Hp → VK → Prop) (f : List PyData → Option (List PyData)) : Prop := ∀ (B : Bk) (H : Hp) (xs : List V) (ds : List PyData) (d : List PyData) (Q : VK), Trk B H → BDs K B H xs ds → f ds = some d →
  (∀ p vs, H p = none → RpA K (hid B H) vs d → Q (.ref p) (upd H p (.lst vs))) → r xs H Q
def gCB (f : List PyData → Option PyData) (g : AF) : EF := fun ρ => (g ρ).bind fun p => (resA p.2 p.1).bind fun ds => (f ds).map fun d => (.d d, p.2)
def fCB (f : List PyData → Option (List PyData)) (g : AF) : FF := fun ρ => (g ρ).bind fun p => (resA p.2 p.1).bind fun ds => (f ds).map fun d => (d, p.2)
theorem sd_cb {K : PySem.W.Frag} {r : List V → Hp → VK → Prop} {f : List PyData → Option PyData} {t : TA} {g : AF} (hs : CallS K r f) (h : Sa K t g) : Sd K (tCB r t) (gCB f g) := by
  intro E B σ H ρ a ρ' Q j e q
  simp only [gCB, Option.bind_eq_some_iff, Option.map_eq_some_iff] at e
  obtain ⟨⟨as, ρ1⟩, e1, ds, e2, d, e3, e4⟩ := e
  cases e4
  refine h E B σ H ρ as ρ1 _ j e1 fun xs H1 j1 x1 s1 o1 => ?_
  refine hs B H1 xs ds d Q j1.bt (o1.bds j1 e2) e3 fun v H2 sm rp => ?_
  exact q v H2 (j1.grow sm) (x1.trans (Ext.grow sm)) s1 rp
theorem sf_cb {K : PySem.W.Frag} {r : List V → Hp → VK → Prop} {f : List PyData → Option (List PyData)} {t : TA} {g : AF} (hs : CallF K r f) (h : Sa K t g) : Sf K (tCB r t) (fCB f g) := by
  intro E B σ H ρ a ρ' Q j e q
  simp only [fCB, Option.bind_eq_some_iff, Option.map_eq_some_iff] at e
  obtain ⟨⟨as, ρ1⟩, e1, ds, e2, d, e3, e4⟩ := e
  cases e4
  refine h E B σ H ρ as ρ1 _ j e1 fun xs H1 j1 x1 s1 o1 => ?_
  refine hs B H1 xs ds _ Q j1.bt (o1.bds j1 e2) e3 fun p vs hp rp => ?_
  exact q p vs _ (free_back j1 x1 hp) (j1.block hp) (x1.trans (ext_block hp)) s1 upd_same (rp.mono (ext_block hp))
section
variable {X : Cx} {x : Str} {p pos : Pos} {e : Expr} {es : List Expr} {g : AF} {id T : String} {r : List V → Hp → VK → Prop} {f : List PyData → Option PyData} {ff : List PyData → Option (List PyData)}
theorem dcb (hc : CallR X (.builtin id) r) (hs : CallS X.K r f) (hg : Gl X x) (hm : X.mg x = none) (hv : bootBuiltins x = some (.builtin id)) (ha : PAD X (e :: es) g) (hn : x ≠ "__name__" := by decide) (hdb : (x == ("__debug__" : Str)) = false := by decide)
    (he : starEach (e :: es) X.env = (false, eval e X.env) :: starEach es X.env := by rfl) (hpl : (backTo pos (starEach es X.env)).any (·.1) = false := by rfl) : PD X (.Call (.Name x p) (e :: es) [] pos) (gCB f g) := by
  obtain ⟨t, p1, d1⟩ := ha.run
  exact ⟨_, pe_callB hc hg hm hv p1 hn hdb he hpl, sd_cb hs d1⟩
theorem dct (hc : CallR X (.type T) r) (hs : CallS X.K r f) (hg : Gl X x) (hm : X.mg x = none) (hv : bootBuiltins x = some (.type T)) (ha : PAD X (e :: es) g) (hn : x ≠ "__name__" := by decide) (hdb : (x == ("__debug__" : Str)) = false := by decide)
    (he : starEach (e :: es) X.env = (false, eval e X.env) :: starEach es X.env := by rfl) (hpl : (backTo pos (starEach es X.env)).any (·.1) = false := by rfl) : PD X (.Call (.Name x p) (e :: es) [] pos) (gCB f g) := by
  obtain ⟨t, p1, d1⟩ := ha.run
  exact ⟨_, pe_callTy hc hg hm hv p1 hn hdb he hpl, sd_cb hs d1⟩
theorem fcb (hc : CallR X (.builtin id) r) (hs : CallF X.K r ff) (hg : Gl X x) (hm : X.mg x = none) (hv : bootBuiltins x = some (.builtin id)) (ha : PAD X (e :: es) g) (hn : x ≠ "__name__" := by decide) (hdb : (x == ("__debug__" : Str)) = false := by decide)
    (he : starEach (e :: es) X.env = (false, eval e X.env) :: starEach es X.env := by rfl) (hpl : (backTo pos (starEach es X.env)).any (·.1) = false := by rfl) : PF X (.Call (.Name x p) (e :: es) [] pos) (fCB ff g) := by
  obtain ⟨t, p1, d1⟩ := ha.run
  exact ⟨_, pe_callB hc hg hm hv p1 hn hdb he hpl, sf_cb hs d1⟩
theorem fct (hc : CallR X (.type T) r) (hs : CallF X.K r ff) (hg : Gl X x) (hm : X.mg x = none) (hv : bootBuiltins x = some (.type T)) (ha : PAD X (e :: es) g) (hn : x ≠ "__name__" := by decide) (hdb : (x == ("__debug__" : Str)) = false := by decide)
    (he : starEach (e :: es) X.env = (false, eval e X.env) :: starEach es X.env := by rfl) (hpl : (backTo pos (starEach es X.env)).any (·.1) = false := by rfl) : PF X (.Call (.Name x p) (e :: es) [] pos) (fCB ff g) := by
  obtain ⟨t, p1, d1⟩ := ha.run
  exact ⟨_, pe_callTy hc hg hm hv p1 hn hdb he hpl, sf_cb hs d1⟩
end
/-- len -/
def cLen : List PyData → Option PyData
  | [.list ds] => some (.int ds.length)
  | [.tuple ds] => some (.int ds.length)
  | [.str z] => if z.length ≤ big then some (.int z.length) else none
  | _ => none
theorem BDs.one {K : PySem.W.Frag} {B : Bk} {H : Hp} {xs : List V} {d : PyData} (h : BDs K B H xs [d]) : ∃ x, xs = [x] ∧ BD K B H x d := by
  cases h with
  | cons h1 h2 => cases h2; exact ⟨_, rfl, h1⟩
theorem BDs.two {K : PySem.W.Frag} {B : Bk} {H : Hp} {xs : List V} {d d' : PyData} (h : BDs K B H xs [d, d']) : ∃ x y, xs = [x, y] ∧ BD K B H x d ∧ BD K B H y d' := by
  cases h with
  | cons h1 h2 => cases h2 with
    | cons h3 h4 => cases h4; exact ⟨_, _, rfl, h1, h3⟩
theorem cs_len {K : PySem.W.Frag} : CallS K (fun xs H Q => ∃ x n, xs = [x] ∧ LenV K x H n ∧ Q (.int n) H) cLen := by
  intro B H xs ds d Q tr hb e q
  unfold cLen at e
  split at e
  · cases e
    obtain ⟨x, rfl, h⟩ := hb.one
    obtain ⟨p, vs, rfl, h1, h2⟩ := h.list
    refine ⟨_, _, rfl, .inl ⟨vs, h1, rfl⟩, ?_⟩
    rw [h2.length]
    exact q _ H (Same.refl _) (.int _)
  · cases e
    obtain ⟨x, rfl, h⟩ := hb.one
    obtain ⟨p, vs, rfl, h1, h2⟩ := h.tuple
    refine ⟨_, _, rfl, .inr ⟨vs, h1, rfl⟩, ?_⟩
    rw [h2.length]
    exact q _ H (Same.refl _) (.int _)
  · split at e
    · rename_i hz
      cases e
      obtain ⟨x, rfl, h⟩ := hb.one
      rw [h.str]
      exact ⟨_, _, rfl, ⟨big_le hz, rfl⟩, q _ H (Same.refl _) (.int _)⟩
    · cases e
  · cases e
/-- int -/
def cInt : List PyData → Option PyData
  | [.int i] => some (.int i)
  | [.bool k] => some (.int (if k then 1 else 0))
  | _ => none
theorem cs_int {K : PySem.W.Frag} : CallS K (fun xs H Q => (∃ i, xs = [.int i] ∧ Q (.int i) H) ∨ ∃ k, xs = [.bl k] ∧ Q (.int (if k then 1 else 0)) H) cInt := by
  intro B H xs ds d Q tr hb e q
  unfold cInt at e
  split at e
  · cases e
    obtain ⟨x, rfl, h⟩ := hb.one
    rw [h.int]
    exact .inl ⟨_, rfl, q _ H (Same.refl _) (.int _)⟩
  · cases e
    obtain ⟨x, rfl, h⟩ := hb.one
    rw [h.bl]
    exact .inr ⟨_, rfl, q _ H (Same.refl _) (.int _)⟩
  · cases e
/-- ints of data -/
def ints? : List PyData → Option (List Int)
  | [] => some []
  | .int i :: r => (ints? r).map fun l => i :: l
  | _ :: _ => none
theorem ints_of {ds : List PyData} : ∀ {ns : List Int}, ints? ds = some ns → ds = ns.map .int := by
  induction ds with
  | nil => intro ns e; cases e; rfl
  | cons d r ih =>
    intro ns e
    cases d with
    | int i =>
      simp only [ints?, Option.map_eq_some_iff] at e
      obtain ⟨l, e1, e2⟩ := e
      cases e2
      rw [ih e1]; rfl
    | _ => cases e
theorem ints_map (ns : List Int) : ints? (ns.map .int) = some ns := by
  induction ns with
  | nil => rfl
  | cons n r ih => simp only [List.map_cons, ints?, ih, Option.map_some]
theorem BD.ints {K : PySem.W.Frag} {B : Bk} {H : Hp} {x : V} {ns : List Int} (h : BD K B H x (.list (ns.map .int))) : ∃ p, x = .ref p ∧ SqL K H p (ns.map V.int) := by
  obtain ⟨p, vs, rfl, h1, h2⟩ := h.list
  rw [h2.ints] at h1
  exact ⟨p, rfl, h1⟩
def sortI (ns : List Int) : List Int := ns.mergeSort fun a b => decide (a ≤ b)
theorem sortI_perm (ns : List Int) : (sortI ns).Perm ns := List.mergeSort_perm _ _
theorem sortI_pw (ns : List Int) : (sortI ns).Pairwise (· ≤ ·) := by
  have h := List.pairwise_mergeSort (le := fun a b : Int => decide (a ≤ b)) (fun a b c h1 h2 => by simp at *; omega) (fun a b => by simp; omega) ns
  exact h.imp fun h => by simpa using h
theorem sort_one : ∀ {xs ys : List Int}, xs.Perm ys → xs.Pairwise (· ≤ ·) → ys.Pairwise (· ≤ ·) → xs = ys := by
  intro xs ys h h1 h2
  exact List.Perm.eq_of_pairwise (le := (· ≤ ·)) (fun a b _ _ h h' => Int.le_antisymm h h') h1 h2 h
def cSorted : List PyData → Option (List PyData)
  | [.list ds] => (ints? ds).map fun ns => (sortI ns).map .int
  | _ => none
theorem cf_sorted {K : PySem.W.Frag} : CallF K (rSortedI K) cSorted := by
  intro B H xs ds d Q tr hb e q
  unfold cSorted at e
  split at e
  · obtain ⟨ns, e1, e2⟩ := Option.map_eq_some_iff.mp e
    cases e2
    obtain ⟨x, rfl, h⟩ := hb.one
    rw [ints_of e1] at h
    obtain ⟨p, rfl, h1⟩ := h.ints
    refine ⟨p, ns, rfl, h1, fun ns' r h2 h3 h4 => ?_⟩
    have e3 : ns' = sortI ns := sort_one (h2.trans (sortI_perm ns).symm) h3 (sortI_pw ns)
    rw [e3]
    exact q r _ h4 RpA.ofInts
  · cases e
end DL
namespace DL
open PySem PySem.Spec PyProof.Rows L2

/-! ### what a def is worth -/
abbrev FnF := Rho → Option (PyData × Rho)
def toSl (ρ : Rho) : Ar → Option Sl
  | .d d => some (.v d)
  | .s i => match ρ[i]? with
    | some (.l _ ds) => some (.l true ds)
    | some (.w ds) => some (.w ds)
    | _ => none
def toSls (ρ : Rho) : List Ar → Option Rho
  | [] => some []
  | a :: r => (toSl ρ a).bind fun s => (toSls ρ r).map fun l => s :: l
def slotsOf : List Ar → List Nat
  | [] => []
  | .s i :: r => i :: slotsOf r
  | .d _ :: r => slotsOf r
def putL (ρ : Rho) (i : Nat) (ds : List PyData) : Rho := match ρ[i]? with
  | some (.l k _) => ρ.set i (.l k ds)
  | _ => ρ
def put (ρ : Rho) : List Ar → Rho → Rho
  | .s i :: as, .l _ ds :: os => put (putL ρ i ds) as os
  | _ :: as, _ :: os => put ρ as os
  | _, _ => ρ
def sameKind : Rho → Rho → Bool
  | [], [] => true
  | .l _ _ :: r, .l true _ :: r' => sameKind r r'
  | .l _ _ :: _, _ :: _ => false
  | _ :: r, _ :: r' => sameKind r r'
  | _, _ => false
theorem sameKind_at : ∀ {as os : Rho} {i : Nat} {k : Bool} {ds : List PyData}, sameKind as os = true → as[i]? = some (.l k ds) → ∃ ds', os[i]? = some (.l true ds')
  | [], _, _, _, _, _, h => by simp at h
  | .l _ _ :: r, .l true ds' :: r', 0, _, _, _, _ => ⟨ds', rfl⟩
  | .l _ _ :: r, .l true _ :: r', i + 1, _, _, h, e => sameKind_at (as := r) (os := r') (i := i) h (by simpa using e)
  | .l _ _ :: r, .l false _ :: r', _, _, _, h, _ => by cases h
  | .l _ _ :: r, .v _ :: r', _, _, _, h, _ => by cases h
  | .l _ _ :: r, .w _ :: r', _, _, _, h, _ => by cases h
  | .l _ _ :: r, .un :: r', _, _, _, h, _ => by cases h
  | .l _ _ :: _, [], _, _, _, h, _ => by cases h
  | .v _ :: r, [], _, _, _, h, _ => by cases h
  | .w _ :: r, [], _, _, _, h, _ => by cases h
  | .un :: r, [], _, _, _, h, _ => by cases h
  | .v _ :: _, _ :: _, 0, _, _, _, e => by simp at e
  | .w _ :: _, _ :: _, 0, _, _, _, e => by simp at e
  | .un :: _, _ :: _, 0, _, _, _, e => by simp at e
  | .v _ :: r, _ :: r', i + 1, _, _, h, e => sameKind_at (as := r) (os := r') (i := i) h (by simpa using e)
  | .w _ :: r, _ :: r', i + 1, _, _, h, e => sameKind_at (as := r) (os := r') (i := i) h (by simpa using e)
  | .un :: r, _ :: r', i + 1, _, _, h, e => sameKind_at (as := r) (os := r') (i := i) h (by simpa using e)
theorem putL_get {ρ : Rho} {i j : Nat} {ds : List PyData} {s' : Sl} (h : (putL ρ i ds)[j]? = some s') :
    (j ≠ i ∧ ρ[j]? = some s') ∨ (j = i ∧ ((∃ k ds0, ρ[j]? = some (.l k ds0) ∧ s' = .l k ds) ∨ (ρ[j]? = some s' ∧ ∀ k ds0, s' ≠ .l k ds0))) := by
  unfold putL at h
  split at h
  · rename_i k ds0 e
    by_cases hj : j = i
    · subst hj
      have hl : j < ρ.length := (List.getElem?_eq_some_iff.mp e).1
      rw [List.getElem?_set_self hl] at h
      cases h
      exact .inr ⟨rfl, .inl ⟨k, ds0, e, rfl⟩⟩
    · rw [List.getElem?_set_ne (Ne.symm hj)] at h
      exact .inl ⟨hj, h⟩
  · rename_i hn
    by_cases hj : j = i
    · subst hj
      refine .inr ⟨rfl, .inr ⟨h, fun k ds0 e => ?_⟩⟩
      rw [e] at h
      exact hn k ds0 h
    · exact .inl ⟨hj, h⟩
theorem putL_shp (ρ : Rho) (i : Nat) (ds : List PyData) : Shp ρ (putL ρ i ds) := by
  unfold putL
  split
  · rename_i k ds0 e
    unfold Shp
    rw [List.map_set]
    refine List.ext_getElem? fun j => ?_
    by_cases hj : j = i
    · subst hj
      have hl : j < ρ.length := (List.getElem?_eq_some_iff.mp e).1
      rw [List.getElem?_set_self (by simpa using hl), List.getElem?_map, e]
      rfl
    · rw [List.getElem?_set_ne (Ne.symm hj)]
  · rfl
theorem put_shp : ∀ (ars : List Ar) (os : Rho) (ρ : Rho), Shp ρ (put ρ ars os)
  | [], os, _ => by cases os <;> rfl
  | .s i :: as, [], _ => rfl
  | .d _ :: as, [], _ => rfl
  | .s i :: as, .l _ ds :: os, ρ => (putL_shp ρ i ds).trans (put_shp as os _)
  | .s i :: as, .v _ :: os, ρ => put_shp as os ρ
  | .s i :: as, .w _ :: os, ρ => put_shp as os ρ
  | .s i :: as, .un :: os, ρ => put_shp as os ρ
  | .d _ :: as, .l _ _ :: os, ρ => put_shp as os ρ
  | .d _ :: as, .v _ :: os, ρ => put_shp as os ρ
  | .d _ :: as, .w _ :: os, ρ => put_shp as os ρ
  | .d _ :: as, .un :: os, ρ => put_shp as os ρ
theorem mem_slots : ∀ {ars : List Ar} {j i : Nat}, ars[j]? = some (.s i) → i ∈ slotsOf ars
  | [], _, _, h => by simp at h
  | .s i :: as, 0, _, h => by simp at h; subst h; exact List.mem_cons_self
  | .s i :: as, j + 1, _, h => List.mem_cons_of_mem _ (mem_slots (ars := as) (j := j) (by simpa using h))
  | .d _ :: as, 0, _, h => by simp at h
  | .d _ :: as, j + 1, _, h => mem_slots (ars := as) (j := j) (by simpa using h)
/-- what stands in a slot behind it -/
def PutAt (ρ : Rho) (ars : List Ar) (os : Rho) (i : Nat) (s' : Sl) : Prop :=
  (ρ[i]? = some s' ∧ ∀ (j : Nat) (k' : Bool) (ds' : List PyData), ars[j]? = some (Ar.s i) → os[j]? = some (Sl.l k' ds') → ∀ k ds, s' ≠ .l k ds) ∨
  ∃ (j : Nat) (k : Bool) (ds : List PyData) (k' : Bool) (ds' : List PyData), ars[j]? = some (.s i) ∧ os[j]? = some (.l k' ds') ∧ ρ[i]? = some (.l k ds) ∧ s' = .l k ds'
theorem put_skip {ρ : Rho} {as : List Ar} {os : Rho} {i : Nat} {s' : Sl} {a : Ar} {o : Sl} (h : PutAt ρ as os i s') (hn : ∀ i' k ds, ¬ (a = .s i' ∧ o = .l k ds)) : PutAt ρ (a :: as) (o :: os) i s' := by
  rcases h with ⟨h1, h2⟩ | ⟨j, k, ds, k', ds', h1, h2, h3, h4⟩
  · refine .inl ⟨h1, fun j k' ds' e1 e2 => ?_⟩
    cases j with
    | zero =>
      simp at e1 e2
      exact absurd ⟨e1, e2⟩ (hn _ _ _)
    | succ j => exact h2 j k' ds' (by simpa using e1) (by simpa using e2)
  · exact .inr ⟨j + 1, k, ds, k', ds', by simpa using h1, by simpa using h2, h3, h4⟩
theorem put_get : ∀ (ars : List Ar) (os : Rho) (ρ : Rho) {i : Nat} {s' : Sl}, (slotsOf ars).Nodup → (put ρ ars os)[i]? = some s' → PutAt ρ ars os i s'
  | [], os, ρ, i, s', _, h => .inl ⟨by cases os <;> exact h, fun j _ _ e => by simp at e⟩
  | .s i0 :: as, [], ρ, i, s', _, h => .inl ⟨h, fun j _ _ _ e => by simp at e⟩
  | .d _ :: as, [], ρ, i, s', _, h => .inl ⟨h, fun j _ _ _ e => by simp at e⟩
  | .s i0 :: as, .l k0 ds0 :: os, ρ, i, s', nd, h => by
    have nd' : i0 ∉ slotsOf as ∧ (slotsOf as).Nodup := List.nodup_cons.mp nd
    have ih := put_get as os (putL ρ i0 ds0) (i := i) (s' := s') nd'.2 h
    by_cases hi : i = i0
    · subst hi
      rcases ih with ⟨h1, h2⟩ | ⟨j, k, ds, k', ds', h1, _⟩
      · rcases putL_get h1 with ⟨hne, _⟩ | ⟨_, ⟨k, ds1, e1, e2⟩ | ⟨e1, e2⟩⟩
        · exact absurd rfl hne
        · exact .inr ⟨0, k, ds1, k0, ds0, rfl, rfl, e1, e2⟩
        · exact .inl ⟨e1, fun _ _ _ _ _ => e2⟩
      · exact absurd (mem_slots h1) nd'.1
    · rcases ih with ⟨h1, h2⟩ | ⟨j, k, ds, k', ds', h1, h2, h3, h4⟩
      · rcases putL_get h1 with ⟨_, e1⟩ | ⟨e, _⟩
        · refine .inl ⟨e1, fun j k' ds' q1 q2 => ?_⟩
          cases j with
          | zero => simp at q1; exact absurd q1.symm hi
          | succ j => exact h2 j k' ds' (by simpa using q1) (by simpa using q2)
        · exact absurd e hi
      · rcases putL_get h3 with ⟨_, e1⟩ | ⟨e, _⟩
        · exact .inr ⟨j + 1, k, ds, k', ds', by simpa using h1, by simpa using h2, e1, h4⟩
        · exact absurd e hi
  | .s i0 :: as, .v _ :: os, ρ, i, s', nd, h => put_skip (put_get as os ρ (List.nodup_cons.mp nd).2 h) fun _ _ _ z => by cases z.2
  | .s i0 :: as, .w _ :: os, ρ, i, s', nd, h => put_skip (put_get as os ρ (List.nodup_cons.mp nd).2 h) fun _ _ _ z => by cases z.2
  | .s i0 :: as, .un :: os, ρ, i, s', nd, h => put_skip (put_get as os ρ (List.nodup_cons.mp nd).2 h) fun _ _ _ z => by cases z.2
  | .d _ :: as, .l _ _ :: os, ρ, i, s', nd, h => put_skip (put_get as os ρ nd h) fun _ _ _ z => by cases z.1
  | .d _ :: as, .v _ :: os, ρ, i, s', nd, h => put_skip (put_get as os ρ nd h) fun _ _ _ z => by cases z.1
  | .d _ :: as, .w _ :: os, ρ, i, s', nd, h => put_skip (put_get as os ρ nd h) fun _ _ _ z => by cases z.1
  | .d _ :: as, .un :: os, ρ, i, s', nd, h => put_skip (put_get as os ρ nd h) fun _ _ _ z => by cases z.1

structure ArgIn (K : PySem.W.Frag) (B : Bk) (H : Hp) (vs : List V) (as : Rho) : Prop where
  len : vs.length = as.length
  trk : Trk B H
  nu : ∀ (i : Nat), as[i]? ≠ some .un
  val : ∀ (i : Nat) d, as[i]? = some (.v d) → ∃ x, vs[i]? = some x ∧ Rp K (hid B H) x d
  own : ∀ (i : Nat) k ds, as[i]? = some (.l k ds) → k = true ∧ ∃ p ws, vs[i]? = some (.ref p) ∧ B p ∧ H p = some (.lst ws) ∧ RpA K (hid B H) ws ds
  inj : ∀ (i j : Nat) k ds k' ds' p, as[i]? = some (.l k ds) → as[j]? = some (.l k' ds') → vs[i]? = some (.ref p) → vs[j]? = some (.ref p) → i = j
  wr : ∀ (i : Nat) ds, as[i]? = some (.w ds) → ∃ p ws, vs[i]? = some (.ref p) ∧ SqL K (hid B H) p ws ∧ RpA K (hid B H) ws ds
/-- behind the call: all but the held lists stays, these hold what is told -/
structure Past (K : PySem.W.Frag) (B B' : Bk) (H : Hp) (vs : List V) (as outs : Rho) (H' : Hp) : Prop where
  keep : ∀ b o, (∀ (i : Nat) k ds, as[i]? = some (.l k ds) → vs[i]? ≠ some (.ref b)) → H b = some o → H' b = some o
  outs : ∀ (i : Nat) k ds ds' p, as[i]? = some (.l k ds) → outs[i]? = some (.l true ds') → vs[i]? = some (.ref p) → ∃ ws, H' p = some (.lst ws) ∧ RpA K (hid B' H') ws ds'
def spD (K : PySem.W.Frag) (n : Nat) (F : FnF) : Sp := fun vs H Q _ => ∃ B as d outs, vs.length = n ∧ ArgIn K B H vs as ∧ F as = some (d, outs) ∧
  ∀ v H', Past K B B H vs as outs H' → Rp K (hid B H') v d → Q v H'
/-- .. that hands back a new list -/
def spF (K : PySem.W.Frag) (n : Nat) (F : FnF) : Sp := fun vs H Q _ => ∃ B as ds outs, vs.length = n ∧ ArgIn K B H vs as ∧ F as = some (.list ds, outs) ∧
  ∀ p ws H', H p = none → Past K B (fun b => B b ∨ b = p) H vs as outs H' → H' p = some (.lst ws) → RpA K (hid (fun b => B b ∨ b = p) H') ws ds → Q (.ref p) H'

section
variable {K : PySem.W.Frag} {E : En} {B : Bk} {σ : L2.St} {H H' : Hp} {ρ : Rho} {vs : List V} {ars : List Ar} {as outs : Rho}
theorem ars_at (h : ArsOk K B σ H ρ vs ars) : ∀ (j : Nat) (a : Ar), ars[j]? = some a → ∃ x, vs[j]? = some x ∧ ArOk K B σ H ρ x a := by
  induction h with
  | nil => intro j a e; simp at e
  | cons h _ ih =>
    intro j a e
    cases j with
    | zero => simp at e; subst e; exact ⟨_, rfl, h⟩
    | succ j => exact ih j a (by simpa using e)
theorem toSls_at : ∀ {ars : List Ar} {as : Rho}, toSls ρ ars = some as → ∀ (j : Nat) (s : Sl), as[j]? = some s → ∃ a, ars[j]? = some a ∧ toSl ρ a = some s
  | [], as, h, j, s, e => by cases h; simp at e
  | a :: r, as, h, j, s, e => by
    simp only [toSls, Option.bind_eq_some_iff, Option.map_eq_some_iff] at h
    obtain ⟨s0, h1, l, h2, h3⟩ := h
    subst h3
    cases j with
    | zero => simp at e; subst e; exact ⟨a, rfl, h1⟩
    | succ j =>
      obtain ⟨a', q1, q2⟩ := toSls_at (ars := r) h2 j s (by simpa using e)
      exact ⟨a', by simpa using q1, q2⟩
theorem toSls_len : ∀ {ars : List Ar} {as : Rho}, toSls ρ ars = some as → as.length = ars.length
  | [], as, h => by cases h; rfl
  | a :: r, as, h => by
    simp only [toSls, Option.bind_eq_some_iff, Option.map_eq_some_iff] at h
    obtain ⟨s0, h1, l, h2, h3⟩ := h
    subst h3
    rw [List.length_cons, List.length_cons, toSls_len h2]
theorem toSls_of : ∀ {ars : List Ar} {as : Rho}, toSls ρ ars = some as → ∀ (j : Nat) (a : Ar), ars[j]? = some a → ∃ s, as[j]? = some s ∧ toSl ρ a = some s
  | [], as, h, j, s, e => by simp at e
  | a :: r, as, h, j, b, e => by
    simp only [toSls, Option.bind_eq_some_iff, Option.map_eq_some_iff] at h
    obtain ⟨s0, h1, l, h2, h3⟩ := h
    subst h3
    cases j with
    | zero => simp at e; subst e; exact ⟨s0, rfl, h1⟩
    | succ j =>
      obtain ⟨s', q1, q2⟩ := toSls_of (ars := r) h2 j b (by simpa using e)
      exact ⟨s', by simpa using q1, q2⟩
theorem ars_len (h : ArsOk K B σ H ρ vs ars) : vs.length = ars.length := by
  induction h with
  | nil => rfl
  | cons _ _ ih => rw [List.length_cons, List.length_cons, ih]
theorem nodup_slots : ∀ {ars : List Ar} {i j j' : Nat}, (slotsOf ars).Nodup → ars[j]? = some (.s i) → ars[j']? = some (.s i) → j = j'
  | [], _, _, _, _, h, _ => by simp at h
  | .s i0 :: as, i, 0, 0, nd, _, _ => rfl
  | .s i0 :: as, i, 0, j' + 1, nd, h, h' => by
    simp at h
    subst h
    exact absurd (mem_slots (ars := as) (j := j') (by simpa using h')) (List.nodup_cons.mp nd).1
  | .s i0 :: as, i, j + 1, 0, nd, h, h' => by
    simp at h'
    subst h'
    exact absurd (mem_slots (ars := as) (j := j) (by simpa using h)) (List.nodup_cons.mp nd).1
  | .s i0 :: as, i, j + 1, j' + 1, nd, h, h' => by rw [nodup_slots (ars := as) (j := j) (j' := j') (List.nodup_cons.mp nd).2 (by simpa using h) (by simpa using h')]
  | .d _ :: as, i, 0, _, nd, h, _ => by simp at h
  | .d _ :: as, i, _ + 1, 0, nd, _, h => by simp at h
  | .d _ :: as, i, j + 1, j' + 1, nd, h, h' => by rw [nodup_slots (ars := as) (j := j) (j' := j') nd (by simpa using h) (by simpa using h')]
/-- an argument that is a held list -/
theorem arg_own (j : J K E B σ H ρ) (h : ArsOk K B σ H ρ vs ars) (hs : toSls ρ ars = some as) {n : Nat} {k : Bool} {ds : List PyData} (e : as[n]? = some (.l k ds)) :
    k = true ∧ ∃ i k0 p ws, ars[n]? = some (.s i) ∧ ρ[i]? = some (.l k0 ds) ∧ σ[i]? = some (some (.ref p)) ∧ vs[n]? = some (.ref p) ∧ B p ∧ H p = some (.lst ws) ∧ RpA K (hid B H) ws ds ∧ (if k0 = true then E.io p ∧ p = E.ad i else E.H0 p = none) := by
  obtain ⟨a, h1, h2⟩ := toSls_at hs n _ e
  cases a with
  | d d => cases h2
  | s i =>
    simp only [toSl] at h2
    split at h2
    · rename_i k0 ds0 q
      cases h2
      refine ⟨rfl, ?_⟩
      obtain ⟨p, ws, g1, g2, g3, g4, g5⟩ := j.own i k0 ds q
      obtain ⟨x, y1, y2⟩ := ars_at h n _ h1
      have z := y2.1
      rw [g1] at z
      cases z
      exact ⟨i, k0, p, ws, h1, q, g1, y1, g2, g3, g4, g5⟩
    · cases h2
    · cases h2
theorem J.argIn (j : J K E B σ H ρ) (h : ArsOk K B σ H ρ vs ars) (hs : toSls ρ ars = some as) (nd : (slotsOf ars).Nodup) : ArgIn K B H vs as := by
  refine ⟨by rw [ars_len h, toSls_len hs], j.bt, fun i e => ?_, fun i d e => ?_, fun i k ds e => ?_, fun i i' k ds k' ds' p e e' q q' => ?_, fun i ds e => ?_⟩
  · obtain ⟨a, h1, h2⟩ := toSls_at hs i _ e
    cases a with
    | d d' => cases h2
    | s i' =>
      simp only [toSl] at h2
      split at h2 <;> cases h2
  · obtain ⟨a, h1, h2⟩ := toSls_at hs i _ e
    cases a with
    | d d' =>
      cases h2
      exact ars_at h i _ h1
    | s i' =>
      simp only [toSl] at h2
      split at h2 <;> cases h2
  · obtain ⟨h1, _, _, p, ws, _, _, _, h2, h3, h4, h5, _⟩ := arg_own j h hs e
    exact ⟨h1, p, ws, h2, h3, h4, h5⟩
  · obtain ⟨_, i1, k1, p1, ws1, a1, b1, c1, d1, _⟩ := arg_own j h hs e
    obtain ⟨_, i2, k2, p2, ws2, a2, b2, c2, d2, _⟩ := arg_own j h hs e'
    rw [q] at d1
    rw [q'] at d2
    cases d1
    cases d2
    have := j.inj i1 i2 _ _ _ _ p b1 b2 c1 c2
    subst this
    exact nodup_slots nd a1 a2
  · obtain ⟨a, h1, h2⟩ := toSls_at hs i _ e
    cases a with
    | d d' => cases h2
    | s i' =>
      simp only [toSl] at h2
      split at h2
      · cases h2
      · rename_i ds0 q
        cases h2
        obtain ⟨p, ws, g1, g2, g3⟩ := j.wr i' ds q
        obtain ⟨x, y1, y2⟩ := ars_at h i _ h1
        have z := y2.1
        rw [g1] at z
        cases z
        exact ⟨p, ws, y1, g2, g3⟩
      · cases h2
/-- behind a call -/
theorem J.called {B' : Bk} (j : J K E B σ H ρ) (h : ArsOk K B σ H ρ vs ars) (hs : toSls ρ ars = some as) (nd : (slotsOf ars).Nodup) (sk : sameKind as outs = true) (hp : Past K B B' H vs as outs H')
    (hB : ∀ b, B b → B' b) (hN : ∀ b, B' b → B b ∨ H b = none) (hT : ∀ b, B' b → ¬ B b → H' b ≠ none) : J K E B' σ H' (put ρ ars outs) ∧ Ext B H B' H' := by
  have notIo : ∀ b, (∀ (i : Nat) k ds, ρ[i]? = some (.l k ds) → σ[i]? ≠ some (some (.ref b))) → ∀ (i : Nat) k ds, as[i]? = some (.l k ds) → vs[i]? ≠ some (.ref b) := fun b hb i k ds e q => by
    obtain ⟨_, i1, k1, p1, ws1, a1, b1, c1, d1, _⟩ := arg_own j h hs e
    rw [q] at d1
    cases d1
    exact hb i1 _ _ b1 c1
  have ext : Ext B H B' H' := fun b o e => by
    obtain ⟨nb, e⟩ := hid_some.mp e
    refine hid_some.mpr ⟨fun z => (hN b z).elim nb (fun q => by rw [q] at e; cases e), hp.keep b o (notIo b fun i k ds q1 q2 => ?_) e⟩
    obtain ⟨p, ws, g1, g2, _⟩ := j.own i k ds q1
    rw [q2] at g1
    cases g1
    exact nb g2
  have shp := put_shp ars outs ρ
  refine ⟨⟨fun b o ni e => ?_, fun b z => hB b (j.b0 b z), fun b z => ?_, j.b0t, fun b z => ?_, j.ioB, by rw [← shp.len]; exact j.len, fun i d e => ?_, fun i k ds e => ?_, fun i i' k ds k' ds' p e e' q q' => ?_, fun i ds e => ?_⟩, ext⟩
  · refine hp.keep b o (notIo b fun i k ds q1 q2 => ?_) (j.keep b o ni e)
    obtain ⟨p, ws, g1, g2, _, _, g5⟩ := j.own i k ds q1
    rw [q2] at g1
    cases g1
    split at g5
    · exact ni g5.1
    · rw [g5] at e; cases e
  · rcases hN b z with z | z
    · exact j.bn b z
    · exact .inr (j.fresh z).1
  · by_cases nb : B b
    · cases q : H b with
      | none => exact absurd q (j.bt b nb)
      | some o =>
        by_cases io : ∀ (i : Nat) k ds, as[i]? = some (.l k ds) → vs[i]? ≠ some (.ref b)
        · rw [hp.keep b o io q]; simp
        · simp only [Classical.not_forall, Classical.not_not, ne_eq] at io
          obtain ⟨i, k, ds, e1, e2⟩ := io
          obtain ⟨ds', e3⟩ := sameKind_at sk e1
          obtain ⟨ws, e4, _⟩ := hp.outs i k ds ds' b e1 e3 e2
          rw [e4]; simp
    · exact hT b z nb
  · obtain ⟨x, h1, h2⟩ := j.val i d (shp.symm.val e)
    exact ⟨x, h1, h2.ext ext⟩
  · rcases put_get ars outs ρ nd e with ⟨e1, e2⟩ | ⟨n, k1, ds1, k2, ds2, q1, q2, q3, q4⟩
    · obtain ⟨p, ws, g1, g2, g3, g4, g5⟩ := j.own i k ds e1
      refine ⟨p, ws, g1, hB p g2, hp.keep p _ (fun n k' ds' a1 a2 => ?_) g3, g4.mono ext, g5⟩
      obtain ⟨_, i1, k1, p1, ws1, a3, b1, c1, d1, _⟩ := arg_own j h hs a1
      rw [a2] at d1
      cases d1
      have := j.inj i i1 _ _ _ _ p e1 b1 g1 c1
      subst this
      obtain ⟨ds3, a4⟩ := sameKind_at sk a1
      exact e2 n _ _ a3 a4 _ _ rfl
    · cases q4
      obtain ⟨s, s1, s2⟩ := toSls_of hs n _ q1
      simp only [toSl, q3] at s2
      cases s2
      obtain ⟨_, i1, k1', p1, ws1, a3, b1, c1, d1, e5, e6, e7, e8⟩ := arg_own j h hs s1
      rw [q1] at a3
      cases a3
      rw [q3] at b1
      cases b1
      obtain ⟨ds3, a4⟩ := sameKind_at sk s1
      rw [q2] at a4
      cases a4
      obtain ⟨ws', y1, y2⟩ := hp.outs n _ _ _ _ s1 q2 d1
      exact ⟨p1, ws', c1, hB p1 e5, y1, y2, e8⟩
  · obtain ⟨d1, r1⟩ := shp.symm.lst e
    obtain ⟨d2, r2⟩ := shp.symm.lst e'
    exact j.inj i i' _ _ _ _ p r1 r2 q q'
  · obtain ⟨p, ws, h1, h2, h3⟩ := j.wr i ds (shp.symm.wr e)
    exact ⟨p, ws, h1, Same.seq ext h2, h3.mono ext⟩
end
def gCall (F : FnF) (g : AF) : EF := fun ρ => (g ρ).bind fun p => (toSls p.2 p.1).bind fun as => if (slotsOf p.1).Nodup then (F as).bind fun r => if sameKind as r.2 = true then some (.d r.1, put p.2 p.1 r.2) else none else none
def fCall (F : FnF) (g : AF) : FF := fun ρ => (g ρ).bind fun p => (toSls p.2 p.1).bind fun as => if (slotsOf p.1).Nodup then (F as).bind fun r => if sameKind as r.2 = true then (match r.1 with
  | .list ds => some (ds, put p.2 p.1 r.2)
  | _ => none) else none else none
section
variable {X : Cx} {k n : Nat} {f : Addr} {fd : FuncData} {ps : List Str} {x : Str} {p pos : Pos} {e : Expr} {es : List Expr} {g : AF} {F : FnF}
theorem sd_call {K : PySem.W.Frag} {t : TA} (h : Sa K t g) (hn : ∀ ρ as ρ', g ρ = some (as, ρ') → as.length = n) : Sd K (tCall (spD K n F) [] E0 t) (gCall F g) := by
  intro E B σ H ρ a ρ' Q j e q
  simp only [gCall, Option.bind_eq_some_iff] at e
  obtain ⟨⟨ars, ρ1⟩, e1, as, e2, e3⟩ := e
  split at e3
  · rename_i nd
    simp only [Option.bind_eq_some_iff] at e3
    obtain ⟨⟨d, outs⟩, e4, e5⟩ := e3
    split at e5
    · rename_i sk
      cases e5
      refine h E B σ H ρ ars ρ1 _ j e1 fun vs H1 j1 x1 s1 o1 => ?_
      refine ⟨B, as, d, outs, ?_, ?_, e4, fun v H2 pa rp => ?_⟩
      · rw [List.append_nil, ars_len o1]; exact hn _ _ _ e1
      · rw [List.append_nil]; exact j1.argIn o1 e2 nd
      · rw [List.append_nil] at pa
        obtain ⟨j2, x2⟩ := j1.called o1 e2 nd sk pa (fun _ z => z) (fun _ z => .inl z) (fun _ z nz => absurd z nz)
        exact q v H2 j2 (x1.trans x2) (s1.trans (put_shp _ _ _)) rp
    · cases e5
  · cases e3
theorem sf_call {K : PySem.W.Frag} {t : TA} (h : Sa K t g) (hn : ∀ ρ as ρ', g ρ = some (as, ρ') → as.length = n) : Sf K (tCall (spF K n F) [] E0 t) (fCall F g) := by
  intro E B σ H ρ a ρ' Q j e q
  simp only [fCall, Option.bind_eq_some_iff] at e
  obtain ⟨⟨ars, ρ1⟩, e1, as, e2, e3⟩ := e
  split at e3
  · rename_i nd
    simp only [Option.bind_eq_some_iff] at e3
    obtain ⟨⟨d, outs⟩, e4, e5⟩ := e3
    split at e5
    · rename_i sk
      split at e5
      · rename_i ds hd
        simp only at hd
        subst hd
        cases e5
        refine h E B σ H ρ ars ρ1 _ j e1 fun vs H1 j1 x1 s1 o1 => ?_
        refine ⟨B, as, _, outs, ?_, ?_, e4, fun p ws H2 hp pa hl rp => ?_⟩
        · rw [List.append_nil, ars_len o1]; exact hn _ _ _ e1
        · rw [List.append_nil]; exact j1.argIn o1 e2 nd
        · rw [List.append_nil] at pa
          obtain ⟨j2, x2⟩ := j1.called (B' := fun b => B b ∨ b = p) o1 e2 nd sk pa (fun _ z => .inl z) (fun b z => z.elim .inl fun z => .inr (by rw [z]; exact hp)) (fun b z nz => by
            rcases z with z | z
            · exact absurd z nz
            · rw [z, hl]; simp)
          exact q p ws H2 (free_back j1 x1 hp) j2 (x1.trans x2) (s1.trans (put_shp _ _ _)) hl rp
      · cases e5
    · cases e5
  · cases e3
theorem len_nil : ∀ ρ as ρ', gNil ρ = some (as, ρ') → as.length = 0 := fun ρ as ρ' h => by cases h; rfl
theorem len_cons {g : EF} {r : AF} {m : Nat} (h : ∀ ρ as ρ', r ρ = some (as, ρ') → as.length = m) : ∀ ρ as ρ', gCons g r ρ = some (as, ρ') → as.length = m + 1 := fun ρ as ρ' e => by
  unfold gCons at e
  split at e
  · cases e
  · split at e
    · cases e
    · rename_i e2
      cases e
      rw [List.length_cons, h _ _ _ e2]
theorem dcall (G : FnOk X.prog X.w X.K X.mg X.base CX0 k f fd ps (spD X.K n F)) (hr : Room k X.A) (hg : Gl X x) (hm : X.mg x = some (.ref f)) (hk : PySem.W.keepIn X.K (.ref f) = true) (hb : Binds X.K fd ps [])
    (ha : PAD X (e :: es) g) (hn : ∀ ρ as ρ', g ρ = some (as, ρ') → as.length = n) (hdb : (x == ("__debug__" : Str)) = false := by decide) (he : starEach (e :: es) X.env = (false, eval e X.env) :: starEach es X.env := by rfl) (hpl : (backTo pos (starEach es X.env)).any (·.1) = false := by rfl) :
    PD X (.Call (.Name x p) (e :: es) [] pos) (gCall F g) := by
  obtain ⟨t, p1, d1⟩ := ha.run
  exact ⟨_, pe_call G hr hg hm hk hb .nil pass0 p1 hdb he hpl, sd_call d1 hn⟩
theorem fcall (G : FnOk X.prog X.w X.K X.mg X.base CX0 k f fd ps (spF X.K n F)) (hr : Room k X.A) (hg : Gl X x) (hm : X.mg x = some (.ref f)) (hk : PySem.W.keepIn X.K (.ref f) = true) (hb : Binds X.K fd ps [])
    (ha : PAD X (e :: es) g) (hn : ∀ ρ as ρ', g ρ = some (as, ρ') → as.length = n) (hdb : (x == ("__debug__" : Str)) = false := by decide) (he : starEach (e :: es) X.env = (false, eval e X.env) :: starEach es X.env := by rfl) (hpl : (backTo pos (starEach es X.env)).any (·.1) = false := by rfl) :
    PF X (.Call (.Name x p) (e :: es) [] pos) (fCall F g) := by
  obtain ⟨t, p1, d1⟩ := ha.run
  exact ⟨_, pe_call G hr hg hm hk hb .nil pass0 p1 hdb he hpl, sf_call d1 hn⟩
end
end DL
namespace DL
open PySem PySem.Spec PyProof.Rows L2

/-! ### statements -/
inductive Oc where
  | nx (ρ : Rho)
  | rt (d : PyData) (ρ : Rho)
  | bk (ρ : Rho)
  | ct (ρ : Rho)
abbrev SF := Rho → Option Oc
/-- a def's end: fr: a new list is handed back -/
def RetJ (K : PySem.W.Frag) (E : En) (fr : Bool) (d : PyData) (ρ : Rho) (v : V) (H : Hp) : Prop :=
  ∃ B σ, J K E B σ H ρ ∧ (match fr with
    | false => Rp K (hid E.B0 H) v d
    | true => (∃ p ws ds, v = .ref p ∧ d = .list ds ∧ E.H0 p = none ∧ B p ∧ H p = some (.lst ws) ∧ RpA K (hid B H) ws ds) ∨
        (∃ t p xs ws ds rest, v = .ref t ∧ d = .tuple (.list ds :: rest) ∧ SqT K H t (.ref p :: xs) ∧ E.H0 p = none ∧ B p ∧ H p = some (.lst ws) ∧ RpA K (hid B H) ws ds) ∨
        ∃ t p x0 ws ds d0, v = .ref t ∧ d = .dict [(d0, .list ds)] ∧ SqT K H t [x0, .ref p] ∧ E.H0 p = none ∧ B p ∧ H p = some (.lst ws) ∧ RpA K (hid B H) ws ds)
def Fin' (K : PySem.W.Frag) (E : En) (fr : Bool) (B : Bk) (H : Hp) (D : Ends) : Oc → Prop
  | .nx ρ' => ∀ B' σ' H', J K E B' σ' H' ρ' → Ext B H B' H' → D.nx σ' H'
  | .bk ρ' => ∀ B' σ' H', J K E B' σ' H' ρ' → Ext B H B' H' → D.bk σ' H'
  | .ct ρ' => ∀ B' σ' H', J K E B' σ' H' ρ' → Ext B H B' H' → D.ct σ' H'
  | .rt d ρ' => ∀ v H', RetJ K E fr d ρ' v H' → D.rt v H'
theorem Fin'.later {K : PySem.W.Frag} {E : En} {fr : Bool} {B B' : Bk} {H H' : Hp} {D : Ends} {oc : Oc} (h : Fin' K E fr B H D oc) (x : Ext B H B' H') : Fin' K E fr B' H' D oc := by
  cases oc with
  | nx ρ => exact fun B2 σ2 H2 j x2 => h B2 σ2 H2 j (x.trans x2)
  | bk ρ => exact fun B2 σ2 H2 j x2 => h B2 σ2 H2 j (x.trans x2)
  | ct ρ => exact fun B2 σ2 H2 j x2 => h B2 σ2 H2 j (x.trans x2)
  | rt d ρ => exact h
def Ss (K : PySem.W.Frag) (fr : Bool) (t : TS) (g : SF) : Prop := ∀ (E : En) (B : Bk) (σ : L2.St) (H : Hp) (ρ : Rho) (oc : Oc) (D : Ends), J K E B σ H ρ → g ρ = some oc → Fin' K E fr B H D oc → t D σ H
structure SD (X : Cx) (fr : Bool) (st : Stmt) (g : SF) : Prop where
  run : ∃ t, PS X st t ∧ Ss X.K fr t g
structure SsD (X : Cx) (fr : Bool) (sts : List Stmt) (g : SF) : Prop where
  run : ∃ t, PSs X sts t ∧ Ss X.K fr t g
def sNext : SF := fun ρ => some (.nx ρ)
def sSeq (g h : SF) : SF := fun ρ => (g ρ).bind fun oc => match oc with
  | .nx ρ' => h ρ'
  | oc => some oc
theorem ss_next {K : PySem.W.Frag} {fr : Bool} : Ss K fr tNext sNext := by
  intro E B σ H ρ oc D j e q
  cases e
  exact q B σ H j Ext.refl
theorem ss_seq {K : PySem.W.Frag} {fr : Bool} {t u : TS} {g h : SF} (h1 : Ss K fr t g) (h2 : Ss K fr u h) : Ss K fr (tSeq t u) (sSeq g h) := by
  intro E B σ H ρ oc D j e q
  simp only [sSeq, Option.bind_eq_some_iff] at e
  obtain ⟨oc1, e1, e2⟩ := e
  refine h1 E B σ H ρ oc1 _ j e1 ?_
  cases oc1 with
  | nx ρ1 => exact fun B' σ' H' j' x' => h2 E B' σ' H' ρ1 oc D j' e2 (q.later x')
  | bk ρ1 => cases e2; exact q
  | ct ρ1 => cases e2; exact q
  | rt d ρ1 => cases e2; exact q
section
variable {X : Cx} {fr : Bool} {pos : Pos} {st : Stmt} {rest : List Stmt} {g h : SF}
theorem z_nil : SsD X fr [] sNext := ⟨_, pss_nil, ss_next⟩
theorem z_cons (h1 : SD X fr st g) (h2 : SsD X fr rest h) : SsD X fr (st :: rest) (sSeq g h) := by
  obtain ⟨t, p1, d1⟩ := h1.run
  obtain ⟨u, p2, d2⟩ := h2.run
  exact ⟨_, pss_cons p1 p2, ss_seq d1 d2⟩
theorem z_one (h1 : SD X fr st g) : SsD X fr [st] g := by
  obtain ⟨t, p1, d1⟩ := h1.run
  exact ⟨_, pss_one p1, d1⟩
def sNever : SF := fun _ => none
theorem z_never : SD X fr st sNever := ⟨_, ps_never, fun _ _ _ _ _ _ _ _ e => by cases e⟩
theorem zs_never : SsD X fr rest sNever := ⟨_, pss_never, fun _ _ _ _ _ _ _ _ e => by cases e⟩
theorem z_pass : SD X fr (.Pass pos) sNext := ⟨_, ps_pass, ss_next⟩
def sBreak : SF := fun ρ => some (.bk ρ)
def sCont : SF := fun ρ => some (.ct ρ)
theorem z_break : SD X fr (.Break pos) sBreak := ⟨_, ps_break, fun E B σ H ρ oc D j e q => by cases e; exact q B σ H j Ext.refl⟩
theorem z_cont : SD X fr (.Continue pos) sCont := ⟨_, ps_continue, fun E B σ H ρ oc D j e q => by cases e; exact q B σ H j Ext.refl⟩
theorem z_doc {x j pos'} : SD X fr (.Expr (.Constant (.str x) j pos) pos') sNext := ⟨_, ps_doc, ss_next⟩
/-- an expression whose value is dropped -/
def sExpr (g : EF) : SF := fun ρ => (g ρ).map fun p => .nx p.2
theorem z_expr {e : Expr} {g : EF} (he : PD X e g) (hs : swapsWith e none pos.line X.env = pure false := by rfl) : SD X fr (.Expr e pos) (sExpr g) := by
  obtain ⟨t, p, d⟩ := he.run
  refine ⟨_, ps_expr p hs, ?_⟩
  intro E B σ H ρ oc D j e q
  simp only [sExpr, Option.map_eq_some_iff] at e
  obtain ⟨⟨a, ρ1⟩, e1, e2⟩ := e
  subst e2
  exact d E B σ H ρ a ρ1 _ j e1 fun x H1 j1 x1 s1 o1 => q B σ H1 j1 x1
/-- what is held in a slot becomes a value -/
def frz1 : Sl → Sl
  | .l false ds => .v (.list ds)
  | s => s
def frz (ρ : Rho) : Rho := ρ.map frz1
theorem J.freeze {K : PySem.W.Frag} {E : En} {B : Bk} {σ : L2.St} {H : Hp} {ρ : Rho} (j : J K E B σ H ρ) : J K E E.B0 σ H (frz ρ) ∧ Ext B H E.B0 H := by
  have sub : Same (hid B H) (hid E.B0 H) := hid_sub j.b0
  have at_ : ∀ (i : Nat) s, (frz ρ)[i]? = some s → ∃ s0, ρ[i]? = some s0 ∧ frz1 s0 = s := fun i s e => by
    unfold frz at e
    rw [List.getElem?_map] at e
    cases q : ρ[i]? with
    | none => rw [q] at e; cases e
    | some s0 => rw [q] at e; exact ⟨s0, rfl, Option.some.inj e⟩
  refine ⟨⟨j.keep, fun _ z => z, fun b z => .inl z, j.b0t, fun b z => j.bt b (j.b0 b z), j.ioB, by unfold frz; rw [List.length_map]; exact j.len, fun i d e => ?_, fun i k ds e => ?_, fun i i' k ds k' ds' p e e' q q' => ?_, fun i ds e => ?_⟩, sub⟩
  · obtain ⟨s0, e0, e1⟩ := at_ i _ e
    cases s0 with
    | un => cases e1
    | v d' =>
      cases e1
      obtain ⟨x, h1, h2⟩ := j.val i d e0
      exact ⟨x, h1, h2.mono sub⟩
    | w ds => cases e1
    | l k ds =>
      cases k with
      | true => cases e1
      | false =>
        cases e1
        obtain ⟨p, ws, g1, g2, g3, g4, g5⟩ := j.own i _ _ e0
        rw [if_neg Bool.false_ne_true] at g5
        refine ⟨_, g1, .lst (hid_some.mpr ⟨fun z => j.b0t p z g5, g3⟩) (g4.mono sub)⟩
  · obtain ⟨s0, e0, e1⟩ := at_ i _ e
    cases s0 with
    | un => cases e1
    | v d' => cases e1
    | w ds => cases e1
    | l k0 ds0 =>
      cases k0 with
      | false => cases e1
      | true =>
        cases e1
        obtain ⟨p, ws, g1, g2, g3, g4, g5⟩ := j.own i _ _ e0
        rw [if_pos rfl] at g5
        exact ⟨p, ws, g1, j.ioB p g5.1, g3, g4.mono sub, by rw [if_pos rfl]; exact g5⟩
  · obtain ⟨s0, e0, e1⟩ := at_ i _ e
    obtain ⟨s0', e0', e1'⟩ := at_ i' _ e'
    have a : ∃ k1 ds1, s0 = .l k1 ds1 := by
      cases s0 with
      | l k0 ds0 => exact ⟨_, _, rfl⟩
      | _ => cases e1
    have b : ∃ k1 ds1, s0' = .l k1 ds1 := by
      cases s0' with
      | l k0 ds0 => exact ⟨_, _, rfl⟩
      | _ => cases e1'
    obtain ⟨k1, ds1, rfl⟩ := a
    obtain ⟨k2, ds2, rfl⟩ := b
    exact j.inj i i' _ _ _ _ p e0 e0' q q'
  · obtain ⟨s0, e0, e1⟩ := at_ i _ e
    have a : s0 = .w ds := by
      cases s0 with
      | w ds0 => cases e1; rfl
      | l k0 ds0 => cases k0 <;> cases e1
      | _ => cases e1
    subst a
    obtain ⟨p, ws, h1, h2, h3⟩ := j.wr i ds e0
    exact ⟨p, ws, h1, Same.seq sub h2, h3.mono sub⟩
/-- return e -/
def sRet (g : EF) : SF := fun ρ => (g (frz ρ)).bind fun p => match p.1 with
  | .d d => some (.rt d p.2)
  | .s _ => none
theorem z_ret {e : Expr} {g : EF} (he : PD X e g) : SD X false (.Return (some e) pos) (sRet g) := by
  obtain ⟨t, p, d⟩ := he.run
  refine ⟨_, ps_ret p, ?_⟩
  intro E B σ H ρ oc D j e q
  simp only [sRet, Option.bind_eq_some_iff] at e
  obtain ⟨⟨a, ρ1⟩, e1, e2⟩ := e
  split at e2
  · rename_i d' ha
    simp only at ha
    subst ha
    cases e2
    obtain ⟨j1, x1⟩ := j.freeze
    exact d E E.B0 σ H _ _ ρ1 _ j1 e1 fun x H1 j1 x1 s1 o1 => q x H1 ⟨_, _, j1, o1⟩
  · cases e2
def sRetN : SF := fun ρ => some (.rt .none ρ)
theorem z_retn : SD X false (.Return none pos) sRetN := ⟨_, ps_retN, fun E B σ H ρ oc D j e q => by
  cases e
  exact q .non H ⟨_, _, j, .non⟩⟩
/-- return of a new list -/
def sRetF (g : FF) : SF := fun ρ => (g ρ).map fun p => .rt (.list p.1) p.2
theorem z_retF {e : Expr} {g : FF} (he : PF X e g) : SD X true (.Return (some e) pos) (sRetF g) := by
  obtain ⟨t, p, d⟩ := he.run
  refine ⟨_, ps_ret p, ?_⟩
  intro E B σ H ρ oc D j e q
  simp only [sRetF, Option.map_eq_some_iff] at e
  obtain ⟨⟨ds, ρ1⟩, e1, e2⟩ := e
  subst e2
  exact d E B σ H _ _ ρ1 _ j e1 fun p vs H1 hp j1 x1 s1 hl r => q _ H1 ⟨_, _, j1, .inl ⟨p, vs, ds, rfl, rfl, (j.fresh hp).1, .inr rfl, hl, r⟩⟩
/-- return of a held list -/
def sRetO (i : Nat) : SF := fun ρ => match ρ[i]? with
  | some (.l false ds) => some (.rt (.list ds) ρ)
  | _ => none
theorem z_retO (i : Nat) {x : Str} {p2 : Pos} (hN : X.N[i]? = some x := by rfl) (hv : Vis X.env.scope x := by first | exact Or.inl rfl | exact Or.inr (Or.inl rfl) | exact Or.inr (Or.inr rfl)) (hd : (x == ("__debug__" : Str)) = false := by decide)
    (hcd : (x == ("__classdict__" : Str)) = false := by decide) : SD X true (.Return (some (.Name x p2)) pos) (sRetO i) := by
  refine ⟨_, ps_ret (pe_var hN hv hd hcd), ?_⟩
  intro E B σ H ρ oc D j e q
  unfold sRetO at e
  split at e
  · rename_i ds h
    cases e
    obtain ⟨p, ws, g1, g2, g3, g4, g5⟩ := j.own i _ _ h
    rw [if_neg Bool.false_ne_true] at g5
    exact ⟨_, g1, q _ H ⟨_, _, j, .inl ⟨p, ws, ds, rfl, rfl, g5, g2, g3, g4⟩⟩⟩
  · cases e
/-- if -/
def sIf (c : BF) (g h : SF) : SF := fun ρ => (c ρ).bind fun p => if p.1 = true then g p.2 else h p.2
theorem z_if {c : Expr} {a b : List Stmt} {gc : BF} (hc : PB X c gc) (ha : SsD X fr a g) (hb : SsD X fr b h) : SD X fr (.If c a b pos) (sIf gc g h) := by
  obtain ⟨tc, pc, dc⟩ := hc.run
  obtain ⟨t, p1, d1⟩ := ha.run
  obtain ⟨u, p2, d2⟩ := hb.run
  refine ⟨_, ps_if pc p1 p2, ?_⟩
  intro E B σ H ρ oc D j e q
  simp only [sIf, Option.bind_eq_some_iff] at e
  obtain ⟨⟨k, ρ1⟩, e1, e2⟩ := e
  refine dc E B σ H ρ k ρ1 _ j e1 fun H1 j1 x1 s1 => ?_
  cases k with
  | true =>
    rw [if_pos rfl] at e2 ⊢
    exact d1 E B σ H1 ρ1 oc D j1 e2 (q.later x1)
  | false =>
    rw [if_neg Bool.false_ne_true] at e2 ⊢
    exact d2 E B σ H1 ρ1 oc D j1 e2 (q.later x1)
/-- a slot held by the def alone becomes a value from here on -/
def frzAt (i : Nat) (ρ : Rho) : Rho := match ρ[i]? with
  | some (.l false ds) => ρ.set i (.v (.list ds))
  | _ => ρ
theorem set_get {α : Type} {l : List α} {i j : Nat} {a b : α} (h : (l.set i a)[j]? = some b) : (j = i ∧ b = a ∧ i < l.length) ∨ (j ≠ i ∧ l[j]? = some b) := by
  by_cases e : j = i
  · subst e
    by_cases hl : j < l.length
    · rw [List.getElem?_set_self hl] at h
      cases h
      exact .inl ⟨rfl, rfl, hl⟩
    · rw [List.getElem?_eq_none (by simpa using hl)] at h
      cases h
  · rw [List.getElem?_set_ne (Ne.symm e)] at h
    exact .inr ⟨e, h⟩
theorem J.freezeAt {K : PySem.W.Frag} {E : En} {B : Bk} {σ : L2.St} {H : Hp} {ρ : Rho} (i : Nat) (j : J K E B σ H ρ) : ∃ B', J K E B' σ H (frzAt i ρ) ∧ Ext B H B' H := by
  unfold frzAt
  split
  · rename_i ds e
    obtain ⟨p, ws, g1, g2, g3, g4, g5⟩ := j.own i _ _ e
    rw [if_neg Bool.false_ne_true] at g5
    have sub : Same (hid B H) (hid (fun b => B b ∧ b ≠ p) H) := hid_sub fun b z => z.1
    refine ⟨fun b => B b ∧ b ≠ p, ⟨j.keep, fun b z => ⟨j.b0 b z, fun q => j.b0t b z (by rw [q]; exact g5)⟩, fun b z => j.bn b z.1, j.b0t, fun b z => j.bt b z.1, j.ioB, by rw [List.length_set]; exact j.len, fun n d q => ?_, fun n k ds' q => ?_, fun n n' k ds1 k' ds2 p' q q' r r' => ?_, fun n ds' q => ?_⟩, sub⟩
    · rcases set_get q with ⟨rfl, e1, _⟩ | ⟨hn, q⟩
      · cases e1
        exact ⟨_, g1, .lst (hid_some.mpr ⟨fun z => z.2 rfl, g3⟩) (g4.mono sub)⟩
      · obtain ⟨x, h1, h2⟩ := j.val n d q
        exact ⟨x, h1, h2.mono sub⟩
    · rcases set_get q with ⟨rfl, e1, _⟩ | ⟨hn, q⟩
      · cases e1
      · obtain ⟨p', ws', k1, k2, k3, k4, k5⟩ := j.own n k ds' q
        refine ⟨p', ws', k1, ⟨k2, fun z => hn ?_⟩, k3, k4.mono sub, k5⟩
        rw [z] at k1
        exact j.inj n i _ _ _ _ p q e k1 g1
    · rcases set_get q with ⟨_, e1, _⟩ | ⟨hn, q⟩
      · cases e1
      · rcases set_get q' with ⟨_, e1, _⟩ | ⟨hn', q'⟩
        · cases e1
        · exact j.inj n n' _ _ _ _ p' q q' r r'
    · rcases set_get q with ⟨_, e1, _⟩ | ⟨hn, q⟩
      · cases e1
      · obtain ⟨p', ws', h1, h2, h3⟩ := j.wr n ds' q
        exact ⟨p', ws', h1, Same.seq sub h2, h3.mono sub⟩
  · exact ⟨B, j, Ext.refl⟩
def sFrz (i : Nat) (g : SF) : SF := fun ρ => g (frzAt i ρ)
theorem zs_frz (i : Nat) {sts : List Stmt} (h : SsD X fr sts g) : SsD X fr sts (sFrz i g) := by
  obtain ⟨t, p, d⟩ := h.run
  refine ⟨t, p, ?_⟩
  intro E B σ H ρ oc D j e q
  obtain ⟨B', j', x'⟩ := j.freezeAt i
  exact d E B' σ H _ oc D j' e (q.later x')

/-! ### assignments -/
theorem J.set {K : PySem.W.Frag} {E : En} {B : Bk} {σ : L2.St} {H : Hp} {ρ : Rho} {x : V} {d : PyData} (i : Nat) (j : J K E B σ H ρ) (r : Rp K (hid B H) x d) : J K E B (σ.set i (some x)) H (ρ.set i (.v d)) := by
  have σn : ∀ {n : Nat} {s : Sl}, (ρ.set i (.v d))[n]? = some s → n ≠ i → (σ.set i (some x))[n]? = σ[n]? := fun {n s} _ h => List.getElem?_set_ne (Ne.symm h)
  refine ⟨j.keep, j.b0, j.bn, j.b0t, j.bt, j.ioB, by rw [List.length_set, List.length_set]; exact j.len, fun n d' q => ?_, fun n k ds q => ?_, fun n n' k ds k' ds' p q q' a a' => ?_, fun n ds q => ?_⟩
  · rcases set_get q with ⟨rfl, e1, hl⟩ | ⟨hn, q'⟩
    · cases e1
      exact ⟨x, List.getElem?_set_self (by rw [j.len]; exact hl), r⟩
    · rw [σn q hn]
      exact j.val n d' q'
  · rcases set_get q with ⟨rfl, e1, hl⟩ | ⟨hn, q'⟩
    · cases e1
    · rw [σn q hn]
      exact j.own n k ds q'
  · rcases set_get q with ⟨rfl, e1, hl⟩ | ⟨hn, r1⟩
    · cases e1
    · rcases set_get q' with ⟨rfl, e1, hl⟩ | ⟨hn', r2⟩
      · cases e1
      · rw [σn q hn] at a
        rw [σn q' hn'] at a'
        exact j.inj n n' _ _ _ _ p r1 r2 a a'
  · rcases set_get q with ⟨rfl, e1, hl⟩ | ⟨hn, q'⟩
    · cases e1
    · rw [σn q hn]
      exact j.wr n ds q'
theorem J.setO {K : PySem.W.Frag} {E : En} {B : Bk} {σ : L2.St} {H : Hp} {ρ : Rho} {p : Addr} {ws : List V} {ds : List PyData} (i : Nat) (j : J K E B σ H ρ) (hb : B p) (h0 : E.H0 p = none) (hl : H p = some (.lst ws)) (r : RpA K (hid B H) ws ds)
    (no : ∀ (n : Nat) k ds', ρ[n]? = some (.l k ds') → σ[n]? ≠ some (some (.ref p))) : J K E B (σ.set i (some (.ref p))) H (ρ.set i (.l false ds)) := by
  have σn : ∀ {n : Nat} {s : Sl}, (ρ.set i (.l false ds))[n]? = some s → n ≠ i → (σ.set i (some (.ref p)))[n]? = σ[n]? := fun {n s} _ h => List.getElem?_set_ne (Ne.symm h)
  have σi : i < ρ.length → (σ.set i (some (.ref p)))[i]? = some (some (.ref p)) := fun hl => List.getElem?_set_self (by rw [j.len]; exact hl)
  refine ⟨j.keep, j.b0, j.bn, j.b0t, j.bt, j.ioB, by rw [List.length_set, List.length_set]; exact j.len, fun n d' q => ?_, fun n k ds' q => ?_, fun n n' k ds1 k' ds2 p' q q' a a' => ?_, fun n ds' q => ?_⟩
  · rcases set_get q with ⟨rfl, e1, hl⟩ | ⟨hn, q'⟩
    · cases e1
    · rw [σn q hn]
      exact j.val n d' q'
  · rcases set_get q with ⟨rfl, e1, hl'⟩ | ⟨hn, q'⟩
    · cases e1
      exact ⟨p, ws, σi hl', hb, hl, r, by rw [if_neg Bool.false_ne_true]; exact h0⟩
    · rw [σn q hn]
      exact j.own n k ds' q'
  · rcases set_get q with ⟨rfl, e1, hl⟩ | ⟨hn, r1⟩
    · rcases set_get q' with ⟨rfl, e1', hl'⟩ | ⟨hn', r2⟩
      · rfl
      · rw [σi hl] at a
        rw [σn q' hn'] at a'
        cases a
        exact absurd a' (no _ _ _ r2)
    · rcases set_get q' with ⟨rfl, e1', hl'⟩ | ⟨hn', r2⟩
      · rw [σi hl'] at a'
        rw [σn q hn] at a
        cases a'
        exact absurd a (no _ _ _ r1)
      · rw [σn q hn] at a
        rw [σn q' hn'] at a'
        exact j.inj n n' _ _ _ _ p' r1 r2 a a'
  · rcases set_get q with ⟨rfl, e1, hl⟩ | ⟨hn, q'⟩
    · cases e1
    · rw [σn q hn]
      exact j.wr n ds' q'
/-- a name's value -/
def sSet (i : Nat) (g : EF) : SF := fun ρ => (g ρ).bind fun p => match p.1 with
  | .d d => some (.nx (p.2.set i (.v d)))
  | .s _ => none
theorem ss_set {K : PySem.W.Frag} {t : TE} {g : EF} {i : Nat} (h : Sd K t g) : Ss K fr (tAsg t (gName i)) (sSet i g) := by
  intro E B σ H ρ oc D j e q
  simp only [sSet, Option.bind_eq_some_iff] at e
  obtain ⟨⟨a, ρ1⟩, e1, e2⟩ := e
  split at e2
  · rename_i d' ha
    simp only at ha
    subst ha
    cases e2
    exact h E B σ H ρ _ ρ1 _ j e1 fun x H1 j1 x1 s1 o1 => q B _ H1 (j1.set i o1) x1
  · cases e2
theorem z_set (i : Nat) {x : Str} {e : Expr} {pos' : Pos} {g : EF} (hN : X.N.Nodup) (he : PD X e g) (hi : X.N[i]? = some x := by rfl) (hx : Loc X.env.scope x := by first | exact Or.inl rfl | exact Or.inr rfl) (hs : swapsWith e (some (.Name x pos')) pos.line X.env = pure false := by rfl) (hf : X.fn x = true ∨ X.env.scope.names.lookup x = some .local := by first | exact .inl rfl | exact .inr rfl | assumption) :
    SD X fr (.Assign [.Name x pos'] e pos) (sSet i g) := by
  obtain ⟨t, p, d⟩ := he.run
  exact ⟨_, ps_set hN hi hx p hs hf, ss_set d⟩
/-- a name holds a new list -/
def sSetO (i : Nat) (g : FF) : SF := fun ρ => (g ρ).map fun p => .nx (p.2.set i (.l false p.1))
theorem ss_setO {K : PySem.W.Frag} {t : TE} {g : FF} {i : Nat} (h : Sf K t g) : Ss K fr (tAsg t (gName i)) (sSetO i g) := by
  intro E B σ H ρ oc D j e q
  simp only [sSetO, Option.map_eq_some_iff] at e
  obtain ⟨⟨ds, ρ1⟩, e1, e2⟩ := e
  subst e2
  refine h E B σ H ρ ds ρ1 _ j e1 fun p vs H1 hp j1 x1 s1 hl r => q _ _ H1 (j1.setO i (.inr rfl) (j.fresh hp).1 hl r fun n k ds' q1 q2 => ?_) x1
  obtain ⟨ds0, q0⟩ := s1.symm.lst q1
  obtain ⟨p', ws', g1, g2, g3, _⟩ := j.own n k ds0 q0
  rw [q2] at g1
  cases g1
  rw [hp] at g3
  cases g3
theorem z_setO (i : Nat) {x : Str} {e : Expr} {pos' : Pos} {g : FF} (hN : X.N.Nodup) (he : PF X e g) (hi : X.N[i]? = some x := by rfl) (hx : Loc X.env.scope x := by first | exact Or.inl rfl | exact Or.inr rfl) (hs : swapsWith e (some (.Name x pos')) pos.line X.env = pure false := by rfl) (hf : X.fn x = true ∨ X.env.scope.names.lookup x = some .local := by first | exact .inl rfl | exact .inr rfl | assumption) :
    SD X fr (.Assign [.Name x pos'] e pos) (sSetO i g) := by
  obtain ⟨t, p, d⟩ := he.run
  exact ⟨_, ps_set hN hi hx p hs hf, ss_setO d⟩
end
end DL
namespace DL
open PySem PySem.Spec PyProof.Rows L2

/-! ### targets -/
abbrev TGf := PyData → Rho → Option Rho
def Sg (K : PySem.W.Frag) (tg : TG) (g : TGf) (ts : List Nat) : Prop := ∀ (E : En) (B : Bk) (σ : L2.St) (H : Hp) (ρ : Rho) (x : V) (d : PyData) (ρ' : Rho) (Q : L2.St → Hp → Prop), J K E B σ H ρ → Rp K (hid B H) x d → g d ρ = some ρ' →
  (∀ σ', J K E B σ' H ρ' → σ'.length = σ.length → (∀ n : Nat, n ∉ ts → σ'[n]? = σ[n]? ∧ ρ'[n]? = ρ[n]?) → Q σ' H) → tg x σ H Q
structure GD (X : Cx) (e : Expr) (g : TGf) (ts : List Nat) : Prop where
  run : ∃ t, PG X e t ∧ Sg X.K t g ts
abbrev TGsf := List PyData → Rho → Option Rho
def Sgs (K : PySem.W.Frag) (tg : TGs) (g : TGsf) (ts : List Nat) : Prop := ∀ (E : En) (B : Bk) (σ : L2.St) (H : Hp) (ρ : Rho) (xs : List V) (ds : List PyData) (ρ' : Rho) (Q : L2.St → Hp → Prop), J K E B σ H ρ → RpA K (hid B H) xs ds → g ds ρ = some ρ' →
  (∀ σ', J K E B σ' H ρ' → σ'.length = σ.length → (∀ n : Nat, n ∉ ts → σ'[n]? = σ[n]? ∧ ρ'[n]? = ρ[n]?) → Q σ' H) → tg xs σ H Q
structure GsD (X : Cx) (es : List Expr) (g : TGsf) (ts : List Nat) : Prop where
  run : ∃ t, PGs X es t ∧ Sgs X.K t g ts
def gtName (i : Nat) : TGf := fun d ρ => some (ρ.set i (.v d))
def gtNil : TGsf := fun ds ρ => match ds with
  | [] => some ρ
  | _ => none
def gtCons (g : TGf) (h : TGsf) : TGsf := fun ds ρ => match ds with
  | d :: r => (g d ρ).bind fun ρ1 => h r ρ1
  | [] => none
def gtTup (n : Nat) (h : TGsf) : TGf := fun d ρ => match d with
  | .tuple ds => if ds.length = n then h ds ρ else none
  | _ => none
section
variable {X : Cx} {pos : Pos}
theorem t_name (i : Nat) {x : Str} (hN : X.N.Nodup) (hi : X.N[i]? = some x := by rfl) (hx : Loc X.env.scope x := by first | exact Or.inl rfl | exact Or.inr rfl) (hf : X.fn x = true ∨ X.env.scope.names.lookup x = some .local := by first | exact .inl rfl | exact .inr rfl | assumption) : GD X (.Name x pos) (gtName i) [i] := by
  refine ⟨_, pg_name hN hi hx hf, ?_⟩
  intro E B σ H ρ x d ρ' Q j r e q
  cases e
  refine q _ (j.set i r) (List.length_set ..) fun n hn => ?_
  have hne : i ≠ n := fun z => hn (by rw [z]; exact List.mem_singleton.mpr rfl)
  exact ⟨List.getElem?_set_ne hne, List.getElem?_set_ne hne⟩
theorem ts_nil : GsD X [] gtNil [] := by
  refine ⟨_, pgs_nil, ?_⟩
  intro E B σ H ρ xs ds ρ' Q j r e q
  unfold gtNil at e
  split at e
  · cases e
    cases r
    exact ⟨rfl, q σ j rfl fun _ _ => ⟨rfl, rfl⟩⟩
  · cases e
theorem ts_cons {e : Expr} {es : List Expr} {g : TGf} {h : TGsf} {ts us : List Nat} (h1 : GD X e g ts) (h2 : GsD X es h us) (hs : (assignEach (e :: es) X.env).map (·.2) = assign e X.env :: (assignEach es X.env).map (·.2) := by rfl) : GsD X (e :: es) (gtCons g h) (ts ++ us) := by
  obtain ⟨t, p1, d1⟩ := h1.run
  obtain ⟨u, p2, d2⟩ := h2.run
  refine ⟨_, pgs_cons p1 p2 hs, ?_⟩
  intro E B σ H ρ xs ds ρ' Q j r e q
  unfold gtCons at e
  split at e
  · simp only [Option.bind_eq_some_iff] at e
    obtain ⟨ρ1, e1, e2⟩ := e
    cases r with
    | cons r1 r2 =>
      refine ⟨_, _, rfl, d1 E B σ H ρ _ _ ρ1 _ j r1 e1 fun σ1 j1 l1 n1 => ?_⟩
      refine d2 E B σ1 H ρ1 _ _ ρ' Q j1 r2 e2 fun σ2 j2 l2 n2 => q σ2 j2 (l2.trans l1) fun n hn => ?_
      have ha : n ∉ ts := fun z => hn (List.mem_append_left _ z)
      have hb : n ∉ us := fun z => hn (List.mem_append_right _ z)
      exact ⟨(n2 n hb).1.trans (n1 n ha).1, (n2 n hb).2.trans (n1 n ha).2⟩
  · cases e
theorem t_tup {es : List Expr} {k n : Nat} {h : TGsf} {ts : List Nat} (hc : X.calm = true) (hh : GsD X es h ts) (hn : (assignEach es X.env).length = n := by rfl) (hst : (assignEach es X.env).findIdx? (·.1) = none := by rfl) : GD X (.Tuple es k pos) (gtTup n h) ts := by
  obtain ⟨t, p1, d1⟩ := hh.run
  refine ⟨_, pg_tup hc p1 hn hst, ?_⟩
  intro E B σ H ρ x d ρ' Q j r e q
  unfold gtTup at e
  split at e
  · split at e
    · rename_i hl
      cases r with
      | tup h1 h2 => exact ⟨_, _, rfl, seqT hid_le h1, by rw [h2.length]; exact hl, d1 E B σ H ρ _ _ ρ' Q j h2 e q⟩
    · cases e
  · cases e
/-- target = value -/
def sAsg (g : EF) (t : TGf) : SF := fun ρ => (g ρ).bind fun p => match p.1 with
  | .d d => (t d p.2).map fun ρ' => .nx ρ'
  | .s _ => none
theorem z_asg {fr : Bool} {tg e : Expr} {g : EF} {t : TGf} {ts : List Nat} (he : PD X e g) (hg : GD X tg t ts) (hs : swapsWithSole [tg] e pos.line X.env = pure false := by rfl) (hw : swappedStores [tg] e X.env = pure none := by rfl)
    (h1 : (assignEach [tg] X.env).map (·.2) = [assign tg X.env] := by rfl) : SD X fr (.Assign [tg] e pos) (sAsg g t) := by
  obtain ⟨te, p1, d1⟩ := he.run
  obtain ⟨tt, p2, d2⟩ := hg.run
  refine ⟨_, ps_asg p1 p2 hs hw h1, ?_⟩
  intro E B σ H ρ oc D j e q
  simp only [sAsg, Option.bind_eq_some_iff] at e
  obtain ⟨⟨a, ρ1⟩, e1, e2⟩ := e
  split at e2
  · rename_i d' ha
    simp only at ha
    subst ha
    obtain ⟨ρ2, e3, e4⟩ := Option.map_eq_some_iff.mp e2
    subst e4
    exact d1 E B σ H ρ _ ρ1 _ j e1 fun x H1 j1 x1 s1 o1 => d2 E B σ H1 ρ1 x d' ρ2 _ j1 o1 e3 fun σ2 j2 _ _ => q B σ2 H1 j2 x1
  · cases e2
/-- a, b = x, y: two plain names -/
def sPar (i k : Nat) (g : AF) : SF := fun ρ => (g ρ).bind fun p => match p.1 with
  | [.d a, .d b] => some (.nx ((p.2.set i (.v a)).set k (.v b)))
  | _ => none
theorem z_par {fr : Bool} (i k : Nat) {x y : Str} {a b : Expr} {g : AF} {px py pt : Pos} {kt k2 pt2} (hc : X.calm = true) (hN : X.N.Nodup) (ha : PAD X [a, b] g) (hi : X.N[i]? = some x := by rfl) (hj : X.N[k]? = some y := by rfl) (hij : i ≠ k := by decide)
    (hx : X.env.scope.names.lookup x = some .local := by rfl) (hy : X.env.scope.names.lookup y = some .local := by rfl)
    (hw : swappedStores [.Tuple [.Name x px, .Name y py] kt pt] (.Tuple [a, b] k2 pt2) X.env = pure (some [x, y]) := by rfl)
    (hs : swapsWithSole [.Tuple [.Name x px, .Name y py] kt pt] (.Tuple [a, b] k2 pt2) pos.line X.env = pure false := by rfl) :
    SD X fr (.Assign [.Tuple [.Name x px, .Name y py] kt pt] (.Tuple [a, b] k2 pt2) pos) (sPar i k g) := by
  obtain ⟨ta, p1, d1⟩ := ha.run
  refine ⟨_, ps_par hc hN hi hj hij hx hy p1 hw hs, ?_⟩
  intro E B σ H ρ oc D j e q
  simp only [sPar, Option.bind_eq_some_iff] at e
  obtain ⟨⟨as, ρ1⟩, e1, e2⟩ := e
  split at e2
  · rename_i u v ha
    simp only at ha
    subst ha
    cases e2
    refine d1 E B σ H ρ _ ρ1 _ j e1 fun xs H1 j1 x1 s1 o1 => ?_
    cases o1 with
    | cons o1 o2 =>
      cases o2 with
      | cons o2 o3 =>
        cases o3
        exact ⟨_, _, rfl, q B _ H1 ((j1.set i o1).set k o2) x1⟩
  · cases e2
end

/-! ### what is walked -/
def Wk (K : PySem.W.Frag) (Jt : It) (ds : List PyData) (B : Bk) (H : Hp) : Prop := ∀ (B' : Bk) (H' : Hp), Ext B H B' H' → Trk B' H' →
  (∀ (i : Nat) d, ds[i]? = some d → Jt.go i H' ∧ ∀ x H'', Jt.yld i H' x H'' → Same H' H'' ∧ Rp K (hid B' H'') x d) ∧ Jt.stop ds.length H'
abbrev IFn := Rho → Option (List PyData × Rho)
def Si (K : PySem.W.Frag) (wi : TI) (g : IFn) : Prop := ∀ (E : En) (B : Bk) (σ : L2.St) (H : Hp) (ρ : Rho) (ds : List PyData) (ρ' : Rho) (R : It → Hp → Prop), J K E B σ H ρ → g ρ = some (ds, ρ') →
  (∀ Jt H', J K E B σ H' ρ' → Ext B H B H' → Shp ρ ρ' → Wk K Jt ds B H' → R Jt H') → wi σ H R
structure ID (X : Cx) (tg iter : Expr) (g : IFn) : Prop where
  run : ∃ t, PI X tg iter t ∧ Si X.K t g
/-- the list that is read, where it stays -/
def stay (ρ : Rho) : Ar → Option (List PyData)
  | .d (.list ds) => some ds
  | .s i => match ρ[i]? with
    | some (.w ds) => some ds
    | _ => none
  | _ => none
theorem stay_at {K : PySem.W.Frag} {E : En} {B : Bk} {σ : L2.St} {H : Hp} {ρ : Rho} {x : V} {a : Ar} {ds : List PyData} (j : J K E B σ H ρ) (h : ArOk K B σ H ρ x a) (e : stay ρ a = some ds) : ∃ p vs, x = .ref p ∧ SqL K (hid B H) p vs ∧ RpA K (hid B H) vs ds := by
  unfold stay at e
  split at e
  · cases e
    have h' : Rp K (hid B H) x (.list ds) := h
    cases h' with
    | lst h1 h2 => exact ⟨_, _, rfl, .inl (.inl h1), h2⟩
  · rename_i i
    split at e
    · rename_i ds0 q
      cases e
      obtain ⟨p, ws, g1, g2, g3⟩ := j.wr i ds q
      have z := h.1
      rw [g1] at z
      cases z
      exact ⟨p, ws, rfl, g2, g3⟩
    · cases e
  · cases e
theorem wk_list {K : PySem.W.Frag} {B : Bk} {H : Hp} {p : Addr} {vs : List V} {ds : List PyData} (h1 : SqL K (hid B H) p vs) (h2 : RpA K (hid B H) vs ds) : Wk K (Itl K p) ds B H := by
  intro B' H' x tr
  have q : SqL K H' p vs := Same.seq (Same.trans x hid_le) h1
  refine ⟨fun i d e => ?_, ⟨vs, q, by rw [h2.length]; exact Nat.le_refl _⟩⟩
  obtain ⟨v, e1, e2⟩ := h2.get e
  refine ⟨⟨vs, v, q, e1⟩, fun y H'' hy => ?_⟩
  obtain ⟨rfl, hy⟩ := hy
  have := hy vs q
  rw [e1] at this
  cases this
  exact ⟨Same.refl _, e2.ext x⟩
theorem wk_tup {K : PySem.W.Frag} {B : Bk} {H : Hp} {p : Addr} {vs : List V} {ds : List PyData} (h1 : SqT K (hid B H) p vs) (h2 : RpA K (hid B H) vs ds) : Wk K (Itt K p) ds B H := by
  intro B' H' x tr
  have q : SqT K H' p vs := seqT (Same.trans x hid_le) h1
  refine ⟨fun i d e => ?_, ⟨vs, q, by rw [h2.length]; exact Nat.le_refl _⟩⟩
  obtain ⟨v, e1, e2⟩ := h2.get e
  refine ⟨⟨vs, v, q, e1⟩, fun y H'' hy => ?_⟩
  obtain ⟨rfl, hy⟩ := hy
  have := hy vs q
  rw [e1] at this
  cases this
  exact ⟨Same.refl _, e2.ext x⟩
def enumD : Nat → List PyData → List PyData
  | _, [] => []
  | n, d :: r => .tuple [.int (n : Nat), d] :: enumD (n + 1) r
theorem enumD_get : ∀ (ds : List PyData) (n i : Nat) (d : PyData), (enumD n ds)[i]? = some d → ∃ e, ds[i]? = some e ∧ d = .tuple [.int ((n + i : Nat) : Int), e]
  | [], _, _, _, h => by simp [enumD] at h
  | x :: r, n, 0, d, h => by simp [enumD] at h; exact ⟨x, rfl, by rw [← h]; simp⟩
  | x :: r, n, i + 1, d, h => by
    obtain ⟨e, h1, h2⟩ := enumD_get r (n + 1) i d (by simpa [enumD] using h)
    exact ⟨e, by simpa using h1, by rw [h2]; congr 4; omega⟩
theorem enumD_len : ∀ (ds : List PyData) (n : Nat), (enumD n ds).length = ds.length
  | [], _ => rfl
  | _ :: r, n => by simp [enumD, enumD_len r (n + 1)]
theorem wk_enum {K : PySem.W.Frag} {B : Bk} {H : Hp} {p : Addr} {vs : List V} {ds : List PyData} (h1 : SqL K (hid B H) p vs) (h2 : RpA K (hid B H) vs ds) : Wk K (Ite K p) (enumD 0 ds) B H := by
  intro B' H' x tr
  have q : SqL K H' p vs := Same.seq (Same.trans x hid_le) h1
  refine ⟨fun i d e => ?_, ⟨vs, q, by rw [h2.length, enumD_len]; exact Nat.le_refl _⟩⟩
  obtain ⟨d0, e0, rfl⟩ := enumD_get _ _ _ _ e
  obtain ⟨v, e1, e2⟩ := h2.get e0
  refine ⟨⟨vs, v, q, e1⟩, fun y H'' hy => ?_⟩
  obtain ⟨T, z, rfl, hT, rfl, hy⟩ := hy
  have := hy vs q
  rw [e1] at this
  cases this
  refine ⟨same_new hT, rp_tup tr hT (.cons ?_ (.cons (e2.ext x) .nil))⟩
  rw [Nat.zero_add]
  exact .int _
def zipD (ds es : List PyData) : List PyData := List.zipWith (fun a b => .tuple [a, b]) ds es
theorem wk_zip {K : PySem.W.Frag} {B : Bk} {H : Hp} {p p' : Addr} {vs vs' : List V} {ds es : List PyData} (h1 : SqL K (hid B H) p vs) (h2 : RpA K (hid B H) vs ds) (h1' : SqL K (hid B H) p' vs') (h2' : RpA K (hid B H) vs' es) : Wk K (Itz K p p') (zipD ds es) B H := by
  intro B' H' x tr
  have q : SqL K H' p vs := Same.seq (Same.trans x hid_le) h1
  have q' : SqL K H' p' vs' := Same.seq (Same.trans x hid_le) h1'
  refine ⟨fun i d e => ?_, ⟨vs, vs', q, q', ?_⟩⟩
  · unfold zipD at e
    rw [List.getElem?_zipWith] at e
    cases a : ds[i]? with
    | none => rw [a] at e; cases e
    | some d1 =>
      cases b : es[i]? with
      | none => rw [a, b] at e; cases e
      | some d2 =>
        rw [a, b] at e
        cases e
        obtain ⟨v, e1, e2⟩ := h2.get a
        obtain ⟨v', e1', e2'⟩ := h2'.get b
        refine ⟨⟨vs, vs', v, v', q, q', e1, e1'⟩, fun y H'' hy => ?_⟩
        obtain ⟨T, z, z', rfl, hT, rfl, hy, hy'⟩ := hy
        have := hy vs q
        rw [e1] at this
        cases this
        have := hy' vs' q'
        rw [e1'] at this
        cases this
        exact ⟨same_new hT, rp_tup tr hT (.cons (e2.ext x) (.cons (e2'.ext x) .nil))⟩
  · unfold zipD
    rw [List.length_zipWith, h2.length, h2'.length]
    omega
def rngD (lo : Int) (n : Nat) : List PyData := (List.range n).map fun i => .int (lo + (i : Nat))
theorem wk_range {K : PySem.W.Frag} {B : Bk} {H : Hp} {lo : Int} {n : Nat} : Wk K (Itr lo n) (rngD lo n) B H := by
  intro B' H' x tr
  refine ⟨fun i d e => ?_, ?_⟩
  · unfold rngD at e
    rw [List.getElem?_map] at e
    have hi : i < n := by
      by_cases hi : i < n
      · exact hi
      · rw [List.getElem?_eq_none (by simpa using hi)] at e
        cases e
    rw [List.getElem?_range hi] at e
    cases e
    refine ⟨hi, fun y H'' hy => ?_⟩
    obtain ⟨rfl, rfl⟩ := hy
    exact ⟨Same.refl _, .int _⟩
  · show n ≤ _
    unfold rngD
    rw [List.length_map, List.length_range]
    exact Nat.le_refl _
def iSeq (g : EF) : IFn := fun ρ => (g ρ).bind fun p => (stay p.2 p.1).map fun ds => (ds, p.2)
def iTpl (g : EF) : IFn := fun ρ => (g ρ).bind fun p => match p.1 with
  | .d (.tuple ds) => some (ds, p.2)
  | _ => none
def small62 (i : Int) : Prop := -(2 ^ 62) ≤ i ∧ i < 2 ^ 62
noncomputable instance (i : Int) : Decidable (small62 i) := Classical.propDecidable _
noncomputable def iRange1 (g : AF) : IFn := fun ρ => (g ρ).bind fun p => (resA p.2 p.1).bind fun ds => match ds with
  | [.int j] => if small62 j then some (rngD 0 j.toNat, p.2) else none
  | _ => none
noncomputable def iRange2 (g : AF) : IFn := fun ρ => (g ρ).bind fun p => (resA p.2 p.1).bind fun ds => match ds with
  | [.int i, .int j] => if small62 i ∧ small62 j then some (rngD i (j - i).toNat, p.2) else none
  | _ => none
def iEnumD (g : AF) : IFn := fun ρ => (g ρ).bind fun p => match p.1 with
  | [a] => (stay p.2 a).map fun ds => (enumD 0 ds, p.2)
  | _ => none
def iZipD (g : AF) : IFn := fun ρ => (g ρ).bind fun p => match p.1 with
  | [a, b] => (stay p.2 a).bind fun ds => (stay p.2 b).map fun es => (zipD ds es, p.2)
  | _ => none
section
variable {X : Cx} {tg : Expr} {p pos tpos : Pos} {e e2 : Expr} {g : EF} {ga : AF} {elts : List Expr} {kk : Nat}
theorem i_seq (h : PD X e g) : ID X tg e (iSeq g) := by
  obtain ⟨t, p, d⟩ := h.run
  refine ⟨_, pi_list p, ?_⟩
  intro E B σ H ρ ds ρ' R j e q
  simp only [iSeq, Option.bind_eq_some_iff, Option.map_eq_some_iff] at e
  obtain ⟨⟨a, ρ1⟩, e1, ds1, e2, e3⟩ := e
  cases e3
  refine d E B σ H ρ a _ _ j e1 fun x H1 j1 x1 s1 o1 => ?_
  obtain ⟨p, vs, rfl, h1, h2⟩ := stay_at j1 o1 e2
  exact ⟨p, rfl, ⟨vs, Same.seq hid_le h1⟩, q _ H1 j1 x1 s1 (wk_list h1 h2)⟩
theorem i_tup (h : PD X e g) : ID X tg e (iTpl g) := by
  obtain ⟨t, p, d⟩ := h.run
  refine ⟨_, pi_tup p, ?_⟩
  intro E B σ H ρ ds ρ' R j e q
  simp only [iTpl, Option.bind_eq_some_iff] at e
  obtain ⟨⟨a, ρ1⟩, e1, e2⟩ := e
  split at e2
  · rename_i ds1 ha
    simp only at ha
    subst ha
    cases e2
    refine d E B σ H ρ _ _ _ j e1 fun x H1 j1 x1 s1 o1 => ?_
    have o2 : Rp X.K (hid B H1) x (.tuple ds) := o1
    cases o2 with
    | tup h1 h2 => exact ⟨_, rfl, ⟨_, seqT hid_le h1⟩, q _ H1 j1 x1 s1 (wk_tup h1 h2)⟩
  · cases e2
theorem i_range1 (hg : Gl X "range") (hm : X.mg "range" = none) (ha : PAD X [e] ga) (hs : starEach [e] X.env = [(false, eval e X.env)] := by rfl) : ID X tg (.Call (.Name "range" p) [e] [] pos) (iRange1 ga) := by
  obtain ⟨t, p1, d⟩ := ha.run
  refine ⟨_, pi_range1 hg hm p1 hs, ?_⟩
  intro E B σ H ρ ds ρ' R j e q
  simp only [iRange1, Option.bind_eq_some_iff] at e
  obtain ⟨⟨as, ρ1⟩, e1, ds1, e2, e3⟩ := e
  split at e3
  · split at e3
    · rename_i i hs
      cases e3
      refine d E B σ H ρ as _ _ j e1 fun xs H1 j1 x1 s1 o1 => ?_
      obtain ⟨x, rfl, h⟩ := (o1.bds j1 e2).one
      rw [h.int]
      exact ⟨i, rfl, hs.1, hs.2, q _ H1 j1 x1 s1 wk_range⟩
    · cases e3
  · cases e3
theorem i_range2 (hg : Gl X "range") (hm : X.mg "range" = none) (ha : PAD X [e, e2] ga) (hs : starEach [e, e2] X.env = [(false, eval e X.env), (false, eval e2 X.env)] := by rfl) (hs2 : starEach [e2] X.env = [(false, eval e2 X.env)] := by rfl) : ID X tg (.Call (.Name "range" p) [e, e2] [] pos) (iRange2 ga) := by
  obtain ⟨t, p1, d⟩ := ha.run
  refine ⟨_, pi_range2 hg hm p1 hs hs2, ?_⟩
  intro E B σ H ρ ds ρ' R j e q
  simp only [iRange2, Option.bind_eq_some_iff] at e
  obtain ⟨⟨as, ρ1⟩, e1, ds1, e2, e3⟩ := e
  split at e3
  · split at e3
    · rename_i i i' hs
      cases e3
      refine d E B σ H ρ as _ _ j e1 fun xs H1 j1 x1 s1 o1 => ?_
      obtain ⟨x, y, rfl, h, h'⟩ := (o1.bds j1 e2).two
      rw [h.int, h'.int]
      exact ⟨i, i', rfl, ⟨hs.1.1, hs.1.2, hs.2.1, hs.2.2⟩, q _ H1 j1 x1 s1 wk_range⟩
    · cases e3
  · cases e3
theorem i_enum (hg : Gl X "enumerate") (hm : X.mg "enumerate" = none) (ha : PAD X [e] ga) (hs : starEach [e] X.env = [(false, eval e X.env)] := by rfl) : ID X (.Tuple elts kk tpos) (.Call (.Name "enumerate" p) [e] [] pos) (iEnumD ga) := by
  obtain ⟨t, p1, d⟩ := ha.run
  refine ⟨_, pi_enum hg hm p1 hs, ?_⟩
  intro E B σ H ρ ds ρ' R j e q
  simp only [iEnumD, Option.bind_eq_some_iff] at e
  obtain ⟨⟨as, ρ1⟩, e1, e2⟩ := e
  split at e2
  · rename_i a ha
    simp only at ha
    subst ha
    obtain ⟨ds1, e3, e4⟩ := Option.map_eq_some_iff.mp e2
    cases e4
    refine d E B σ H ρ _ _ _ j e1 fun xs H1 j1 x1 s1 o1 => ?_
    cases o1 with
    | cons o1 o2 =>
      cases o2
      obtain ⟨p, vs, rfl, h1, h2⟩ := stay_at j1 o1 e3
      exact ⟨p, vs, rfl, Same.seq hid_le h1, q _ H1 j1 x1 s1 (wk_enum h1 h2)⟩
  · cases e2
theorem i_zip (hg : Gl X "zip") (hm : X.mg "zip" = none) (ha : PAD X [e, e2] ga) (hs : starEach [e, e2] X.env = (false, eval e X.env) :: starEach [e2] X.env := by rfl) (hpl : (backTo pos (starEach [e2] X.env)).any (·.1) = false := by rfl) : ID X (.Tuple elts kk tpos) (.Call (.Name "zip" p) [e, e2] [] pos) (iZipD ga) := by
  obtain ⟨t, p1, d⟩ := ha.run
  refine ⟨_, pi_zip hg hm p1 hs hpl, ?_⟩
  intro E B σ H ρ ds ρ' R j e q
  simp only [iZipD, Option.bind_eq_some_iff] at e
  obtain ⟨⟨as, ρ1⟩, e1, e2⟩ := e
  split at e2
  · rename_i a b ha
    simp only at ha
    subst ha
    simp only [Option.bind_eq_some_iff, Option.map_eq_some_iff] at e2
    obtain ⟨ds1, e3, es1, e4, e5⟩ := e2
    cases e5
    refine d E B σ H ρ _ _ _ j e1 fun xs H1 j1 x1 s1 o1 => ?_
    cases o1 with
    | cons o1 o2 =>
      cases o2 with
      | cons o2 o3 =>
        cases o3
        obtain ⟨p, vs, rfl, h1, h2⟩ := stay_at j1 o1 e3
        obtain ⟨p', vs', rfl, h1', h2'⟩ := stay_at j1 o2 e4
        exact ⟨p, p', vs, vs', rfl, Same.seq hid_le h1, Same.seq hid_le h1', q _ H1 j1 x1 s1 (wk_zip h1 h2 h1' h2')⟩
  · cases e2
end

/-! ### for -/
def forGo (t : TGf) (b : SF) : List PyData → SF
  | [], ρ => some (.nx ρ)
  | d :: ds, ρ => (t d ρ).bind fun ρ1 => (b ρ1).bind fun o => match o with
    | .nx ρ2 => forGo t b ds ρ2
    | .ct ρ2 => forGo t b ds ρ2
    | .bk ρ2 => some (.nx ρ2)
    | .rt d ρ2 => some (.rt d ρ2)
def sFor (i : IFn) (t : TGf) (b : SF) : SF := fun ρ => (i ρ).bind fun p => forGo t b p.1 p.2
theorem ss_for {K : PySem.W.Frag} {fr : Bool} {wi : TI} {tg : TG} {tb : TS} {i : IFn} {t : TGf} {ts : List Nat} {b : SF} (h1 : Si K wi i) (h2 : Sg K tg t ts) (h3 : Ss K fr tb b) : Ss K fr (tFor wi tg tb) (sFor i t b) := by
  intro E B σ H ρ oc D j e q
  simp only [sFor, Option.bind_eq_some_iff] at e
  obtain ⟨⟨ds, ρ1⟩, e1, e2⟩ := e
  refine h1 E B σ H ρ ds ρ1 _ j e1 fun Jt H1 j1 x1 s1 wk => ?_
  refine ⟨fun i m σ' H' => ∃ B' ρ', J K E B' σ' H' ρ' ∧ Ext B H1 B' H' ∧ i ≤ ds.length ∧ m = ds.length - i ∧ forGo t b (ds.drop i) ρ' = some oc, ⟨_, B, ρ1, j1, Ext.refl, Nat.zero_le _, rfl, e2⟩, ?_⟩
  rintro i m σ' H' ⟨B', ρ', j', x', hi, rfl, go⟩
  obtain ⟨turn, stop⟩ := wk B' H' x' j'.bt
  by_cases hlt : i < ds.length
  · have ed : ds[i]? = some ds[i] := List.getElem?_eq_getElem hlt
    obtain ⟨hgo, yl⟩ := turn i _ ed
    rw [List.drop_eq_getElem_cons hlt] at go
    simp only [forGo, Option.bind_eq_some_iff] at go
    obtain ⟨ρ2, g1, o, g2, g3⟩ := go
    refine .inr ⟨hgo, fun σ3 H3 => ∃ B3 ρ3, J K E B3 σ3 H3 ρ3 ∧ Ext B H1 B3 H3 ∧ forGo t b (ds.drop (i + 1)) ρ3 = some oc, ?_, fun x H2 y => ?_⟩
    · rintro σ3 H3 ⟨B3, ρ3, j3, x3, g⟩
      exact ⟨ds.length - (i + 1), by omega, B3, ρ3, j3, x3, hlt, rfl, g⟩
    · obtain ⟨sm, rp⟩ := yl x H2 y
      refine h2 E B' σ' H2 ρ' x _ ρ2 _ (j'.grow sm) rp g1 fun σ4 j4 _ _ => ?_
      have x4 : Ext B H1 B' H2 := x'.trans (Ext.grow sm)
      refine h3 E B' σ4 H2 ρ2 o _ j4 g2 ?_
      cases o with
      | nx ρ3 => exact fun B5 σ5 H5 j5 x5 => ⟨B5, ρ3, j5, x4.trans x5, g3⟩
      | ct ρ3 => exact fun B5 σ5 H5 j5 x5 => ⟨B5, ρ3, j5, x4.trans x5, g3⟩
      | bk ρ3 => cases g3; exact fun B5 σ5 H5 j5 x5 => q B5 σ5 H5 j5 ((x1.trans x4).trans x5)
      | rt d ρ3 => cases g3; exact q
  · have e : i = ds.length := by omega
    subst e
    rw [List.drop_eq_nil_of_le (Nat.le_refl _)] at go
    cases go
    exact .inl ⟨stop, q B' σ' H' j' (x1.trans x')⟩
theorem z_for {X : Cx} {fr : Bool} {pos : Pos} {tg iter : Expr} {body : List Stmt} {i : IFn} {t : TGf} {ts : List Nat} {b : SF} (hp : PassesOwn (model X.prog X.w) X.A X.env X.xe) (hc : X.calm = true) (hi : ID X tg iter i) (hg : GD X tg t ts) (hb : SsD X fr body b)
    (hs : ∀ x, foldedSetIterable iter X.env x = pure x := by intro _; rfl) : SD X fr (.For tg iter body [] pos) (sFor i t b) := by
  obtain ⟨ti, p1, d1⟩ := hi.run
  obtain ⟨tg', p2, d2⟩ := hg.run
  obtain ⟨tb, p3, d3⟩ := hb.run
  exact ⟨_, ps_for hp hc p1 p2 p3 hs, ss_for d1 d2 d3⟩

/-! ### while -/
def whileGo (c : BF) (b : SF) : Nat → SF
  | 0, _ => none
  | n + 1, ρ => (c ρ).bind fun p => if p.1 = true then (b p.2).bind fun o => match o with
    | .nx ρ2 => whileGo c b n ρ2
    | .ct ρ2 => whileGo c b n ρ2
    | .bk ρ2 => some (.nx ρ2)
    | .rt d ρ2 => some (.rt d ρ2) else some (.nx p.2)
theorem whileGo_mono {c : BF} {b : SF} : ∀ {n m : Nat} {ρ : Rho} {o : Oc}, n ≤ m → whileGo c b n ρ = some o → whileGo c b m ρ = some o
  | 0, _, _, _, _, h => by cases h
  | n + 1, 0, _, _, hl, _ => by omega
  | n + 1, m + 1, ρ, o, hl, h => by
    simp only [whileGo, Option.bind_eq_some_iff] at h ⊢
    obtain ⟨p, h1, h2⟩ := h
    refine ⟨p, h1, ?_⟩
    split at h2
    · rename_i hp
      rw [if_pos hp]
      simp only [Option.bind_eq_some_iff] at h2 ⊢
      obtain ⟨o1, h3, h4⟩ := h2
      refine ⟨o1, h3, ?_⟩
      cases o1 with
      | nx ρ2 => exact whileGo_mono (by omega) h4
      | ct ρ2 => exact whileGo_mono (by omega) h4
      | bk ρ2 => exact h4
      | rt d ρ2 => exact h4
    · rename_i hp
      rw [if_neg hp]
      exact h2
open Classical in
noncomputable def sWhile (c : BF) (b : SF) : SF := fun ρ => if h : ∃ n o, whileGo c b n ρ = some o then some (Classical.choose (Classical.choose_spec h)) else none
theorem sWhile_of {c : BF} {b : SF} {n : Nat} {ρ : Rho} {o : Oc} (h : whileGo c b n ρ = some o) : sWhile c b ρ = some o := by
  unfold sWhile
  have hh : ∃ n o, whileGo c b n ρ = some o := ⟨n, o, h⟩
  rw [dif_pos hh]
  have q := Classical.choose_spec (Classical.choose_spec hh)
  have a := whileGo_mono (Nat.le_max_left n (Classical.choose hh)) h
  have b' := whileGo_mono (Nat.le_max_right n (Classical.choose hh)) q
  rw [a] at b'
  exact b'.symm
theorem of_sWhile {c : BF} {b : SF} {ρ : Rho} {o : Oc} (h : sWhile c b ρ = some o) : ∃ n, whileGo c b n ρ = some o := by
  unfold sWhile at h
  split at h
  · rename_i hh
    cases h
    exact ⟨_, Classical.choose_spec (Classical.choose_spec hh)⟩
  · cases h
theorem while_no {c : BF} {b : SF} {ρ ρ1 : Rho} (h : c ρ = some (false, ρ1)) : sWhile c b ρ = some (.nx ρ1) := sWhile_of (n := 1) (by simp [whileGo, h])
theorem while_rt {c : BF} {b : SF} {ρ ρ1 ρ2 : Rho} {d : PyData} (h : c ρ = some (true, ρ1)) (h2 : b ρ1 = some (.rt d ρ2)) : sWhile c b ρ = some (.rt d ρ2) := sWhile_of (n := 1) (by simp [whileGo, h, h2])
theorem while_bk {c : BF} {b : SF} {ρ ρ1 ρ2 : Rho} (h : c ρ = some (true, ρ1)) (h2 : b ρ1 = some (.bk ρ2)) : sWhile c b ρ = some (.nx ρ2) := sWhile_of (n := 1) (by simp [whileGo, h, h2])
theorem while_on {c : BF} {b : SF} {ρ ρ1 ρ2 : Rho} {o : Oc} (h : c ρ = some (true, ρ1)) (h2 : b ρ1 = some (.nx ρ2)) (h3 : sWhile c b ρ2 = some o) : sWhile c b ρ = some o := by
  obtain ⟨n, hn⟩ := of_sWhile h3
  exact sWhile_of (n := n + 1) (by simp [whileGo, h, h2, hn])
theorem while_ct {c : BF} {b : SF} {ρ ρ1 ρ2 : Rho} {o : Oc} (h : c ρ = some (true, ρ1)) (h2 : b ρ1 = some (.ct ρ2)) (h3 : sWhile c b ρ2 = some o) : sWhile c b ρ = some o := by
  obtain ⟨n, hn⟩ := of_sWhile h3
  exact sWhile_of (n := n + 1) (by simp [whileGo, h, h2, hn])
theorem ss_while {K : PySem.W.Frag} {fr : Bool} {tc : TT} {tb : TS} {c : BF} {b : SF} (h1 : Sb K tc c) (h2 : Ss K fr tb b) : Ss K fr (tWhile tc tb) (sWhile c b) := by
  intro E B σ H ρ oc D j e q
  obtain ⟨n0, e0⟩ := of_sWhile e
  refine ⟨fun n σ' H' => ∃ B' ρ', J K E B' σ' H' ρ' ∧ Ext B H B' H' ∧ whileGo c b n ρ' = some oc, ⟨n0, B, ρ, j, Ext.refl, e0⟩, ?_⟩
  rintro n σ' H' ⟨B', ρ', j', x', go⟩
  cases n with
  | zero => cases go
  | succ n =>
    simp only [whileGo, Option.bind_eq_some_iff] at go
    obtain ⟨⟨k, ρ2⟩, g1, g2⟩ := go
    refine h1 E B' σ' H' ρ' k ρ2 _ j' g1 fun H2 j2 x2 s2 => ?_
    cases k with
    | false =>
      rw [if_neg Bool.false_ne_true] at g2 ⊢
      cases g2
      exact q B' σ' H2 j2 (x'.trans x2)
    | true =>
      rw [if_pos rfl] at g2 ⊢
      simp only [Option.bind_eq_some_iff] at g2
      obtain ⟨o, g3, g4⟩ := g2
      refine ⟨fun σ3 H3 => ∃ B3 ρ3, J K E B3 σ3 H3 ρ3 ∧ Ext B H B3 H3 ∧ whileGo c b n ρ3 = some oc, ?_, ?_⟩
      · rintro σ3 H3 ⟨B3, ρ3, j3, x3, g⟩
        exact ⟨n, Nat.lt_succ_self n, B3, ρ3, j3, x3, g⟩
      · refine h2 E B' σ' H2 ρ2 o _ j2 g3 ?_
        cases o with
        | nx ρ3 => exact fun B5 σ5 H5 j5 x5 => ⟨B5, ρ3, j5, (x'.trans x2).trans x5, g4⟩
        | ct ρ3 => exact fun B5 σ5 H5 j5 x5 => ⟨B5, ρ3, j5, (x'.trans x2).trans x5, g4⟩
        | bk ρ3 => cases g4; exact fun B5 σ5 H5 j5 x5 => q B5 σ5 H5 j5 ((x'.trans x2).trans x5)
        | rt d ρ3 => cases g4; exact q
theorem z_while {X : Cx} {fr : Bool} {pos : Pos} {c : Expr} {body : List Stmt} {gc : BF} {b : SF} (hp : PassesOwn (model X.prog X.w) X.A X.env X.xe) (hc : PB X c gc) (hb : SsD X fr body b) : SD X fr (.While c body [] pos) (sWhile gc b) := by
  obtain ⟨tc, p1, d1⟩ := hc.run
  obtain ⟨tb, p2, d2⟩ := hb.run
  exact ⟨_, ps_while hp p1 p2, ss_while d1 d2⟩

/-! ### held lists are written -/
theorem J.write {K : PySem.W.Frag} {E : En} {B : Bk} {σ : L2.St} {H : Hp} {ρ : Rho} {i : Nat} {k : Bool} {ds ds' : List PyData} {p : Addr} {ws : List V} (j : J K E B σ H ρ) (e : ρ[i]? = some (.l k ds)) (hp : σ[i]? = some (some (.ref p))) (r : RpA K (hid B H) ws ds') :
    J K E B σ (upd H p (.lst ws)) (ρ.set i (.l k ds')) ∧ Ext B H B (upd H p (.lst ws)) := by
  obtain ⟨p0, vs0, g1, g2, g3, g4, g5⟩ := j.own i k ds e
  rw [hp] at g1
  cases g1
  have x : Ext B H B (upd H p (.lst ws)) := fun b o q => by
    obtain ⟨nb, q⟩ := hid_some.mp q
    refine hid_some.mpr ⟨nb, ?_⟩
    rw [upd_ne (fun z => nb (by rw [z]; exact g2))]
    exact q
  refine ⟨⟨fun b o ni q => ?_, j.b0, j.bn, j.b0t, fun b q => ?_, j.ioB, by rw [List.length_set]; exact j.len, fun n d q => ?_, fun n k' ds1 q => ?_, fun n n' k1 ds1 k2 ds2 p' q q' a a' => ?_, fun n ds1 q => ?_⟩, x⟩
  · by_cases hb : b = p
    · exfalso
      subst hb
      split at g5
      · exact ni g5.1
      · rw [g5] at q; cases q
    · rw [upd_ne hb]
      exact j.keep b o ni q
  · by_cases hb : b = p
    · rw [hb, upd_same]; simp
    · rw [upd_ne hb]; exact j.bt b q
  · rcases set_get q with ⟨_, e1, _⟩ | ⟨hn, q⟩
    · cases e1
    · obtain ⟨y, h1, h2⟩ := j.val n d q
      exact ⟨y, h1, h2.ext x⟩
  · rcases set_get q with ⟨rfl, e1, _⟩ | ⟨hn, q⟩
    · cases e1
      exact ⟨p, ws, hp, g2, upd_same, r.mono x, g5⟩
    · obtain ⟨p', ws', h1, h2, h3, h4, h5⟩ := j.own n k' ds1 q
      refine ⟨p', ws', h1, h2, ?_, h4.mono x, h5⟩
      rw [upd_ne (fun z => hn ?_)]
      · exact h3
      · rw [z] at h1
        exact j.inj n i _ _ _ _ p q e h1 hp
  · rcases set_get q with ⟨y1, _, _⟩ | ⟨_, r1⟩
    · rcases set_get q' with ⟨y2, _, _⟩ | ⟨_, r2⟩
      · rw [y1, y2]
      · rw [y1] at a ⊢
        exact j.inj _ _ _ _ _ _ p' e r2 a a'
    · rcases set_get q' with ⟨y2, _, _⟩ | ⟨_, r2⟩
      · rw [y2] at a' ⊢
        exact j.inj _ _ _ _ _ _ p' r1 e a a'
      · exact j.inj _ _ _ _ _ _ p' r1 r2 a a'
  · rcases set_get q with ⟨_, e1, _⟩ | ⟨hn, q⟩
    · cases e1
    · obtain ⟨p', ws', h1, h2, h3⟩ := j.wr n ds1 q
      exact ⟨p', ws', h1, Same.seq x h2, h3.mono x⟩
def getL (ρ : Rho) (i : Nat) : Option (Bool × List PyData) := match ρ[i]? with
  | some (.l k ds) => some (k, ds)
  | _ => none
theorem getL_some {ρ : Rho} {i : Nat} {k : Bool} {ds : List PyData} (h : getL ρ i = some (k, ds)) : ρ[i]? = some (.l k ds) := by
  unfold getL at h
  split at h
  · rename_i k' ds' e
    cases h
    exact e
  · cases h
/-- xs.append(e) -/
def sApp (i : Nat) (g : EF) : SF := fun ρ => (getL ρ i).bind fun _ => (g ρ).bind fun p => match p.1 with
  | .d d => (getL p.2 i).bind fun q => if q.2.length < big then some (.nx (p.2.set i (.l q.1 (q.2 ++ [d])))) else none
  | .s _ => none
section
variable {X : Cx} {fr : Bool} {pos : Pos}
theorem ss_app {K : PySem.W.Frag} {i : Nat} {g : EF} {te : TE} (d1 : Sd K te g) : Ss K fr (tDrop (tBM K "list" rAppend (tVar i) (tCons te tNil))) (sApp i g) := by
  intro E B σ H ρ oc D j e q
  simp only [sApp, Option.bind_eq_some_iff] at e
  obtain ⟨⟨k0, ds0⟩, e0, ⟨a, ρ1⟩, e1, e2⟩ := e
  split at e2
  · rename_i d' ha
    simp only at ha
    subst ha
    simp only [Option.bind_eq_some_iff] at e2
    obtain ⟨⟨k, ds⟩, e3, e4⟩ := e2
    split at e4
    · rename_i hz
      cases e4
      have e5 := getL_some e3
      obtain ⟨p0, vs0, a1, a2, a3, a4, a5⟩ := j.own i _ _ (getL_some e0)
      refine ⟨_, a1, .inl ⟨rfl, _, SqL.of a3⟩, ?_⟩
      refine d1 E B σ H ρ _ ρ1 _ j e1 fun x H1 j1 x1 s1 o1 => ?_
      obtain ⟨p, vs, b1, b2, b3, b4, b5⟩ := j1.own i _ _ e5
      rw [a1] at b1
      cases b1
      refine ⟨_, vs, x, rfl, rfl, b3, big_lt (by rw [b4.length]; exact Nat.le_of_lt hz), ?_⟩
      obtain ⟨j2, x2⟩ := j1.write e5 a1 (b4.app (.cons o1 .nil))
      exact q B σ _ j2 (x1.trans x2)
    · cases e4
  · cases e2
theorem z_app (i : Nat) {x : Str} {e : Expr} {g : EF} {px apos cpos : Pos} (he : PD X e g)
    (hm : ∀ {te}, PE X e te → PE X (.Call (.Attribute (.Name x px) "append" apos) [e] [] cpos) (tBM X.K "list" rAppend (tVar i) (tCons te tNil)) := by
      exact fun h => pe_bm PySem.F.plainAttrs_list PySem.F.slot_list_append PySem.F.type_list_append mt_append (pv _) (pa_cons h pa_nil))
    (hs : swapsWith (.Call (.Attribute (.Name x px) "append" apos) [e] [] cpos) none pos.line X.env = pure false := by rfl) :
    SD X fr (.Expr (.Call (.Attribute (.Name x px) "append" apos) [e] [] cpos) pos) (sApp i g) := by
  obtain ⟨te, p1, d1⟩ := he.run
  exact ⟨_, ps_expr (hm p1) hs, ss_app d1⟩
/-- xs[i] = e -/
def sPutIx (i : Nat) (ge gi : EF) : SF := fun ρ => (ge ρ).bind fun p => match p.1 with
  | .d d => (getL p.2 i).bind fun _ => (gi p.2).bind fun r => match r.1 with
    | .d (.int n) => (getL r.2 i).bind fun q => (ixN q.2.length n).map fun m => .nx (r.2.set i (.l q.1 (q.2.set m d)))
    | _ => none
  | .s _ => none
theorem ss_putIx {K : PySem.W.Frag} {i : Nat} {ge gi : EF} {te ti : TE} (d1 : Sd K te ge) (d2 : Sd K ti gi) : Ss K fr (tAsg te (gSub (tVar i) ti rSetL)) (sPutIx i ge gi) := by
  intro E B σ H ρ oc D j e q
  simp only [sPutIx, Option.bind_eq_some_iff] at e
  obtain ⟨⟨a, ρ1⟩, e1, e2⟩ := e
  split at e2
  · rename_i d' ha
    simp only at ha
    subst ha
    simp only [Option.bind_eq_some_iff] at e2
    obtain ⟨⟨k0, ds0⟩, e3, ⟨a2, ρ2⟩, e4, e5⟩ := e2
    split at e5
    · rename_i n hb
      simp only at hb
      subst hb
      simp only [Option.bind_eq_some_iff, Option.map_eq_some_iff] at e5
      obtain ⟨⟨k, ds⟩, e6, m, e7, e8⟩ := e5
      subst e8
      refine d1 E B σ H ρ _ ρ1 _ j e1 fun x H1 j1 x1 s1 o1 => ?_
      obtain ⟨p0, vs0, a1, b2, a3, a4, a5⟩ := j1.own i _ _ (getL_some e3)
      refine ⟨_, a1, ?_⟩
      refine d2 E B σ H1 ρ1 _ ρ2 _ j1 e4 fun y H2 j2 x2 s2 o2 => ?_
      have o3 : Rp K (hid B H2) y (.int n) := o2
      cases o3
      have e9 := getL_some e6
      obtain ⟨p, vs, c1, c2, c3, c4, c5⟩ := j2.own i _ _ e9
      rw [a1] at c1
      cases c1
      refine ⟨_, vs, n, m, rfl, rfl, c3, by rw [c4.length]; exact e7, ?_⟩
      obtain ⟨j3, x3⟩ := j2.write e9 a1 (RpA.set (Rp.ext x2 o1) m c4)
      exact q B σ _ j3 ((x1.trans x2).trans x3)
    · cases e5
  · cases e2
theorem z_putIx (i : Nat) {x : Str} {e ix : Expr} {ge gi : EF} {px spos : Pos} (he : PD X e ge) (hi : PD X ix gi)
    (hm : ∀ {ti}, PE X ix ti → PG X (.Subscript (.Name x px) ix spos) (gSub (tVar i) ti rSetL) := by exact fun h => pg_sub (pv _) h set_list)
    (hs : swapsWithSole [.Subscript (.Name x px) ix spos] e pos.line X.env = pure false := by rfl) (hw : swappedStores [.Subscript (.Name x px) ix spos] e X.env = pure none := by rfl)
    (h1 : (assignEach [.Subscript (.Name x px) ix spos] X.env).map (·.2) = [assign (.Subscript (.Name x px) ix spos) X.env] := by rfl) :
    SD X fr (.Assign [.Subscript (.Name x px) ix spos] e pos) (sPutIx i ge gi) := by
  obtain ⟨te, p1, d1⟩ := he.run
  obtain ⟨ti, p2, d2⟩ := hi.run
  exact ⟨_, ps_asg p1 (hm p2) hs hw h1, ss_putIx d1 d2⟩
/-- name op= e -/
def sAug (i : Nat) (f : R2f) (g : EF) : SF := fun ρ => match ρ[i]? with
  | some (.v d0) => (g ρ).bind fun p => (res p.2 p.1).bind fun y => (f d0 y).map fun d => .nx (p.2.set i (.v d))
  | _ => none
theorem z_aug (i : Nat) {x : Str} {e : Expr} {g : EF} {op : Operator} {r : R2} {f : R2f} {pos' : Pos} (hN : X.N.Nodup) (ho : OpR X (inplaceOp op) r) (hf' : OpS X.K r f) (he : PD X e g) (hi : X.N[i]? = some x := by rfl) (hx : Loc X.env.scope x := by first | exact Or.inl rfl | exact Or.inr rfl) (hf : X.fn x = true ∨ X.env.scope.names.lookup x = some .local := by first | exact .inl rfl | exact .inr rfl | assumption) :
    SD X fr (.AugAssign (.Name x pos') op e pos) (sAug i f g) := by
  obtain ⟨te, p1, d1⟩ := he.run
  refine ⟨_, ps_aug hN hi hx p1 ho hf, ?_⟩
  intro E B σ H ρ oc D j e q
  unfold sAug at e
  split at e
  · rename_i d0 h0
    simp only [Option.bind_eq_some_iff, Option.map_eq_some_iff] at e
    obtain ⟨⟨a, ρ1⟩, e1, y, e2, d, e3, e4⟩ := e
    subst e4
    obtain ⟨v0, a1, a2⟩ := j.val i d0 h0
    refine ⟨v0, a1, ?_⟩
    refine d1 E B σ H ρ a ρ1 _ j e1 fun x H1 j1 x1 s1 o1 => ?_
    refine hf' B H1 v0 x d0 y d _ j1.bt (.val (a2.ext x1)) (o1.bd j1 e2) e3 fun v H2 sm rp => ?_
    exact q B _ H2 ((j1.grow sm).set i rp) (x1.trans (Ext.grow sm))
  · cases e
end

/-! ### a def -/
def runF (n m : Nat) (g : SF) : FnF := fun as => (g (as ++ List.replicate (m - n) .un)).bind fun oc => match oc with
  | .rt d ρ' => some (d, ρ'.take n)
  | .nx ρ' => some (.none, ρ'.take n)
  | _ => none
def runR (n m : Nat) (g : SF) : FnF := fun as => (g (as ++ List.replicate (m - n) .un)).bind fun oc => match oc with
  | .rt d ρ' => some (d, ρ'.take n)
  | _ => none
def ioOf (vs : List V) (as : Rho) : Bk := fun b => ∃ (i : Nat) (k : Bool) (ds : List PyData), as[i]? = some (.l k ds) ∧ vs[i]? = some (.ref b)
def adOf (vs : List V) : Nat → Addr := fun i => match vs[i]? with
  | some (.ref p) => p
  | _ => 0
def enOf (B : Bk) (H : Hp) (vs : List V) (as : Rho) : En := ⟨B, H, ioOf vs as, adOf vs⟩
theorem app_at {as : Rho} {m : Nat} {i : Nat} {s : Sl} (h : (as ++ List.replicate m .un)[i]? = some s) (hs : s ≠ .un) : as[i]? = some s := by
  by_cases hi : i < as.length
  · rw [List.getElem?_append_left hi] at h
    exact h
  · rw [List.getElem?_append_right (by omega), List.getElem?_replicate] at h
    split at h
    · cases h
      exact absurd rfl hs
    · cases h
theorem start_at {N : List Str} {vs : List V} {i : Nat} {x : V} (h : vs[i]? = some x) : (L2.start N vs)[i]? = some (some x) := by
  have hi : i < vs.length := (List.getElem?_eq_some_iff.mp h).1
  unfold L2.start
  rw [List.getElem?_append_left (by simpa using hi), List.getElem?_map, h]
  rfl
theorem J.start {K : PySem.W.Frag} {B : Bk} {H : Hp} {vs : List V} {as : Rho} {N : List Str} (a : ArgIn K B H vs as) (hn : vs.length ≤ N.length) : J K (enOf B H vs as) B (L2.start N vs) H (as ++ List.replicate (N.length - vs.length) .un) := by
  have io : ∀ b, ioOf vs as b → B b := fun b ⟨i, k, ds, e1, e2⟩ => by
    obtain ⟨_, p, ws, h1, h2, _⟩ := a.own i k ds e1
    rw [e2] at h1
    cases h1
    exact h2
  refine ⟨fun b o _ e => e, fun b z => z, fun b z => .inl z, a.trk, a.trk, io, ?_, fun i d e => ?_, fun i k ds e => ?_, fun i i' k ds k' ds' p e e' q q' => ?_, fun i ds e => ?_⟩
  · unfold L2.start
    rw [List.length_append, List.length_append, List.length_map, List.length_replicate, List.length_replicate, a.len]
  · obtain ⟨x, h1, h2⟩ := a.val i d (app_at e (fun z => by cases z))
    exact ⟨x, start_at h1, h2⟩
  · have e1 := app_at e (fun z => by cases z)
    obtain ⟨rfl, p, ws, h1, h2, h3, h4⟩ := a.own i k ds e1
    refine ⟨p, ws, start_at h1, h2, h3, h4, ?_⟩
    rw [if_pos rfl]
    refine ⟨⟨i, _, ds, e1, h1⟩, ?_⟩
    show p = adOf vs i
    unfold adOf
    rw [h1]
  · have e1 := app_at e (fun z => by cases z)
    have e2 := app_at e' (fun z => by cases z)
    obtain ⟨_, p1, ws, h1, _⟩ := a.own i k ds e1
    obtain ⟨_, p2, ws', h2, _⟩ := a.own i' k' ds' e2
    rw [start_at h1] at q
    rw [start_at h2] at q'
    cases q
    cases q'
    exact a.inj i i' _ _ _ _ p e1 e2 h1 h2
  · obtain ⟨p, ws, h1, h2, h3⟩ := a.wr i ds (app_at e (fun z => by cases z))
    exact ⟨p, ws, start_at h1, h2, h3⟩
theorem past_of {K : PySem.W.Frag} {B B1 B' : Bk} {H H' : Hp} {vs : List V} {as : Rho} {ρ' : Rho} {σ' : L2.St} {n : Nat} (a : ArgIn K B H vs as) (j : J K (enOf B H vs as) B1 σ' H' ρ') (hs : ∀ b, B' b → B1 b) : Past K B B' H vs as (ρ'.take n) H' := by
  refine ⟨fun b o hb e => j.keep b o (fun ⟨i, k, ds, e1, e2⟩ => hb i k ds e1 e2) e, fun i k ds ds' p e1 e2 e3 => ?_⟩
  have e4 : ρ'[i]? = some (.l true ds') := by
    rw [List.getElem?_take] at e2
    split at e2
    · exact e2
    · cases e2
  obtain ⟨p', ws, h1, h2, h3, h4, h5⟩ := j.own i _ _ e4
  rw [if_pos rfl] at h5
  have : p' = p := by
    have z : p' = adOf vs i := h5.2
    rw [z]
    unfold adOf
    rw [e3]
  subst this
  exact ⟨ws, h3, h4.mono (hid_sub hs)⟩
section
variable {P : Program} {w : World} {K : PySem.W.Frag} {mg : Str → Option Value} {base : Heap}
theorem fn_rule {x qual : Str} {st : Stmt} {f : Addr} {fd : FuncData} {N ps : List Str} {k n : Nat} {g : SF} (F : Fun K x qual st f fd) (S : FnScope N ps (defScope st)) (hn : ps.length = n) (hN : n ≤ N.length)
    (body : ∀ (cdv : Value) (A : Around) (outer : List Env) (s : Shared) (H : Hp) (E : XK), Room k (A.deeper (envOfC qual (defScope st) s.heap.objs.size f cdv)) → SsD (cxOf CX0 P w K mg base N qual (defScope st) f cdv A outer s H E).nox false (defBody st) g) :
    FnOk P w K mg base CX0 (k + 1) f fd ps (spD K n (runF n N.length g)) := by
  refine F.ok S (fun vs H Q E h => ?_) (fun cdv A outer s H vs Q E hr h => ?_)
  · obtain ⟨B, as, d, outs, h1, _⟩ := h
    rw [h1, hn]
  · obtain ⟨B, as, d, outs, h1, h2, h3, h4⟩ := h
    obtain ⟨t, p1, d1⟩ := (body cdv A outer s H E hr).run
    refine ⟨t, p1, ?_⟩
    simp only [runF, Option.bind_eq_some_iff] at h3
    obtain ⟨oc, e1, e2⟩ := h3
    have j := J.start (N := N) h2 (by rw [h1]; exact hN)
    rw [h1] at j
    refine d1 _ B _ H _ oc _ j e1 ?_
    cases oc with
    | rt d' ρ' =>
      cases e2
      rintro v H' ⟨B1, σ1, j1, r1⟩
      exact h4 v H' (past_of h2 j1 j1.b0) r1
    | nx ρ' =>
      cases e2
      intro B1 σ1 H1 j1 x1
      exact h4 .non H1 (past_of h2 j1 j1.b0) .non
    | bk ρ' => cases e2
    | ct ρ' => cases e2
theorem fn_ruleR {x qual : Str} {st : Stmt} {f : Addr} {fd : FuncData} {N ps : List Str} {k n : Nat} {g : SF} (F : Fun K x qual st f fd) (S : FnScope N ps (defScope st)) (hn : ps.length = n) (hN : n ≤ N.length)
    (body : ∀ (cdv : Value) (A : Around) (outer : List Env) (s : Shared) (H : Hp) (E : XK), Room k (A.deeper (envOfC qual (defScope st) s.heap.objs.size f cdv)) → SsD (cxOf CX0 P w K mg base N qual (defScope st) f cdv A outer s H E).nox true (defBody st) g) :
    FnOk P w K mg base CX0 (k + 1) f fd ps (spF K n (runR n N.length g)) := by
  refine F.ok S (fun vs H Q E h => ?_) (fun cdv A outer s H vs Q E hr h => ?_)
  · obtain ⟨B, as, d, outs, h1, _⟩ := h
    rw [h1, hn]
  · obtain ⟨B, as, d, outs, h1, h2, h3, h4⟩ := h
    obtain ⟨t, p1, d1⟩ := (body cdv A outer s H E hr).run
    refine ⟨t, p1, ?_⟩
    simp only [runR, Option.bind_eq_some_iff] at h3
    obtain ⟨oc, e1, e2⟩ := h3
    have j := J.start (N := N) h2 (by rw [h1]; exact hN)
    rw [h1] at j
    refine d1 _ B _ H _ oc _ j e1 ?_
    cases oc with
    | rt d' ρ' =>
      cases e2
      rintro v H' ⟨B1, σ1, j1, ⟨p, ws, ds, rfl, hd, hp, hb, hl, r1⟩ | ⟨t, p, xs, ws, ds, rest, rfl, hd, _⟩ | ⟨t, p, x0, ws, ds, d0, rfl, hd, _⟩⟩
      rotate_left
      · cases hd
      · cases hd
      cases hd
      have hs : ∀ b, (B b ∨ b = p) → B1 b := fun b z => z.elim (j1.b0 b) fun z => by rw [z]; exact hb
      exact h4 p ws H' hp (past_of h2 j1 hs) hl (r1.mono (hid_sub hs))
    | nx ρ' => cases e2
    | bk ρ' => cases e2
    | ct ρ' => cases e2
end
end DL
namespace DL
open PySem PySem.Spec PyProof.Rows L2

/-! ### one reading for all contexts -/
def cE (K : PySem.W.Frag) (g : EF) : TE := fun σ H Q => ∃ E B ρ a ρ', J K E B σ H ρ ∧ g ρ = some (a, ρ') ∧ ∀ x H', J K E B σ H' ρ' → Ext B H B H' → Shp ρ ρ' → ArOk K B σ H' ρ' x a → Q x H'
def cB (K : PySem.W.Frag) (g : BF) : TT := fun σ H Q => ∃ E B ρ b ρ', J K E B σ H ρ ∧ g ρ = some (b, ρ') ∧ ∀ H', J K E B σ H' ρ' → Ext B H B H' → Shp ρ ρ' → Q b H'
def cG (K : PySem.W.Frag) (g : TGf) (ts : List Nat) : TG := fun x σ H Q => ∃ E B ρ d ρ', J K E B σ H ρ ∧ Rp K (hid B H) x d ∧ g d ρ = some ρ' ∧ ∀ σ', J K E B σ' H ρ' → σ'.length = σ.length → (∀ n : Nat, n ∉ ts → σ'[n]? = σ[n]? ∧ ρ'[n]? = ρ[n]?) → Q σ' H
theorem PD.can {X : Cx} {e : Expr} {g : EF} (h : PD X e g) : PE X e (cE X.K g) := by
  obtain ⟨t, p, d⟩ := h.run
  refine ⟨fun pins s σ H Q I q => ?_⟩
  obtain ⟨E, B, ρ, a, ρ', j, e, q⟩ := q
  exact p.run pins s σ H Q I (d E B σ H ρ a ρ' Q j e q)
theorem GD.can {X : Cx} {e : Expr} {g : TGf} {ts : List Nat} (h : GD X e g ts) : PG X e (cG X.K g ts) := by
  obtain ⟨t, p, d⟩ := h.run
  refine ⟨fun pins s σ H v u Q I r q => ?_⟩
  obtain ⟨E, B, ρ, dd, ρ', j, rp, e, q⟩ := q
  exact p.run pins s σ H v u Q I r (d E B σ H ρ v dd ρ' Q j rp e q)
structure PTsD (X : Cx) (ifs : List Expr) (g : BF) : Prop where
  run : ∃ t, PTs X ifs t ∧ Sb X.K t g
theorem PTsD.can {X : Cx} {ifs : List Expr} {g : BF} (h : PTsD X ifs g) : PTs X ifs (cB X.K g) := by
  obtain ⟨t, p, d⟩ := h.run
  refine ⟨fun pins s σ H Q I q => ?_⟩
  obtain ⟨E, B, ρ, b, ρ', j, e, q⟩ := q
  exact p.run pins s σ H Q I (d E B σ H ρ b ρ' Q j e q)
def bYes : BF := fun ρ => some (true, ρ)
theorem c_nil {X : Cx} : PTsD X [] bYes := ⟨_, pts_nil, fun E B σ H ρ b ρ' Q j e q => by
  cases e
  exact q H j Ext.refl (Shp.refl _)⟩
theorem c_one {X : Cx} {c : Expr} {g : BF} (h : PB X c g) : PTsD X [c] g := by
  obtain ⟨t, p, d⟩ := h.run
  exact ⟨_, pts_one p, d⟩

/-! ### list comprehensions -/
def wipeR (ρ : Rho) : List Nat → Rho
  | [] => ρ
  | v :: vs => (wipeR ρ vs).set v .un
def restR (ρ1 ρf : Rho) : List Nat → Rho
  | [] => ρf
  | v :: vs => match ρ1[v]? with
    | some s => (restR ρ1 ρf vs).set v s
    | none => restR ρ1 ρf vs
def noL (ρ : Rho) : List Nat → Bool
  | [] => true
  | v :: vs => match ρ[v]? with
    | some (.l _ _) => false
    | _ => noL ρ vs
def lcGo (t : TGf) (c : BF) (g : EF) (vs : List Nat) : List PyData → List PyData → Rho → Option (List PyData × Rho)
  | [], acc, ρ => some (acc, ρ)
  | d :: ds, acc, ρ => (t d (wipeR ρ vs)).bind fun ρ1 => (c ρ1).bind fun p => if p.1 = true then (g p.2).bind fun q => match q.1 with
    | .d e => if acc.length < big then lcGo t c g vs ds (acc ++ [e]) q.2 else none
    | .s _ => none else lcGo t c g vs ds acc p.2
def fLc (i : IFn) (t : TGf) (c : BF) (g : EF) (vs : List Nat) : FF := fun ρ => (i ρ).bind fun p => if noL p.2 vs = true then (lcGo t c g vs p.1 [] p.2).map fun r => (r.1, restR p.2 r.2 vs) else none
theorem wipeR_get {ρ : Rho} : ∀ {vs : List Nat} {i : Nat} {s : Sl}, (wipeR ρ vs)[i]? = some s → s ≠ .un → ρ[i]? = some s ∧ i ∉ vs
  | [], _, _, h, _ => ⟨h, by simp⟩
  | v :: vs, i, s, h, hs => by
    unfold wipeR at h
    rcases set_get h with ⟨_, e, _⟩ | ⟨hn, h⟩
    · exact absurd e hs
    · obtain ⟨h1, h2⟩ := wipeR_get h hs
      exact ⟨h1, by simp only [List.mem_cons, not_or]; exact ⟨hn, h2⟩⟩
theorem wipeR_out {ρ : Rho} : ∀ {vs : List Nat} {i : Nat}, i ∉ vs → (wipeR ρ vs)[i]? = ρ[i]?
  | [], _, _ => rfl
  | v :: vs, i, h => by
    have h1 : v ≠ i := fun e => h (by rw [e]; exact List.mem_cons_self)
    unfold wipeR
    rw [List.getElem?_set_ne h1]
    exact wipeR_out fun m => h (List.mem_cons_of_mem _ m)
theorem wipeR_len {ρ : Rho} : ∀ {vs : List Nat}, (wipeR ρ vs).length = ρ.length
  | [] => rfl
  | v :: vs => by unfold wipeR; rw [List.length_set, wipeR_len]
theorem noL_at {ρ : Rho} : ∀ {vs : List Nat} {i : Nat} {k : Bool} {ds : List PyData}, noL ρ vs = true → i ∈ vs → ρ[i]? ≠ some (.l k ds)
  | v :: vs, i, k, ds, h, hi, e => by
    unfold noL at h
    rcases List.mem_cons.mp hi with rfl | hi
    · rw [e] at h
      cases h
    · split at h
      · cases h
      · exact noL_at h hi e
theorem restR_len {ρ1 ρf : Rho} : ∀ {vs : List Nat}, (restR ρ1 ρf vs).length = ρf.length
  | [] => rfl
  | v :: vs => by
    unfold restR
    split
    · rw [List.length_set, restR_len]
    · exact restR_len
theorem restR_get {ρ1 ρf : Rho} : ∀ {vs : List Nat} {i : Nat}, ρ1.length = ρf.length → (i ∈ vs → (restR ρ1 ρf vs)[i]? = ρ1[i]?) ∧ (i ∉ vs → (restR ρ1 ρf vs)[i]? = ρf[i]?)
  | [], i, _ => ⟨fun h => by simp at h, fun _ => rfl⟩
  | v :: vs, i, hl => by
    obtain ⟨h1, h2⟩ := restR_get (vs := vs) (i := i) hl
    unfold restR
    cases q : ρ1[v]? with
    | none =>
      dsimp only
      refine ⟨fun h => ?_, fun h => h2 fun z => h (List.mem_cons_of_mem _ z)⟩
      by_cases hi : i ∈ vs
      · exact h1 hi
      · rcases List.mem_cons.mp h with rfl | h
        · rw [q]
          refine List.getElem?_eq_none ?_
          rw [restR_len, ← hl]
          exact List.getElem?_eq_none_iff.mp q
        · exact absurd h hi
    | some s =>
      dsimp only
      by_cases e : i = v
      · subst e
        have hv : i < (restR ρ1 ρf vs).length := by rw [restR_len, ← hl]; exact (List.getElem?_eq_some_iff.mp q).1
        refine ⟨fun _ => by rw [List.getElem?_set_self hv, q], fun h => absurd List.mem_cons_self h⟩
      · rw [List.getElem?_set_ne (Ne.symm e)]
        refine ⟨fun h => ?_, fun h => h2 fun z => h (List.mem_cons_of_mem _ z)⟩
        rcases List.mem_cons.mp h with z | h
        · exact absurd z e
        · exact h1 h
section
variable {K : PySem.W.Frag} {E : En} {B : Bk} {σ : L2.St} {H : Hp} {ρ : Rho}
theorem J.wipe (vs : List Nat) (j : J K E B σ H ρ) : J K E B (L2.wipe σ vs) H (wipeR ρ vs) := by
  refine ⟨j.keep, j.b0, j.bn, j.b0t, j.bt, j.ioB, by rw [wipe_length, wipeR_len]; exact j.len, fun i d e => ?_, fun i k ds e => ?_, fun i i' k ds k' ds' p e e' q q' => ?_, fun i ds e => ?_⟩
  · obtain ⟨h1, h2⟩ := wipeR_get e (fun z => by cases z)
    rw [wipe_out h2]
    exact j.val i d h1
  · obtain ⟨h1, h2⟩ := wipeR_get e (fun z => by cases z)
    rw [wipe_out h2]
    exact j.own i k ds h1
  · obtain ⟨h1, h2⟩ := wipeR_get e (fun z => by cases z)
    obtain ⟨h1', h2'⟩ := wipeR_get e' (fun z => by cases z)
    rw [wipe_out h2] at q
    rw [wipe_out h2'] at q'
    exact j.inj i i' _ _ _ _ p h1 h1' q q'
  · obtain ⟨h1, h2⟩ := wipeR_get e (fun z => by cases z)
    rw [wipe_out h2]
    exact j.wr i ds h1
/-- a blocked address that no slot holds is written -/
theorem J.behind {D : Addr} {o : HO} (j : J K E B σ H ρ) (hB : B D) (h0 : E.H0 D = none) (no : ∀ (i : Nat) k ds, ρ[i]? = some (.l k ds) → σ[i]? ≠ some (some (.ref D))) : J K E B σ (upd H D o) ρ ∧ Ext B H B (upd H D o) := by
  have x : Ext B H B (upd H D o) := fun b u q => by
    obtain ⟨nb, q⟩ := hid_some.mp q
    refine hid_some.mpr ⟨nb, ?_⟩
    rw [upd_ne (fun z => nb (by rw [z]; exact hB))]
    exact q
  refine ⟨⟨fun b u ni q => ?_, j.b0, j.bn, j.b0t, fun b q => ?_, j.ioB, j.len, fun n d q => ?_, fun n k' ds1 q => ?_, j.inj, fun n ds1 q => ?_⟩, x⟩
  · rw [upd_ne (ne_of_none q h0)]
    exact j.keep b u ni q
  · by_cases hb : b = D
    · rw [hb, upd_same]; simp
    · rw [upd_ne hb]; exact j.bt b q
  · obtain ⟨y, h1, h2⟩ := j.val n d q
    exact ⟨y, h1, h2.ext x⟩
  · obtain ⟨p', ws', h1, h2, h3, h4, h5⟩ := j.own n k' ds1 q
    refine ⟨p', ws', h1, h2, ?_, h4.mono x, h5⟩
    rw [upd_ne (fun z => no n k' ds1 q (by rw [← z]; exact h1))]
    exact h3
  · obtain ⟨p', ws', h1, h2, h3⟩ := j.wr n ds1 q
    exact ⟨p', ws', h1, Same.seq x h2, h3.mono x⟩
end
theorem Shp.set {a b : Rho} (x : Shp a b) (i : Nat) (s : Sl) : Shp (a.set i s) (b.set i s) := by
  unfold Shp at x ⊢
  rw [List.map_set, List.map_set, x]
theorem Shp.wipe {a b : Rho} (x : Shp a b) : ∀ vs : List Nat, Shp (wipeR a vs) (wipeR b vs)
  | [] => x
  | v :: vs => (Shp.wipe x vs).set v .un
theorem Shp.of_at {a b : Rho} (hl : a.length = b.length) (h : ∀ i : Nat, (a[i]?).map er = (b[i]?).map er) : Shp a b := by
  unfold Shp
  refine List.ext_getElem? fun i => ?_
  rw [List.getElem?_map, List.getElem?_map]
  exact h i
/-- an address that no slot holds, as if it had stood at the entry -/
def pinE (E : En) (D : Addr) (o : HO) : En := ⟨fun b => E.B0 b ∨ b = D, upd E.H0 D o, E.io, E.ad⟩
section
variable {K : PySem.W.Frag} {E : En} {B : Bk} {σ : L2.St} {H : Hp} {ρ : Rho} {D : Addr} {o : HO}
theorem J.pin (j : J K E B σ H ρ) (hB : B D) (h0 : E.H0 D = none) (hD : H D = some o) (no : ∀ (i : Nat) k ds, ρ[i]? = some (.l k ds) → σ[i]? ≠ some (some (.ref D))) : J K (pinE E D o) B σ H ρ := by
  refine ⟨fun b u ni q => ?_, fun b z => z.elim (j.b0 b) fun z => by rw [z]; exact hB, fun b z => ?_, fun b z => ?_, j.bt, fun b z => .inl (j.ioB b z), j.len, j.val, fun n k ds q => ?_, j.inj, j.wr⟩
  · have q : upd E.H0 D o b = some u := q
    by_cases e : b = D
    · subst e
      rw [upd_same] at q
      rw [hD]
      exact q
    · rw [upd_ne e] at q
      exact j.keep b u ni q
  · show (E.B0 b ∨ b = D) ∨ upd E.H0 D o b = none
    by_cases e : b = D
    · exact .inl (.inr e)
    · rw [upd_ne e]
      exact (j.bn b z).imp .inl id
  · show upd E.H0 D o b ≠ none
    by_cases e : b = D
    · rw [e, upd_same]; simp
    · rw [upd_ne e]
      exact z.elim (j.b0t b) fun z => absurd z e
  · obtain ⟨p, ws, h1, h2, h3, h4, h5⟩ := j.own n k ds q
    refine ⟨p, ws, h1, h2, h3, h4, ?_⟩
    split at h5
    · rw [if_pos (by assumption)]; exact h5
    · rw [if_neg (by assumption)]
      show upd E.H0 D o p = none
      rw [upd_ne (fun z => no n k ds q (by rw [← z]; exact h1))]
      exact h5
theorem J.unpin (j : J K (pinE E D o) B σ H ρ) (h0 : E.H0 D = none) (b0 : ∀ b, E.B0 b → E.H0 b ≠ none) (io : ∀ b, E.io b → E.B0 b) (bn : ∀ b, B b → E.B0 b ∨ E.H0 b = none) :
    J K E B σ H ρ ∧ H D = some o ∧ ∀ (i : Nat) k ds, ρ[i]? = some (.l k ds) → σ[i]? ≠ some (some (.ref D)) := by
  have nio : ¬ E.io D := fun z => b0 D (io D z) h0
  refine ⟨⟨fun b u ni q => j.keep b u ni ?_, fun b z => j.b0 b (.inl z), bn, b0, j.bt, io, j.len, j.val, fun n k ds q => ?_, j.inj, j.wr⟩, j.keep D o nio upd_same, fun i k ds q z => ?_⟩
  · show upd E.H0 D o b = some u
    rw [upd_ne (ne_of_none q h0)]
    exact q
  · obtain ⟨p, ws, h1, h2, h3, h4, h5⟩ := j.own n k ds q
    refine ⟨p, ws, h1, h2, h3, h4, ?_⟩
    split at h5
    · rw [if_pos (by assumption)]; exact h5
    · rw [if_neg (by assumption)]
      have h5 : upd E.H0 D o p = none := h5
      by_cases e : p = D
      · rw [e, upd_same] at h5; cases h5
      · rw [upd_ne e] at h5; exact h5
  · obtain ⟨p, ws, h1, h2, h3, h4, h5⟩ := j.own i k ds q
    rw [z] at h1
    cases h1
    split at h5
    · exact nio h5.1
    · have h5 : upd E.H0 D o D = none := h5
      rw [upd_same] at h5; cases h5
end
theorem sf_lc {K : PySem.W.Frag} {wi : TI} {i : IFn} {t : TGf} {c : BF} {g : EF} {ts vs : List Nat} (h1 : Si K wi i) (hts : ∀ n ∈ ts, n ∈ vs) : Sf K (tLc wi (cG K t ts) (cB K c) (cE K g) vs) (fLc i t c g vs) := by
  intro E B σ H ρ res ρ' Q j e q
  simp only [fLc, Option.bind_eq_some_iff] at e
  obtain ⟨⟨ds, ρ1⟩, e1, e2⟩ := e
  split at e2
  case isFalse => cases e2
  rename_i hnl
  obtain ⟨⟨r, ρf⟩, e3, e4⟩ := Option.map_eq_some_iff.mp e2
  cases e4
  refine h1 E B σ H ρ ds ρ1 _ j e1 fun Jt H1 j1 x1 s1 wk => ?_
  intro D hD
  have hD0 := (j1.fresh hD).1
  have jD := j1.block (o := .lst []) hD
  have xD : Ext B H1 (fun b => B b ∨ b = D) (upd H1 D (.lst [])) := ext_block hD
  have noD : ∀ (n : Nat) k ds', ρ1[n]? = some (.l k ds') → σ[n]? ≠ some (some (.ref D)) := fun n k ds' q1 q2 => by
    obtain ⟨p', ws', g1, g2, g3, _⟩ := j1.own n k ds' q1
    rw [q2] at g1
    cases g1
    rw [hD] at g3
    cases g3
  refine ⟨fun n m H' => ∃ ρ2 acc ws, J K E (fun b => B b ∨ b = D) (L2.wipe σ vs) H' (wipeR ρ2 vs) ∧ Ext (fun b => B b ∨ b = D) (upd H1 D (.lst [])) (fun b => B b ∨ b = D) H' ∧ Shp (wipeR ρ1 vs) (wipeR ρ2 vs) ∧
    H' D = some (.lst ws) ∧ RpA K (hid (fun b => B b ∨ b = D) H') ws acc ∧ n ≤ ds.length ∧ m = ds.length - n ∧ lcGo t c g vs (ds.drop n) acc ρ2 = some (r, ρf),
    ⟨_, ρ1, [], [], jD.wipe vs, Ext.refl, Shp.refl _, upd_same, .nil, Nat.zero_le _, rfl, e3⟩, ?_⟩
  rintro n m H' ⟨ρ2, acc, ws, j2, x2, s2, hl, ra, hn, rfl, go⟩
  obtain ⟨turn, stop⟩ := wk _ H' (xD.trans x2) j2.bt
  by_cases hlt : n < ds.length
  · have ed : ds[n]? = some ds[n] := List.getElem?_eq_getElem hlt
    obtain ⟨hgo, yl⟩ := turn n _ ed
    rw [List.drop_eq_getElem_cons hlt] at go
    simp only [lcGo, Option.bind_eq_some_iff] at go
    obtain ⟨ρ3, g1, ⟨k, ρ4⟩, g2, g3⟩ := go
    refine .inr ⟨hgo, fun H' => ∃ ρ2 acc ws, J K E (fun b => B b ∨ b = D) (L2.wipe σ vs) H' (wipeR ρ2 vs) ∧ Ext (fun b => B b ∨ b = D) (upd H1 D (.lst [])) (fun b => B b ∨ b = D) H' ∧ Shp (wipeR ρ1 vs) (wipeR ρ2 vs) ∧
      H' D = some (.lst ws) ∧ RpA K (hid (fun b => B b ∨ b = D) H') ws acc ∧ lcGo t c g vs (ds.drop (n + 1)) acc ρ2 = some (r, ρf), ?_, fun x H2 y => ?_⟩
    · rintro H3 ⟨ρ5, acc', ws', a1, a2, a3, a4, a5, a6⟩
      exact ⟨ds.length - (n + 1), by omega, ρ5, acc', ws', a1, a2, a3, a4, a5, hlt, rfl, a6⟩
    · obtain ⟨sm, rp⟩ := yl x H2 y
      have hB : (fun b => B b ∨ b = D) D := .inr rfl
      have hl2 : H2 D = some (.lst ws) := sm _ _ hl
      have no2 : ∀ (i : Nat) k ds, (wipeR ρ2 vs)[i]? = some (.l k ds) → (L2.wipe σ vs)[i]? ≠ some (some (.ref D)) := fun i k ds q1 q2 => by
        obtain ⟨ds', q3⟩ := s2.symm.lst q1
        obtain ⟨q4, hv⟩ := wipeR_get q3 (fun z => by cases z)
        rw [wipe_out hv] at q2
        exact noD i _ _ q4 q2
      refine ⟨pinE E D (.lst ws), _, wipeR ρ2 vs, _, ρ3, (j2.grow sm).pin hB hD0 hl2 no2, rp, g1, fun σ3 j3 l3 n3 => ?_⟩
      have ew : L2.wipe σ3 vs = L2.wipe σ vs := by
        refine List.ext_getElem? fun n => ?_
        by_cases hv : n ∈ vs
        · have a : ∀ (τ : L2.St) (us : List Nat), n ∈ us → (L2.wipe τ us)[n]? = if n < τ.length then some none else none := by
            intro τ us
            induction us with
            | nil => intro h; simp at h
            | cons u us ih =>
              intro h
              unfold L2.wipe
              by_cases hu : u = n
              · subst hu
                by_cases hq : u < τ.length
                · rw [if_pos hq, List.getElem?_set_self (by rw [wipe_length]; exact hq)]
                · rw [if_neg hq, List.getElem?_eq_none (by rw [List.length_set, wipe_length]; omega)]
              · rw [List.getElem?_set_ne hu]
                exact ih ((List.mem_cons.mp h).resolve_left fun z => hu z.symm)
          rw [a σ3 vs hv, a σ vs hv, l3, wipe_length]
        · rw [wipe_out hv, wipe_out hv, (n3 n fun z => hv (hts n z)).1, wipe_out hv]
      have s3 : Shp (wipeR ρ1 vs) (wipeR ρ3 vs) := by
        refine Shp.of_at ?_ fun n => ?_
        · rw [wipeR_len, wipeR_len, ← j3.len, l3, wipe_length, ← j1.len]
        · by_cases hv : n ∈ vs
          · have a : ∀ (τ : Rho) (us : List Nat), n ∈ us → (wipeR τ us)[n]? = if n < τ.length then some .un else none := by
              intro τ us
              induction us with
              | nil => intro h; simp at h
              | cons u us ih =>
                intro h
                unfold wipeR
                by_cases hu : u = n
                · subst hu
                  by_cases hq : u < τ.length
                  · rw [if_pos hq, List.getElem?_set_self (by rw [wipeR_len]; exact hq)]
                  · rw [if_neg hq, List.getElem?_eq_none (by rw [List.length_set, wipeR_len]; omega)]
                · rw [List.getElem?_set_ne hu]
                  exact ih ((List.mem_cons.mp h).resolve_left fun z => hu z.symm)
            rw [a ρ1 vs hv, a ρ3 vs hv, ← j3.len, l3, wipe_length, ← j1.len]
          · have b := s2.at n
            rw [wipeR_out hv] at b ⊢
            rw [wipeR_out hv, (n3 n fun z => hv (hts n z)).2]
            exact b
      refine ⟨ew, pinE E D (.lst ws), _, ρ3, k, ρ4, j3, g2, fun H4 j4 x4 s4 => ?_⟩
      have bn : ∀ b, (B b ∨ b = D) → E.B0 b ∨ E.H0 b = none := jD.bn
      obtain ⟨j4', l4, no4⟩ := j4.unpin hD0 j1.b0t j1.ioB bn
      cases k with
      | false =>
        rw [if_neg Bool.false_ne_true] at g3
        refine iteF ?_
        have jw := j4'.wipe vs
        rw [ew] at jw
        have x5 := (Ext.grow sm).trans x4
        exact ⟨ρ4, acc, ws, jw, x2.trans x5, s3.trans (s4.wipe vs), l4, ra.mono x5, g3⟩
      | true =>
        rw [if_pos rfl] at g3
        refine iteT ?_
        simp only [Option.bind_eq_some_iff] at g3
        obtain ⟨⟨a, ρ5⟩, g4, g5⟩ := g3
        split at g5
        · rename_i e' ha
          simp only at ha
          subst ha
          split at g5
          · rename_i hz
            refine ⟨pinE E D (.lst ws), _, ρ4, _, ρ5, j4, g4, fun y H5 j5 x5 s5 o5 => ?_⟩
            obtain ⟨j5', l5, no5⟩ := j5.unpin hD0 j1.b0t j1.ioB bn
            have x6 := ((Ext.grow sm).trans x4).trans x5
            refine ⟨ws, l5, big_lt (by rw [ra.length]; exact Nat.le_of_lt hz), ?_⟩
            obtain ⟨j6, x7⟩ := j5'.behind (o := .lst (ws ++ [y])) hB hD0 no5
            have jw := j6.wipe vs
            rw [ew] at jw
            refine ⟨ρ5, acc ++ [e'], ws ++ [y], jw, x2.trans (x6.trans x7), s3.trans ((s4.trans s5).wipe vs), upd_same, ?_, g5⟩
            exact RpA.app (ra.mono (x6.trans x7)) (.cons (Rp.ext x7 o5) .nil)
          · cases g5
        · cases g5
  · have en : n = ds.length := by omega
    subst en
    rw [List.drop_eq_nil_of_le (Nat.le_refl _)] at go
    cases go
    refine .inl ⟨stop, ?_⟩
    have ll : ρ1.length = ρf.length := by
      have := s2.len
      rw [wipeR_len, wipeR_len] at this
      exact this
    have xx := xD.trans x2
    refine q D ws H' (free_back j1 x1 hD) ?_ (x1.trans xx) (s1.trans ?_) hl ra
    · refine ⟨j2.keep, j2.b0, j2.bn, j2.b0t, j2.bt, j2.ioB, by rw [restR_len, ← ll]; exact j1.len, fun i d e => ?_, fun i k ds e => ?_, fun i i' k ds k' ds' p e e' q q' => ?_, fun i ds e => ?_⟩
      · by_cases hv : i ∈ vs
        · rw [(restR_get ll).1 hv] at e
          obtain ⟨x, h1, h2⟩ := j1.val i d e
          exact ⟨x, h1, h2.ext xx⟩
        · rw [(restR_get ll).2 hv] at e
          have := j2.val i d (by rw [wipeR_out hv]; exact e)
          rw [wipe_out hv] at this
          exact this
      · by_cases hv : i ∈ vs
        · rw [(restR_get ll).1 hv] at e
          exact absurd e (noL_at hnl hv)
        · rw [(restR_get ll).2 hv] at e
          have := j2.own i k ds (by rw [wipeR_out hv]; exact e)
          rw [wipe_out hv] at this
          exact this
      · by_cases hv : i ∈ vs
        · rw [(restR_get ll).1 hv] at e
          exact absurd e (noL_at hnl hv)
        · by_cases hv' : i' ∈ vs
          · rw [(restR_get ll).1 hv'] at e'
            exact absurd e' (noL_at hnl hv')
          · rw [(restR_get ll).2 hv] at e
            rw [(restR_get ll).2 hv'] at e'
            exact j2.inj i i' _ _ _ _ p (by rw [wipeR_out hv]; exact e) (by rw [wipeR_out hv']; exact e') (by rw [wipe_out hv]; exact q) (by rw [wipe_out hv']; exact q')
      · by_cases hv : i ∈ vs
        · rw [(restR_get ll).1 hv] at e
          obtain ⟨p, ws', h1, h2, h3⟩ := j1.wr i ds e
          exact ⟨p, ws', h1, Same.seq xx h2, h3.mono xx⟩
        · rw [(restR_get ll).2 hv] at e
          have := j2.wr i ds (by rw [wipeR_out hv]; exact e)
          rw [wipe_out hv] at this
          exact this
    · refine Shp.of_at (by rw [restR_len, ll]) fun i => ?_
      by_cases hv : i ∈ vs
      · rw [(restR_get ll).1 hv]
      · rw [(restR_get ll).2 hv]
        have := s2.at i
        rw [wipeR_out hv, wipeR_out hv] at this
        exact this
end DL
namespace DL
open PySem PySem.Spec PyProof.Rows L2

section
variable {X : Cx} {elt tg iter : Expr} {ifs : List Expr} {scope : Scope} {own : List (Str × Nat)} {pos : Pos} {i : IFn} {t : TGf} {c : BF} {g : EF} {ts : List Nat}
theorem f_lc (hc : X.calm = true) (hN : X.N.Nodup) (hi : ID X tg iter i) (ok : BlkOk X.N X.env.scope scope own) (hts : ∀ n ∈ ts, n ∈ own.map (·.2))
    (hg : ∀ (s : Shared) (H : Hp) (C : Addr) (cl : List (Str × Addr)) (fp : List Addr), GD (X.blk s H scope (compEnvC scope cl C X.env) fp) tg t ts) (ht : ∀ (s : Shared) (H : Hp) (C : Addr) (cl : List (Str × Addr)) (fp : List Addr), PTsD (X.blk s H scope (compEnvC scope cl C X.env) fp) ifs c)
    (he : ∀ (s : Shared) (H : Hp) (C : Addr) (cl : List (Str × Addr)) (fp : List Addr), PD (X.blk s H scope (compEnvC scope cl C X.env) fp) elt g) (hs : ∀ x, foldedSetIterable iter X.env x = pure x := by intro _; rfl) :
    PF X (.ListComp elt [⟨tg, iter, ifs, 0⟩] scope pos) (fLc i t c g (own.map (·.2))) := by
  obtain ⟨ti, p1, d1⟩ := hi.run
  exact ⟨_, pe_lc hc hN p1 ok (fun s H C cl fp => (hg s H C cl fp).can) (fun s H C cl fp => (ht s H C cl fp).can) (fun s H C cl fp => (he s H C cl fp).can) hs, sf_lc d1 hts⟩
/-- y = [..] on one line -/
theorem z_setLcO {fr : Bool} (n : Nat) {y : Str} {py spos : Pos} (hc : X.calm = true) (hN : X.N.Nodup) (hi : ID X tg iter i) (ok : BlkOk X.N X.env.scope scope own) (hts : ∀ n ∈ ts, n ∈ own.map (·.2))
    (hg : ∀ (s : Shared) (H : Hp) (C : Addr) (cl : List (Str × Addr)) (fp : List Addr), GD (X.blk s H scope (compEnvC scope cl C X.env) fp) tg t ts) (ht : ∀ (s : Shared) (H : Hp) (C : Addr) (cl : List (Str × Addr)) (fp : List Addr), PTsD (X.blk s H scope (compEnvC scope cl C X.env) fp) ifs c)
    (he : ∀ (s : Shared) (H : Hp) (C : Addr) (cl : List (Str × Addr)) (fp : List Addr), PD (X.blk s H scope (compEnvC scope cl C X.env) fp) elt g)
    (hy : X.N[n]? = some y := by rfl) (hyl : X.env.scope.names.lookup y = some .local := by rfl) (hsw : swapsWith (.ListComp elt [⟨tg, iter, ifs, 0⟩] scope pos) (some (.Name y py)) spos.line X.env = pure true := by exact sw_true rfl rfl rfl (by decide +kernel)) (hs : ∀ x, foldedSetIterable iter X.env x = pure x := by intro _; rfl) :
    SD X fr (.Assign [.Name y py] (.ListComp elt [⟨tg, iter, ifs, 0⟩] scope pos) spos) (sSetO n (fLc i t c g (own.map (·.2)))) := by
  obtain ⟨ti, p1, d1⟩ := hi.run
  exact ⟨_, ps_setLc hc hN hy hyl hsw p1 ok (fun s H C cl fp => (hg s H C cl fp).can) (fun s H C cl fp => (ht s H C cl fp).can) (fun s H C cl fp => (he s H C cl fp).can) hs, ss_setO (sf_lc d1 hts)⟩
theorem sd_of_sf {K : PySem.W.Frag} {te : TE} {gf : FF} (d : Sf K te gf) : Sd K te (gF gf) := by
  intro E B σ H ρ a ρ' Q j e q
  simp only [gF, Option.map_eq_some_iff] at e
  obtain ⟨⟨ds, ρ1⟩, e1, e2⟩ := e
  cases e2
  refine d E B σ H ρ ds ρ1 Q j e1 fun p vs H1 hp j1 x1 s1 hl r => ?_
  have nb : ¬ B p := (j.fresh hp).2.1
  have sub : Same (hid (fun b => B b ∨ b = p) H1) (hid B H1) := hid_sub fun b z => .inl z
  refine q (.ref p) H1 (j.unblock hp s1 j1) (Same.trans x1 sub) s1 ?_
  exact Rp.lst (hid_some.mpr ⟨nb, hl⟩) (r.mono sub)
theorem z_setLc {fr : Bool} (n : Nat) {y : Str} {py spos : Pos} (hc : X.calm = true) (hN : X.N.Nodup) (hi : ID X tg iter i) (ok : BlkOk X.N X.env.scope scope own) (hts : ∀ n ∈ ts, n ∈ own.map (·.2))
    (hg : ∀ (s : Shared) (H : Hp) (C : Addr) (cl : List (Str × Addr)) (fp : List Addr), GD (X.blk s H scope (compEnvC scope cl C X.env) fp) tg t ts) (ht : ∀ (s : Shared) (H : Hp) (C : Addr) (cl : List (Str × Addr)) (fp : List Addr), PTsD (X.blk s H scope (compEnvC scope cl C X.env) fp) ifs c)
    (he : ∀ (s : Shared) (H : Hp) (C : Addr) (cl : List (Str × Addr)) (fp : List Addr), PD (X.blk s H scope (compEnvC scope cl C X.env) fp) elt g)
    (hy : X.N[n]? = some y := by rfl) (hyl : X.env.scope.names.lookup y = some .local := by rfl) (hsw : swapsWith (.ListComp elt [⟨tg, iter, ifs, 0⟩] scope pos) (some (.Name y py)) spos.line X.env = pure true := by exact sw_true rfl rfl rfl (by decide +kernel)) (hs : ∀ x, foldedSetIterable iter X.env x = pure x := by intro _; rfl) :
    SD X fr (.Assign [.Name y py] (.ListComp elt [⟨tg, iter, ifs, 0⟩] scope pos) spos) (sSet n (gF (fLc i t c g (own.map (·.2))))) := by
  obtain ⟨ti, p1, d1⟩ := hi.run
  exact ⟨_, ps_setLc hc hN hy hyl hsw p1 ok (fun s H C cl fp => (hg s H C cl fp).can) (fun s H C cl fp => (ht s H C cl fp).can) (fun s H C cl fp => (he s H C cl fp).can) hs, ss_set (sd_of_sf (sf_lc d1 hts))⟩
end

/-! ### slices -/
abbrev OF := Rho → Option (Option Int × Rho)
def So (K : PySem.W.Frag) (t : TO) (g : OF) : Prop := ∀ (E : En) (B : Bk) (σ : L2.St) (H : Hp) (ρ : Rho) (o : Option Int) (ρ' : Rho) (Q : Option Int → Hp → Prop), J K E B σ H ρ → g ρ = some (o, ρ') →
  (∀ H', J K E B σ H' ρ' → Ext B H B H' → Shp ρ ρ' → Q o H') → t σ H Q
structure OD (X : Cx) (e : Option Expr) (g : OF) : Prop where
  run : ∃ t, PO X e t ∧ So X.K t g
def oNo : OF := fun ρ => some (none, ρ)
def oInt (g : EF) : OF := fun ρ => (g ρ).bind fun p => match p.1 with
  | .d (.int i) => some (some i, p.2)
  | _ => none
def fSl : PyData → Option Int → Option Int → Option PyData
  | .list ds, lo, hi => some (.list ((ds.drop (HT.sIx ds.length 0 lo)).take (HT.sIx ds.length ds.length hi - HT.sIx ds.length 0 lo)))
  | .str z, lo, hi => if z.length ≤ big then some (.str (cutS z lo hi)) else none
  | _, _, _ => none
def gSl (g : EF) (l h : OF) : EF := fun ρ => (g ρ).bind fun p => (l p.2).bind fun q => (h q.2).bind fun r => (res r.2 p.1).bind fun x => (fSl x q.1 r.1).map fun d => (.d d, r.2)
section
variable {X : Cx} {e : Expr} {lo hi : Option Expr} {g : EF} {l h : OF} {pos p2 : Pos}
theorem o_no : OD X none oNo := ⟨_, po_none, fun E B σ H ρ o ρ' Q j e q => by
  cases e
  exact q H j Ext.refl (Shp.refl _)⟩
theorem o_int {e : Expr} (he : PD X e g) : OD X (some e) (oInt g) := by
  obtain ⟨t, p, d⟩ := he.run
  refine ⟨_, po_some p, ?_⟩
  intro E B σ H ρ o ρ' Q j e q
  simp only [oInt, Option.bind_eq_some_iff] at e
  obtain ⟨⟨a, ρ1⟩, e1, e2⟩ := e
  split at e2
  · rename_i i ha
    simp only at ha
    subst ha
    cases e2
    refine d E B σ H ρ _ _ _ j e1 fun x H1 j1 x1 s1 o1 => ?_
    have o2 : Rp X.K (hid B H1) x (.int i) := o1
    cases o2
    exact ⟨i, rfl, q H1 j1 x1 s1⟩
  · cases e2
theorem dsl (he : PD X e g) (hl : OD X lo l) (hh : OD X hi h) : PD X (.Subscript e (.Slice lo hi none p2) pos) (gSl g l h) := by
  obtain ⟨t, p, d⟩ := he.run
  obtain ⟨tl, pl, dl⟩ := hl.run
  obtain ⟨th, ph, dh⟩ := hh.run
  refine ⟨_, pe_slice (sl_list.or sl_str) p pl ph, ?_⟩
  intro E B σ H ρ a ρ' Q j e q
  simp only [gSl, Option.bind_eq_some_iff, Option.map_eq_some_iff] at e
  obtain ⟨⟨a1, ρ1⟩, e1, ⟨ol, ρ2⟩, e2, ⟨oh, ρ3⟩, e3, x, e4, d', e5, e6⟩ := e
  cases e6
  refine d E B σ H ρ a1 ρ1 _ j e1 fun v H1 j1 x1 s1 o1 => ?_
  refine dl E B σ H1 ρ1 ol ρ2 _ j1 e2 fun H2 j2 x2 s2 => ?_
  refine dh E B σ H2 ρ2 oh ρ3 _ j2 e3 fun H3 j3 x3 s3 => ?_
  have bd := (o1.later (x2.trans x3) (s2.trans s3)).bd j3 e4
  have xx := (x1.trans x2).trans x3
  have ss := (s1.trans s2).trans s3
  unfold fSl at e5
  split at e5
  · cases e5
    obtain ⟨p, vs, rfl, h1, h2⟩ := bd.list
    refine .inl ⟨p, vs, rfl, h1, fun r hr => ?_⟩
    refine q _ _ (j3.grow (same_new hr)) (xx.trans (Ext.grow (same_new hr))) ss (rp_lst j3.bt hr ?_)
    unfold cutV
    rw [h2.length]
    exact (h2.drop _).take _
  · split at e5
    · rename_i hz
      cases e5
      rw [bd.str]
      exact .inr ⟨_, rfl, big_le hz, q _ H3 j3 xx ss (Rp.str _)⟩
    · cases e5
  · cases e5
end

/-! ### isinstance -/
def tyN : PyData → String
  | .none => "NoneType"
  | .bool _ => "bool"
  | .int _ => "int"
  | .str _ => "str"
  | .list _ => "list"
  | .tuple _ => "tuple"
  | .dict _ => "dict"
def isiB (T : String) (a : String) : Bool := a == T || (a == "bool" && T == "int")
def noD : PyData → Bool
  | .dict (_ :: _) => false
  | _ => true
theorem ty_of {K : PySem.W.Frag} {B : Bk} {H : Hp} {x : V} {d : PyData} (nd : noD d = true) (h : BD K B H x d) : TyX K H x (.type (tyN d)) := by
  have ls : ∀ {p : Addr} {vs : List V}, SqL K H p vs → TyX K H (.ref p) (.type "list") := fun h1 => by
    rcases h1 with (h1 | ⟨o, h1⟩) | ⟨o, its, n, h1, h2, _⟩
    · exact .base (.lst h1)
    · exact .base (.frz h1)
    · exact .kList h1 h2
  cases h with
  | val h =>
    cases h with
    | non => exact .base .non
    | bl b => exact .base (.bl b)
    | int i => exact .base (.int i)
    | str s => exact .base (.str s)
    | lst h1 h2 => exact ls (.inl (.inl (hid_le _ _ h1)))
    | tup h1 h2 =>
      rcases seqT hid_le h1 with (h1 | ⟨o, h1⟩) | ⟨o, its, n, h1, h2, _⟩
      · exact .base (.tup h1)
      · exact .fTuple h1
      · exact .kTuple h1 h2
    | dct h1 => exact .base (.dK (hid_le _ _ h1))
    | dks _ _ _ => cases nd
    | exc _ _ => cases nd
    | exf _ _ _ _ => cases nd
  | own h1 h2 => exact ls (.inl (.inl h1))
  | wr h1 h2 => exact ls h1
def gIsi (T : String) (g : EF) : EF := fun ρ => (g ρ).bind fun p => (res p.2 p.1).bind fun d => if noD d = true then some (.d (.bool (isiB T (tyN d))), p.2) else none
def IsiOk (T : String) : Prop := kitB "NoneType" T = some (isiB T "NoneType") ∧ kitB "bool" T = some (isiB T "bool") ∧ kitB "int" T = some (isiB T "int") ∧ kitB "str" T = some (isiB T "str") ∧ kitB "list" T = some (isiB T "list") ∧ kitB "tuple" T = some (isiB T "tuple") ∧ kitB "dict" T = some (isiB T "dict")
theorem isi_int : IsiOk "int" := by refine ⟨?_, ?_, ?_, ?_, ?_, ?_, ?_⟩ <;> decide +kernel
theorem isi_bool : IsiOk "bool" := by refine ⟨?_, ?_, ?_, ?_, ?_, ?_, ?_⟩ <;> decide +kernel
theorem isi_list : IsiOk "list" := by refine ⟨?_, ?_, ?_, ?_, ?_, ?_, ?_⟩ <;> decide +kernel
theorem isi_tuple : IsiOk "tuple" := by refine ⟨?_, ?_, ?_, ?_, ?_, ?_, ?_⟩ <;> decide +kernel
theorem isi_str : IsiOk "str" := by refine ⟨?_, ?_, ?_, ?_, ?_, ?_, ?_⟩ <;> decide +kernel
theorem disi {X : Cx} {e : Expr} {g : EF} {T : String} {x : Str} {p p2 pos : Pos} (ok : IsiOk T) (hg : Gl X "isinstance") (hm : X.mg "isinstance" = none) (hv : bootBuiltins "isinstance" = some (.builtin "isinstance")) (hg2 : Gl X x) (hm2 : X.mg x = none) (hv2 : bootBuiltins x = some (.type T)) (he : PD X e g)
    (h1 : starEach [e, .Name x p2] X.env = (false, eval e X.env) :: starEach [.Name x p2] X.env := by rfl) (h2 : starEach [.Name x p2] X.env = (false, eval (.Name x p2) X.env) :: starEach [] X.env := by rfl)
    (hn : x ≠ "__name__" := by decide) (hdb : (x == ("__debug__" : Str)) = false := by decide) (hpl : (backTo pos (starEach [.Name x p2] X.env)).any (·.1) = false := by rfl) :
    PD X (.Call (.Name "isinstance" p) [e, .Name x p2] [] pos) (gIsi T g) := by
  obtain ⟨t, p1, d1⟩ := he.run
  refine ⟨_, pe_callB call_isi hg hm hv (pa_cons p1 (pa_cons (pe_bltn (v := .ty T) hg2 hm2 hv2 rfl hn hdb) pa_nil h2) h1) (by decide) (by decide) h1 hpl, ?_⟩
  intro E B σ H ρ a ρ' Q j e q
  simp only [gIsi, Option.bind_eq_some_iff] at e
  obtain ⟨⟨a1, ρ1⟩, e1, d, e2, e3⟩ := e
  split at e3
  case isFalse => cases e3
  rename_i nd
  cases e3
  refine d1 E B σ H ρ a1 ρ1 _ j e1 fun v H1 j1 x1 s1 o1 => ?_
  have bd := o1.bd j1 e2
  refine ⟨v, _, _, _, isiB T (tyN d), rfl, .ty T, ty_of nd bd, kit_ty ?_, q _ H1 j1 x1 s1 (Rp.bl _)⟩
  cases d with
  | none => exact ok.1
  | bool _ => exact ok.2.1
  | int _ => exact ok.2.2.1
  | str _ => exact ok.2.2.2.1
  | list _ => exact ok.2.2.2.2.1
  | tuple _ => exact ok.2.2.2.2.2.1
  | dict l =>
    cases l with
    | nil => exact ok.2.2.2.2.2.2
    | cons _ _ => cases nd

/-! ### calls by keywords -/
structure PKD (X : Cx) (kws : List Keyword) (g : AF) : Prop where
  run : ∃ t, PK X kws t ∧ Sa X.K t g
theorem k_nil {X : Cx} : PKD X [] gNil := ⟨_, pk_nil, fun E B σ H ρ as ρ' Q j e q => by
  cases e
  exact q [] H j Ext.refl (Shp.refl _) .nil⟩
theorem k_cons {X : Cx} {e : Expr} {kws : List Keyword} {kpos : Pos} {nm : Option Str} {g : EF} {r : AF} (h1 : PD X e g) (h2 : PKD X kws r) : PKD X (⟨nm, e, kpos⟩ :: kws) (gCons g r) := by
  obtain ⟨te, p1, d1⟩ := h1.run
  obtain ⟨ta, p2, d2⟩ := h2.run
  exact ⟨_, pk_cons p1 p2, sa_cons d1 d2⟩
/-- how positional and keyword arguments come into the parameters' order: n and m of them -/
structure Ord (n m : Nat) (gV : List V → List V → List V) (gA : List Ar → List Ar → List Ar) : Prop where
  ok : ∀ {K B σ H ρ vs zs as bs}, ArsOk K B σ H ρ vs as → ArsOk K B σ H ρ zs bs → as.length = n → bs.length = m → ArsOk K B σ H ρ (gV vs zs) (gA as bs)
  len : ∀ {as bs}, as.length = n → bs.length = m → (gA as bs).length = n + m
def gCallK (F : FnF) (gA : List Ar → List Ar → List Ar) (g gk : AF) : EF := fun ρ => (g ρ).bind fun p => (gk p.2).bind fun q => (toSls q.2 (gA p.1 q.1)).bind fun as => if (slotsOf (gA p.1 q.1)).Nodup then (F as).bind fun r => if sameKind as r.2 = true then some (.d r.1, put q.2 (gA p.1 q.1) r.2) else none else none
theorem sd_callK {K : PySem.W.Frag} {n m : Nat} {F : FnF} {gV : List V → List V → List V} {gA : List Ar → List Ar → List Ar} {t tk : TA} {g gk : AF} (o : Ord n m gV gA) (h : Sa K t g) (hk : Sa K tk gk) (hn : ∀ ρ as ρ', g ρ = some (as, ρ') → as.length = n) (hm : ∀ ρ as ρ', gk ρ = some (as, ρ') → as.length = m) :
    Sd K (tCallK (spD K (n + m) F) gV E0 t tk) (gCallK F gA g gk) := by
  intro E B σ H ρ a ρ' Q j e q
  simp only [gCallK, Option.bind_eq_some_iff] at e
  obtain ⟨⟨ars, ρ1⟩, e1, ⟨brs, ρ2⟩, e1', as, e2, e3⟩ := e
  split at e3
  · rename_i nd
    simp only [Option.bind_eq_some_iff] at e3
    obtain ⟨⟨d, outs⟩, e4, e5⟩ := e3
    split at e5
    · rename_i sk
      cases e5
      refine h E B σ H ρ ars ρ1 _ j e1 fun vs H1 j1 x1 s1 o1 => ?_
      refine hk E B σ H1 ρ1 brs ρ2 _ j1 e1' fun zs H2 j2 x2 s2 o2 => ?_
      have oo := o.ok (o1.later x2 s2) o2 (hn _ _ _ e1) (hm _ _ _ e1')
      refine ⟨B, as, d, outs, ?_, j2.argIn oo e2 nd, e4, fun v H3 pa rp => ?_⟩
      · rw [ars_len oo]; exact o.len (hn _ _ _ e1) (hm _ _ _ e1')
      · obtain ⟨j3, x3⟩ := j2.called oo e2 nd sk pa (fun _ z => z) (fun _ z => .inl z) (fun _ z nz => absurd z nz)
        exact q v H3 j3 ((x1.trans x2).trans x3) ((s1.trans s2).trans (put_shp _ _ _)) rp
    · cases e5
  · cases e3
section
variable {X : Cx} {k n m : Nat} {f : Addr} {fd : FuncData} {ps ks : List Str} {x : Str} {p pos : Pos} {e : Expr} {es : List Expr} {kws : List Keyword} {g gk : AF} {F : FnF} {gl : List Value → List Value → List Value} {gV : List V → List V → List V} {gA : List Ar → List Ar → List Ar}
theorem dcallK (G : FnOk X.prog X.w X.K X.mg X.base CX0 k f fd ps (spD X.K (n + m) F)) (hr : Room k X.A) (hg : Gl X x) (hm : X.mg x = some (.ref f)) (hk : PySem.W.keepIn X.K (.ref f) = true) (hb : KBinds X.K fd ps ks gl gV) (o : Ord n m gV gA)
    (ha : PAD X (e :: es) g) (hkw : PKD X kws gk) (hn : ∀ ρ as ρ', g ρ = some (as, ρ') → as.length = n) (hmm : ∀ ρ as ρ', gk ρ = some (as, ρ') → as.length = m)
    (hall : (backToKw pos (keywordEach kws X.env)).all (·.1.isSome) = true := by rfl) (hks : (backToKw pos (keywordEach kws X.env)).filterMap (·.1) = ks := by rfl)
    (hdb : (x == ("__debug__" : Str)) = false := by decide) (he : starEach (e :: es) X.env = (false, eval e X.env) :: starEach es X.env := by rfl)
    (hpl : ((backTo pos (starEach (e :: es) X.env)).any (·.1) || (backToKw pos (keywordEach kws X.env)).any (·.1.isNone)) = false := by rfl) :
    PD X (.Call (.Name x p) (e :: es) kws pos) (gCallK F gA g gk) := by
  obtain ⟨t, p1, d1⟩ := ha.run
  obtain ⟨tk, p2, d2⟩ := hkw.run
  exact ⟨_, pe_callK G hr hg hm hk hb pass0 p1 p2 hall hks hdb he hpl, sd_callK o d1 d2 hn hmm⟩
/-- f(k = v, ..) -/
theorem pe_callK0 {t : TA} {sp : Sp} (G : FnOk X.prog X.w X.K X.mg X.base CX0 k f fd ps sp) (hr : Room k X.A) (hg : Gl X x) (hm : X.mg x = some (.ref f)) (hk : PySem.W.keepIn X.K (.ref f) = true) (hb : KBinds X.K fd ps ks gl gV)
    (hkw : PK X kws t) (hall : (backToKw pos (keywordEach kws X.env)).all (·.1.isSome) = true := by rfl) (hks : (backToKw pos (keywordEach kws X.env)).filterMap (·.1) = ks := by rfl)
    (hdb : (x == ("__debug__" : Str)) = false := by decide)
    (hpl : ((backTo pos (starEach [] X.env)).any (·.1) || (backToKw pos (keywordEach kws X.env)).any (·.1.isNone)) = false := by rfl) :
    PE X (.Call (.Name x p) [] kws pos) (tCallK sp gV E0 tNil t) := by
  refine ⟨fun pins s σ H Q I h => ?_⟩
  refine wpAny_Call_Name_kw (ld_glob I hg hm ?_ hdb)
  refine PySem.W.callWith_KW0 (h₀ := X.base) I.ok.mod.kin hk hall ?_ hpl
  refine thn (hkw.run pos pins s σ H _ I h) fun ws s2 ⟨zs, H2, I2, rz, q2⟩ => ⟨I2.kIn, ?_⟩
  rw [hks]
  exact run_fnk (us := []) (vs := []) G hr hb pass0 I2 .nil rz q2
theorem dcallK0 (G : FnOk X.prog X.w X.K X.mg X.base CX0 k f fd ps (spD X.K (0 + m) F)) (hr : Room k X.A) (hg : Gl X x) (hm : X.mg x = some (.ref f)) (hk : PySem.W.keepIn X.K (.ref f) = true) (hb : KBinds X.K fd ps ks gl gV) (o : Ord 0 m gV gA)
    (hkw : PKD X kws gk) (hmm : ∀ ρ as ρ', gk ρ = some (as, ρ') → as.length = m)
    (hall : (backToKw pos (keywordEach kws X.env)).all (·.1.isSome) = true := by rfl) (hks : (backToKw pos (keywordEach kws X.env)).filterMap (·.1) = ks := by rfl)
    (hdb : (x == ("__debug__" : Str)) = false := by decide)
    (hpl : ((backTo pos (starEach [] X.env)).any (·.1) || (backToKw pos (keywordEach kws X.env)).any (·.1.isNone)) = false := by rfl) :
    PD X (.Call (.Name x p) [] kws pos) (gCallK F gA gNil gk) := by
  obtain ⟨tk, p2, d2⟩ := hkw.run
  refine ⟨_, pe_callK0 G hr hg hm hk hb p2 hall hks hdb hpl, sd_callK o (fun E B σ H ρ as ρ' Q j e q => by
    cases e
    exact q [] H j Ext.refl (Shp.refl _) .nil) d2 len_nil hmm⟩
end
/-- no defaults: every parameter is given -/
theorem kb_mk {K : PySem.W.Frag} {fd : FuncData} {ps ks : List Str} {g : List Value → List Value → List Value} {gV : List V → List V → List V} {n m : Nat}
    (h : ∀ us ws : List Value, us.length = n → ws.length = m → bindArgs fd ⟨us, ks.zip ws⟩ = pure (ps.zip (g us ws)))
    (hl : ∀ us ws : List Value, (g us ws).length = ps.length → us.length = n ∧ ws.length = m)
    (hr : ∀ {vs us zs ws}, Vals vs us → Vals zs ws → Vals (gV vs zs) (g us ws)) : KBinds K fd ps ks g gV :=
  ⟨fun s us ws _ l => .of_eq (h us ws (hl us ws l).1 (hl us ws l).2), fun r1 r2 => hr r1 r2⟩
end DL
namespace DL
open PySem PySem.Spec PyProof.Rows L2

theorem fn_none {P : Program} {w : World} {K : PySem.W.Frag} {mg : Str → Option Value} {base : Heap} {CX : CXT} {k n : Nat} {f : Addr} {fd : FuncData} {ps : List Str} : FnOk P w K mg base CX k f fd ps (spD K n fun _ => none) := by
  have no : ∀ vs H Q E, ¬ spD K n (fun _ => none) vs H Q E := fun vs H Q E h => by
    obtain ⟨_, _, _, _, _, _, h, _⟩ := h
    cases h
  exact ⟨fun vs H Q E h => absurd h (no vs H Q E), fun A outer s H args us vs Q E _ _ _ _ h => absurd h (no vs H Q E)⟩
theorem fn_noneR {P : Program} {w : World} {K : PySem.W.Frag} {mg : Str → Option Value} {base : Heap} {CX : CXT} {k n : Nat} {f : Addr} {fd : FuncData} {ps : List Str} : FnOk P w K mg base CX k f fd ps (spF K n fun _ => none) := by
  have no : ∀ vs H Q E, ¬ spF K n (fun _ => none) vs H Q E := fun vs H Q E h => by
    obtain ⟨_, _, _, _, _, _, h, _⟩ := h
    cases h
  exact ⟨fun vs H Q E h => absurd h (no vs H Q E), fun A outer s H args us vs Q E _ _ _ _ h => absurd h (no vs H Q E)⟩

/-! ### [e, ..] * n -/
def gRep (ga gb : EF) : EF := fun ρ => (ga ρ).bind fun p => (gb p.2).bind fun q => match p.1, q.1 with
  | .d (.list xs), .d (.int k) => if k ≤ (big : Nat) ∧ -(big : Nat) ≤ k ∧ xs.length * k.toNat ≤ big then some (.d (.list (List.replicate k.toNat xs).flatten), q.2) else none
  | _, _ => none
theorem drep {X : Cx} {pos : Pos} {a b : Expr} {ga gb : EF} (ha : PD X a ga) (hb : PD X b gb) : PD X (.BinOp a .Mult b pos) (gRep ga gb) := by
  obtain ⟨ta, p1, d1⟩ := ha.run
  obtain ⟨tb, p2, d2⟩ := hb.run
  refine ⟨_, pe_op op_rep p1 p2, ?_⟩
  intro E B σ H ρ a ρ' Q j e q
  simp only [gRep, Option.bind_eq_some_iff] at e
  obtain ⟨⟨a1, ρ1⟩, e1, ⟨a2, ρ2⟩, e2, e3⟩ := e
  split at e3
  · rename_i xs k ha hb
    simp only at ha hb
    subst ha hb
    split at e3
    · rename_i hz
      cases e3
      refine d1 E B σ H ρ _ ρ1 _ j e1 fun v1 H1 j1 x1 s1 o1 => ?_
      refine d2 E B σ H1 ρ1 _ ρ2 _ j1 e2 fun v2 H2 j2 x2 s2 o2 => ?_
      have o3 : Rp X.K (hid B H2) v1 (.list xs) := Rp.ext x2 o1
      have o4 : Rp X.K (hid B H2) v2 (.int k) := o2
      cases o4
      cases o3 with
      | lst h1 h2 =>
        have hb : (big : Nat) = 1000000 := rfl
        have h3 : ((big : Nat) : Int) = 1000000 := rfl
        rw [h3] at hz
        refine ⟨_, k, _, rfl, rfl, hid_le _ _ h1, by omega, by omega, big_le (by rw [h2.length]; exact hz.2.2), fun p hp => ?_⟩
        exact q _ _ (j2.grow (same_new hp)) ((x1.trans x2).trans (Ext.grow (same_new hp))) (s1.trans s2) (rp_lst j2.bt hp (RpA.rep h2 _))
    · cases e3
  · cases e3

/-! ### more built-in functions -/
def cAbs : List PyData → Option PyData
  | [.int i] => some (.int (if i < 0 then -i else i))
  | _ => none
theorem cs_abs {K : PySem.W.Frag} : CallS K (fun xs H Q => ∃ i, xs = [.int i] ∧ Q (.int (if i < 0 then -i else i)) H) cAbs := by
  intro B H xs ds d Q tr hb e q
  unfold cAbs at e
  split at e
  · cases e
    obtain ⟨x, rfl, h⟩ := hb.one
    rw [h.int]
    exact ⟨_, rfl, q _ H (Same.refl _) (.int _)⟩
  · cases e
def cMax2 : List PyData → Option PyData
  | [.int i, .int j] => some (.int (if j > i then j else i))
  | _ => none
theorem cs_max2 {K : PySem.W.Frag} : CallS K (fun xs H Q => ∃ i j, xs = [.int i, .int j] ∧ Q (.int (if j > i then j else i)) H) cMax2 := by
  intro B H xs ds d Q tr hb e q
  unfold cMax2 at e
  split at e
  · cases e
    obtain ⟨x, y, rfl, h, h'⟩ := hb.two
    rw [h.int, h'.int]
    exact ⟨_, _, rfl, q _ H (Same.refl _) (.int _)⟩
  · cases e
def cMin2 : List PyData → Option PyData
  | [.int i, .int j] => some (.int (if j < i then j else i))
  | _ => none
theorem cs_min2 {K : PySem.W.Frag} : CallS K (fun xs H Q => ∃ i j, xs = [.int i, .int j] ∧ Q (.int (if j < i then j else i)) H) cMin2 := by
  intro B H xs ds d Q tr hb e q
  unfold cMin2 at e
  split at e
  · cases e
    obtain ⟨x, y, rfl, h, h'⟩ := hb.two
    rw [h.int, h'.int]
    exact ⟨_, _, rfl, q _ H (Same.refl _) (.int _)⟩
  · cases e
/-- the greatest -/
def maxI : List Int → Option Int
  | [] => none
  | x :: r => some (r.foldl (fun a b => if a < b then b else a) x)
theorem maxI_spec : ∀ (r : List Int) (x : Int), (r.foldl (fun a b => if a < b then b else a) x) ∈ x :: r ∧ ∀ y ∈ x :: r, y ≤ r.foldl (fun a b => if a < b then b else a) x
  | [], x => ⟨List.mem_singleton.mpr rfl, fun y h => by rw [List.mem_singleton.mp h]; exact Int.le_refl _⟩
  | z :: r, x => by
    have ih := maxI_spec r (if x < z then z else x)
    simp only [List.foldl_cons]
    refine ⟨?_, fun y hy => ?_⟩
    · rcases List.mem_cons.mp ih.1 with h | h
      · rw [h]
        split
        · exact List.mem_cons_of_mem _ List.mem_cons_self
        · exact List.mem_cons_self
      · exact List.mem_cons_of_mem _ (List.mem_cons_of_mem _ h)
    · have top := ih.2 _ List.mem_cons_self
      rcases List.mem_cons.mp hy with rfl | hy
      · refine Int.le_trans ?_ top
        split <;> omega
      · rcases List.mem_cons.mp hy with rfl | hy
        · refine Int.le_trans ?_ top
          split <;> omega
        · exact ih.2 y (List.mem_cons_of_mem _ hy)
def cMax : List PyData → Option PyData
  | [.list ds] => (ints? ds).bind fun ns => (maxI ns).map .int
  | _ => none
theorem cs_max {K : PySem.W.Frag} : CallS K (rMax K) cMax := by
  intro B H xs ds d Q tr hb e q
  unfold cMax at e
  split at e
  · obtain ⟨ns, e1, e2⟩ := Option.bind_eq_some_iff.mp e
    obtain ⟨m, e3, e4⟩ := Option.map_eq_some_iff.mp e2
    cases e4
    obtain ⟨x, rfl, h⟩ := hb.one
    rw [ints_of e1] at h
    obtain ⟨p, rfl, h1⟩ := h.ints
    cases ns with
    | nil => cases e3
    | cons n r =>
      cases e3
      obtain ⟨m1, m2⟩ := maxI_spec r n
      refine ⟨p, n :: r, rfl, h1, Nat.succ_pos _, fun m' h2 h3 => ?_⟩
      have : m' = r.foldl (fun a b => if a < b then b else a) n := Int.le_antisymm (m2 _ h2) (h3 _ m1)
      rw [this]
      exact q _ H (Same.refl _) (.int _)
  · cases e
def cSum : List PyData → Option PyData
  | [.list ds] => (ints? ds).map fun ns => .int ns.sum
  | _ => none
theorem cs_sum {K : PySem.W.Frag} : CallS K (rSum K) cSum := by
  intro B H xs ds d Q tr hb e q
  unfold cSum at e
  split at e
  · obtain ⟨ns, e1, e2⟩ := Option.map_eq_some_iff.mp e
    cases e2
    obtain ⟨x, rfl, h⟩ := hb.one
    rw [ints_of e1] at h
    obtain ⟨p, rfl, h1⟩ := h.ints
    exact ⟨p, ns, rfl, h1, q _ H (Same.refl _) (.int _)⟩
  · cases e
def cList : List PyData → Option (List PyData)
  | [.list ds] => some ds
  | [.tuple ds] => some ds
  | _ => none
theorem cf_list {K : PySem.W.Frag} : CallF K (fun xs H Q => ∃ p ys, xs = [.ref p] ∧ (SqL K H p ys ∨ SqT K H p ys) ∧ ∀ l, H l = none → Q (.ref l) (upd H l (.lst ys))) cList := by
  intro B H xs ds d Q tr hb e q
  unfold cList at e
  split at e
  · cases e
    obtain ⟨x, rfl, h⟩ := hb.one
    obtain ⟨p, vs, rfl, h1, h2⟩ := h.list
    exact ⟨p, vs, rfl, .inl h1, fun l hl => q l vs hl h2⟩
  · cases e
    obtain ⟨x, rfl, h⟩ := hb.one
    obtain ⟨p, vs, rfl, h1, h2⟩ := h.tuple
    exact ⟨p, vs, rfl, .inr h1, fun l hl => q l vs hl h2⟩
  · cases e
def bools? : List PyData → Option (List Bool)
  | [] => some []
  | .bool i :: r => (bools? r).map fun l => i :: l
  | _ :: _ => none
theorem RpA.bools {K : PySem.W.Frag} {H : Hp} : ∀ {ds : List PyData} {bs : List Bool} {vs : List V}, bools? ds = some bs → RpA K H vs ds → vs = bs.map V.bl
  | [], _, _, e, h => by cases e; cases h; rfl
  | .bool b :: r, _, _, e, h => by
    simp only [bools?, Option.map_eq_some_iff] at e
    obtain ⟨l, e1, e2⟩ := e
    subst e2
    cases h with
    | cons h1 h2 => cases h1; rw [RpA.bools e1 h2]; rfl
  | .none :: _, _, _, e, _ => by cases e
  | .int _ :: _, _, _, e, _ => by cases e
  | .str _ :: _, _, _, e, _ => by cases e
  | .list _ :: _, _, _, e, _ => by cases e
  | .tuple _ :: _, _, _, e, _ => by cases e
  | .dict _ :: _, _, _, e, _ => by cases e
def cAny : List PyData → Option PyData
  | [.list ds] => (bools? ds).map fun bs => .bool (bs.any id)
  | _ => none
def cAll : List PyData → Option PyData
  | [.list ds] => (bools? ds).map fun bs => .bool (bs.all id)
  | _ => none
theorem cs_any {K : PySem.W.Frag} : CallS K (rAny K) cAny := by
  intro B H xs ds d Q tr hb e q
  unfold cAny at e
  split at e
  · obtain ⟨bs, e1, e2⟩ := Option.map_eq_some_iff.mp e
    cases e2
    obtain ⟨x, rfl, h⟩ := hb.one
    obtain ⟨p, vs, rfl, h1, h2⟩ := h.list
    rw [RpA.bools e1 h2] at h1
    exact ⟨p, bs, rfl, h1, q _ H (Same.refl _) (.bl _)⟩
  · cases e
theorem cs_all {K : PySem.W.Frag} : CallS K (rAll K) cAll := by
  intro B H xs ds d Q tr hb e q
  unfold cAll at e
  split at e
  · obtain ⟨bs, e1, e2⟩ := Option.map_eq_some_iff.mp e
    cases e2
    obtain ⟨x, rfl, h⟩ := hb.one
    obtain ⟨p, vs, rfl, h1, h2⟩ := h.list
    rw [RpA.bools e1 h2] at h1
    exact ⟨p, bs, rfl, h1, q _ H (Same.refl _) (.bl _)⟩
  · cases e
theorem iop_mulW {X : Cx} : OpR X (inplaceOp .Mult) (rI CMulW fun i j => .int (i * j)) := opI fun _ _ _ _ _ _ _ hc q => imul_int q hc.ok
end DL
namespace DL
open PySem PySem.Spec PyProof.Rows L2
/-! ### a set of a list of ints -/
abbrev bornSet (w : World) : Obj := { cls := .type "set", dict := none, data := .set #[] 0 (.fresh 0 0 (!w.params.followText "set-order")) }
abbrev bornIt (l : Addr) : Obj := { cls := .type "list_iterator", data := .fields #[.ref l, .int 0 0] }
section
variable {P : Program} {w : World} {A : Around} {E : Value → Shared → Prop} {s : Shared} {l : Addr} {items : Array Value} {ns : List Int}
/-- what set(list) leaves -/
def SetLeft (w : World) (s : Shared) (ns : List Int) (s' : Shared) : Prop :=
  ∃ H tk c, s' = { s with heap := H, toks := tk } ∧ SetR w H s.heap.objs.size (fun j => decide (j ∈ ns)) c ∧ c ≤ ns.length ∧ ∀ b o, s.heap.get? b = some o → H.get? b = some o
theorem set_filled (hh : A.handled = none) (lst : s.heap.IsList l items) (isI : IntsAre items.toList ns) (few : ns.length + 1 < scanBound) {R : Result → Shared → Prop}
    (fin : ∀ s', SetLeft w s ns s' → R (.ok (.ret .none)) s') :
    codeAny (model P w) A (.builtin "set.update.loop" ⟨[.ref s.heap.objs.size, .ref (s.heap.objs.size + 1)], []⟩) R { s with heap := (s.heap.push (bornSet w)).push (bornIt l) } := by
  have many : items.size = ns.length := (Array.length_toList (xs := items)).symm.trans (IntsAre.length isI)
  have below : l < s.heap.objs.size := let ⟨_, e, _⟩ := lst; Heap.lt_size e
  have sz : (s.heap.push (bornSet w)).objs.size = s.heap.objs.size + 1 := Heap.size_push ..
  have there : (s.heap.push (bornSet w)).IsList l items := lst.push _
  have apart : s.heap.objs.size ∉ [s.heap.objs.size + 1, l] := fun m => by
    rcases List.mem_cons.mp m with z | z
    · exact Nat.ne_of_lt (Nat.lt_succ_self _) z
    · exact Nat.ne_of_gt below (List.mem_singleton.mp z)
  have each : ∀ (i : Nat) (v : Value), items[i]? = some v → ∃ k t, ns[i]? = some k ∧ v = .int k t := fun i v q => by
    obtain ⟨ok, _⟩ := Array.getElem?_eq_some_iff.mp q
    obtain ⟨t, z⟩ := IntsAre.int_at isI i v ((Array.getElem?_toList ..).trans q)
    have lt : i < ns.length := many ▸ ok
    exact ⟨ns[i], t, List.getElem?_eq_getElem lt, by rw [z, List.getD_eq_getElem?_getD, List.getElem?_eq_getElem lt]; rfl⟩
  have W := (Walks.list (prog := P) (w := w) (A := A.in1) (by simp [hh]) (s.heap.objs.size + 1) l (Nat.ne_of_lt (Nat.lt_succ_of_lt below)) items).toS
  refine set_update_ints W s.heap.objs.size apart ns many few each items.size 0 _ (Nat.sub_zero _) (Nat.zero_le _) ⟨⟨_, by rw [← sz]; exact Heap.get?_push_size _ rfl, rfl, rfl⟩, there.push _⟩
    ⟨0, Nat.le_refl 0, setR_new_at (Heap.get?_push_of_some _ (Heap.get?_push_size _ rfl))⟩ fun s' c mv le new => ?_
  obtain ⟨H, gg, dd, tk, oo⟩ := s'
  obtain rfl : gg = s.gens := mv.gens
  obtain rfl : dd = s.drawn := mv.drawn
  obtain rfl : oo = s.os := mv.os
  refine fin _ ⟨H, tk, c, rfl, new, many ▸ le, fun b o q => mv.heap b o (fun m => ?_) (Heap.get?_push_of_some _ (Heap.get?_push_of_some _ q))⟩
  have lt := Heap.lt_size q
  rcases List.mem_cons.mp m with z | z
  · exact Nat.ne_of_lt lt z
  · exact Nat.ne_of_lt (Nat.lt_succ_of_lt lt) (List.mem_singleton.mp z)
theorem call_set_listI (hh : A.handled = none) (lst : s.heap.IsList l items) (isI : IntsAre items.toList ns) (few : ns.length + 1 < scanBound) {Q : Value → Shared → Prop}
    (fin : ∀ s', SetLeft w s ns s' → Q (.ref s.heap.objs.size) s') : wpAny (model P w) A (call (.type "set") [.ref l]) Q E s := by
  obtain ⟨mc, mt, mo⟩ := F.called_set.mro
  have f1 := F.called_set.made; have f2 := F.called_set.sub; have f3 := F.called_set.notType; have f4 := F.called_set.canCreate; have f5 := F.typeCall_set_1 (.ref l)
  refine wpAny_call (codeAny_of_tree (show wpAny _ _ (callAny (.type "set") _) _ _ _ from wpAny_pure ⟨Code.quiet_builtin _ (by decide +kernel), codeAny_builtin F.entry_type_call ?_⟩))
  rw [show A.under (.builtin "type.__call__" ⟨[.type "set", .ref l], []⟩) = _ from Around.under_plain (weight_type_call_type "set" [.ref l] []) rfl]
  repeat any_goals first | assumption | wp_step
  refine codeAny_mono (code_set_led1 (.ref l) (E := E) (Q₁ := fun v s1 => v = .ref s.heap.objs.size ∧ s1 = { s with heap := s.heap.push (bornSet w) }) ⟨rfl, rfl⟩) fun r s1 made => ?_
  match r with
  | .error _ => exact made
  | .ok (.ret v) =>
    obtain ⟨rfl, rfl⟩ := made
    have isSet : Shared.TypeIs { s with heap := s.heap.push (bornSet w) } (.ref s.heap.objs.size) "set" := ⟨_, Heap.get?_push_size _ rfl, rfl⟩
    have g1 := F.called_set.init.lookup; have g2 := F.called_set.init.bind (.ref s.heap.objs.size)
    repeat any_goals first | assumption | wp_step
    refine codeAny_mono (codeAny_call_builtin (R := wants (fun r s2 => r = .none ∧ SetLeft w s ns s2) E) F.called_set.init.plain F.entry_set_init (check_set_init_1 isSet ?_)) fun r2 s2 done => ?_
    · have there : (s.heap.push (bornSet w)).IsList l items := lst.push _
      have ⟨⟨oc, od, oD, oS⟩, at0, c0, n0, d0⟩ := lst
      simp only at c0 d0
      subst c0 d0
      have at1 : (s.heap.push (bornSet w)).get? l = some ⟨.type "list", od, .seq items n0, oS⟩ := Heap.get?_push_of_some _ at0
      have k1 := PySem.F.sub_list_set; have k2 := PySem.F.sub_list_frozenset
      have k3 : (Value.type "list" == Value.type "dict") = false := by rfl
      unfold Builtin.«set.__init__» noKeywords Builtin.Frozenset.updateFrom
      generalize walk : pyIter = it
      wp_walk
      subst walk
      refine wpAny_pyIter_list there (wpAny_bind (wpAny_runValue ?_))
      have sz : (s.heap.push (bornSet w)).objs.size = s.heap.objs.size + 1 := Heap.size_push ..
      show codeAny _ _ (.builtin "set.update.loop" ⟨[.ref s.heap.objs.size, .ref (s.heap.push (bornSet w)).objs.size], []⟩) _ _
      rw [sz]
      refine set_filled (by simp [hh]) lst isI few fun s3 left => ?_
      obtain ⟨H, tk, c, rfl, l1, l2, l3⟩ := left
      exact wpAny_pure (show wpAny _ _ (ret Value.none) _ _ _ from wpAny_pure ⟨rfl, H, tk, c, rfl, l1, l2, l3⟩)
    · match r2 with
      | .error _ => exact done
      | .ok (.ret v) =>
        obtain ⟨rfl, H, tk, c, rfl, l1, l2, l3⟩ := done
        repeat any_goals first | assumption | wp_step
        exact fin _ ⟨H, tk, c, rfl, l1, l2, l3⟩
      | .ok .next | .ok .brk | .ok .cont => exact done.elim
  | .ok .next | .ok .brk | .ok .cont => exact made.elim
end
end DL
namespace DL
open PySem PySem.Spec PyProof.Rows L2
section
variable {P : Program} {w : World} {A : Around} {E : Value → Shared → Prop} {s : Shared} {a : Addr}
/-- sorted of a set of ints, any number of them: a new list behind all that was there -/
theorem sorted_setO {S : Int → Bool} {n : Nat} {Q : Value → Shared → Prop} (R : SetR w s.heap a S n) (calm : A.handled = none)
    (fin : ∀ (s' : Shared) (p : Addr) (its : List Value) (k : Nat) (ns : List Int), (∀ b o, s.heap.get? b = some o → s'.heap.get? b = some o) ∧ s'.gens = s.gens ∧ s'.os = s.os ∧ s.heap.objs.size ≤ p →
      s'.heap.get? p = some (seqObj "list" its.toArray k) → IntsAre its ns → ns.Pairwise (· < ·) ∧ (∀ i, i ∈ ns ↔ S i = true) ∧ ns.length = n ∧ ns.length ≤ sizeLine → Q (.ref p) s') :
    wpAny (model P w) A (call (.builtin "sorted") [.ref a]) Q E s := by
  obtain ⟨o, es, ep, tb, at0, ex, dat, good, nodup, mem, few, fit, size, ris, led⟩ := R
  refine Calls.call_function_entry kind_sorted plain_sorted entry_sorted (args_sorted1 _) (show wpAny _ _ (Builtin.«sorted» _) _ _ _ from ?_)
  unfold Builtin.«sorted»
  refine wpAny_bind (m := checkCount "sorted" 1 1 _) (wpAny_pure (wpAny_bind (collect_set (A := A.in1) calm ⟨o, at0, ex.1, dat⟩ fit few ris led fun s1 vs old fresh gens oss perm => ?_)))
  have count : vs.length = es.size := by rw [perm.length_eq, List.length_map]; exact Array.length_toList
  have fits : vs.length ≤ sizeLine := count ▸ fits_of_scanBound few
  have whole : IntsAre vs (vs.map SrtO.iv) := SrtO.ints_iv fun v hv => by
    obtain ⟨e, he, rfl⟩ := List.mem_map.mp (perm.mem_iff.mp hv)
    obtain ⟨i, tk, z, _⟩ := good e he
    exact ⟨i, tk, z⟩
  have keys : (vs.map SrtO.iv).Perm (es.toList.map keyOf) := by
    refine (perm.map SrtO.iv).trans (List.Perm.of_eq ?_)
    rw [List.map_map]
    refine List.map_congr_left fun e he => ?_
    obtain ⟨i, tk, z, _⟩ := good e he
    simp only [Function.comp, keyOf, z, SrtO.iv]
  refine wpAny_bind (wpAny_newList ?_ fits)
  have here : (s1.heap.push (seqObj "list" vs.toArray 0)).get? s1.heap.objs.size = some (seqObj "list" vs.toArray 0) := Heap.get?_push_size _ rfl
  refine wpAny_bind (wpAny_holding (wpAny_call_entry slot_list_sort ⟨_, here, rfl⟩ entry_list_sort (SrtO.list_sort_ord SrtO.swo_int here fits (fun two => SrtO.ints_sortable whole two) fun out srt stb => ⟨_, rfl, ?_⟩) (args_list_sort _)))
  obtain ⟨k, at1⟩ := sortedHeap_at (vs := vs) (out := out.toArray) here
  obtain ⟨e1, e2, e3⟩ := SrtO.ints_out whole srt stb
  have pm := e2.trans keys
  have len : (out.map SrtO.iv).length = n := pm.length_eq.trans (by rw [List.length_map, ← size]; exact Array.length_toList)
  refine wpAny_pure ⟨_, rfl, fin _ s1.heap.objs.size out k (out.map SrtO.iv) ⟨fun b u q => ?_, gens, oss, fresh⟩ at1 e1 ⟨lt_of_le_nodup _ e3 (pm.nodup_iff.mpr nodup), fun i => pm.mem_iff.trans (mem i).symm, len, by rw [len, ← size]; exact fits_of_scanBound few⟩⟩
  have below := Heap.lt_size (old b u q)
  exact (sortedHeap_old (Nat.ne_of_lt below) (by rw [size_push']; exact Nat.lt_succ_of_lt below)).trans (Heap.get?_push_of_some _ (old b u q))
end
section
variable {X : Cx}
/-- set(xs) of a list of ints -/
def rSetLI (K : PySem.W.Frag) (w : World) : List V → Hp → VK → Prop := fun xs H Q => ∃ (l : Addr) (ns : List Int), xs = [V.ref l] ∧ SqL K H l (ns.map V.int) ∧ ns.length < 4000 ∧
  ∀ p c, H p = none → c ≤ ns.length → Q (.ref p) (upd H p (SetO w p (fun j => decide (j ∈ ns)) c))
theorem cr_setLI (hc : X.calm = true) : CallR X (.type "set") (rSetLI X.K X.w) := fun pins s σ H xs us Q I r h => by
  obtain ⟨l, ns, rfl, sq, few, q⟩ := h
  obtain ⟨its, vals, pl, _⟩ := I.list sq
  rw [Vals.ref1 r]
  refine call_set_listI (I.ok.hd hc) pl.isList (ns := ns) (by simpa using vals.ints) (by unfold scanBound; omega) fun s' left => ?_
  obtain ⟨h', tk, c, rfl, new, le, old⟩ := left
  exact ⟨.ref _, upd H s.heap.objs.size (SetO X.w s.heap.objs.size (fun j => decide (j ∈ ns)) c), I.laid (t' := tk) old (Nat.le_refl _) (setO_new new), rfl, q _ c (I.hok.fresh (Nat.le_refl _)) le⟩
def rSortedSetO (w : World) : List V → Hp → VK → Prop := fun vs H Q => ∃ (a : Addr) (S : Int → Bool) (n : Nat), vs = [V.ref a] ∧ H a = some (SetO w a S n) ∧
  ∀ (ns : List Int) (p : Addr), ns.Pairwise (· < ·) → (∀ k : Int, k ∈ ns ↔ S k = true) → H p = none → Q (.ref p) (upd H p (.lst (ns.map V.int)))
theorem cr_sortedSetO (hc : X.calm = true) : CallR X (.builtin "sorted") (rSortedSetO X.w) := fun pins s σ H vs us Q I r h => by
  obtain ⟨a, S, n, rfl, at0, q⟩ := h
  rw [Vals.ref1 r]
  refine sorted_setO (setO_get I at0) (I.ok.hd hc) fun s' p its k ns ⟨old, gens, oss, fresh⟩ at1 whole ⟨up, mem, _, fits⟩ => ?_
  have free : H p = none := I.hok.fresh fresh
  obtain ⟨h', g', d', t', o'⟩ := s'
  obtain rfl : g' = s.gens := gens
  obtain rfl : o' = s.os := oss
  refine ⟨.ref p, upd H p (.lst (ns.map V.int)), I.call (ch := []) (Un.laid old fresh free) (I.hok.laid old fresh ⟨by rw [List.length_map]; exact fits, its, k, vals_of_ints whole, at1⟩) I.bare (fun _ z => nomatch z), rfl, q ns p up mem free⟩
end
end DL

namespace DL
open PySem PySem.Spec PyProof.Rows L2
/-- sorted(set(xs)): the ints, each once -/
def dedup : List Int → List Int
  | [] => []
  | x :: r => if x ∈ r then dedup r else x :: dedup r
theorem mem_dedup {k : Int} : ∀ {l : List Int}, k ∈ dedup l ↔ k ∈ l
  | [] => Iff.rfl
  | x :: r => by
    unfold dedup
    split
    · rename_i h
      rw [mem_dedup, List.mem_cons]
      exact ⟨.inr, fun z => z.elim (fun e => e ▸ h) id⟩
    · rw [List.mem_cons, List.mem_cons, mem_dedup]
theorem nodup_dedup : ∀ (l : List Int), (dedup l).Nodup
  | [] => List.nodup_nil
  | x :: r => by
    unfold dedup
    split
    · exact nodup_dedup r
    · rename_i h
      exact List.nodup_cons.mpr ⟨fun z => h (mem_dedup.mp z), nodup_dedup r⟩
def sortSet (l : List Int) : List Int := sortI (dedup l)
theorem mem_sortSet {l : List Int} {k : Int} : k ∈ sortSet l ↔ k ∈ l := by
  unfold sortSet
  rw [(sortI_perm _).mem_iff, mem_dedup]
theorem sortSet_pw (l : List Int) : (sortSet l).Pairwise (· < ·) := lt_of_le_nodup _ (sortI_pw _) ((sortI_perm _).nodup_iff.mpr (nodup_dedup l))
theorem set_one {xs l : List Int} (h1 : xs.Pairwise (· < ·)) (h2 : ∀ k, k ∈ xs ↔ k ∈ l) : xs = sortSet l := by
  have lt : ∀ {ys : List Int}, ys.Pairwise (· < ·) → ys.Pairwise (· ≤ ·) := fun h => h.imp fun h => Int.le_of_lt h
  have nd : ∀ {ys : List Int}, ys.Pairwise (· < ·) → ys.Nodup := fun h => h.imp fun {a b} h e => by subst e; exact Int.lt_irrefl _ h
  exact sort_one ((List.perm_ext_iff_of_nodup (nd h1) (nd (sortSet_pw l))).mpr fun k => by rw [h2, mem_sortSet]) (lt h1) (lt (sortSet_pw l))
def cSortSet : List PyData → Option (List PyData)
  | [.list ds] => (ints? ds).bind fun ns => if ns.length < 4000 then some ((sortSet ns).map .int) else none
  | _ => none
section
variable {X : Cx} {x y : Str} {p pos p' pos' : Pos} {e : Expr} {g : AF} {r : List V → Hp → VK → Prop}
theorem sf_sset {K : PySem.W.Frag} {w : World} {t : TA} (h : Sa K t g) : Sf K (tCB (rSortedSetO w) fun σ H Q => tCB (rSetLI K w) t σ H fun v H' => Q [v] H') (fCB cSortSet g) := by
  intro E B σ H ρ a ρ' Q j e q
  simp only [fCB, Option.bind_eq_some_iff, Option.map_eq_some_iff] at e
  obtain ⟨⟨as, ρ1⟩, e1, ds, e2, d, e3, e4⟩ := e
  cases e4
  refine h E B σ H ρ as ρ1 _ j e1 fun xs H1 j1 x1 s1 o1 => ?_
  unfold cSortSet at e3
  split at e3
  · obtain ⟨ns, k1, k2⟩ := Option.bind_eq_some_iff.mp e3
    split at k2
    · rename_i hz
      cases k2
      have hb := o1.bds j1 e2
      obtain ⟨x, rfl, hx⟩ := hb.one
      rw [ints_of k1] at hx
      obtain ⟨a, rfl, h1⟩ := hx.ints
      refine ⟨a, ns, rfl, h1, hz, fun p c hp hc => ?_⟩
      refine ⟨p, _, c, rfl, upd_same, fun ms p2 h2 h3 hp2 => ?_⟩
      have em : ms = sortSet ns := set_one h2 fun k => (h3 k).trans (by simp)
      subst em
      have j2 := j1.grow (same_new (o := SetO w p (fun j => decide (j ∈ ns)) c) hp)
      have x2 : Ext B H B (upd H1 p (SetO w p (fun j => decide (j ∈ ns)) c)) := x1.trans (Ext.grow (same_new hp))
      exact q p2 _ _ (free_back j2 x2 hp2) (j2.block hp2) (x2.trans (ext_block hp2)) s1 upd_same RpA.ofInts
    · cases k2
  · cases e3
/-- sorted(set(xs)) -/
theorem f_sset {es : List Expr} (hcal : X.calm = true) (hg : Gl X x) (hm : X.mg x = none) (hv : bootBuiltins x = some (.builtin "sorted")) (hg' : Gl X y) (hm' : X.mg y = none) (hv' : bootBuiltins y = some (.type "set")) (ha : PAD X (e :: es) g)
    (hn : x ≠ "__name__" := by decide) (hdb : (x == ("__debug__" : Str)) = false := by decide) (hn' : y ≠ "__name__" := by decide) (hdb' : (y == ("__debug__" : Str)) = false := by decide)
    (he : starEach [.Call (.Name y p') (e :: es) [] pos'] X.env = (false, eval (.Call (.Name y p') (e :: es) [] pos') X.env) :: starEach [] X.env := by rfl) (hpl : (backTo pos (starEach [] X.env)).any (·.1) = false := by rfl)
    (he' : starEach (e :: es) X.env = (false, eval e X.env) :: starEach es X.env := by rfl) (hpl' : (backTo pos' (starEach es X.env)).any (·.1) = false := by rfl) :
    PF X (.Call (.Name x p) [.Call (.Name y p') (e :: es) [] pos'] [] pos) (fCB cSortSet g) := by
  obtain ⟨t, p1, d1⟩ := ha.run
  exact ⟨_, pe_callB (cr_sortedSetO hcal) hg hm hv (pa_cons (pe_callTy (cr_setLI hcal) hg' hm' hv' p1 hn' hdb' he' hpl') pa_nil he) hn hdb he hpl, sf_sset d1⟩
end
end DL
namespace PySem
open Sem (wp)
open PyProof.Rows
namespace F
theorem args_sum2 (a b : Value) : argsOk "sum" ⟨[a, b], []⟩ := by unfold argsOk; kernel_rfl
end F
section
variable {prog : Program} {w : World} {A : Around} {E : Value → Shared → Prop} {s : Shared}
theorem add_lists2 {l b : Addr} {vs ws : List Value} {Q : Value → Shared → Prop} (one : s.heap.IsList l vs.toArray) (two : s.heap.IsList b ws.toArray) (fits : vs.length + ws.length ≤ sizeLine)
    (fin : Q (.ref s.heap.objs.size) { s with heap := s.heap.push { cls := .type "list", data := .seq (vs ++ ws).toArray } }) : wpAny (model prog w) A (binaryOp .Add (.ref l) (.ref b)) Q E s := by
  have ⟨⟨_, d1, _, z1⟩, at1, k1, n1, v1⟩ := one
  have ⟨⟨_, d2, _, z2⟩, at2, k2, n2, v2⟩ := two
  simp only at k1 v1 k2 v2
  subst k1 v1 k2 v2
  have M := list_addW l b vs.toArray ws.toArray n1 n2 d1 d2 z1 z2 (by simpa using fits)
  rw [show vs.toArray ++ ws.toArray = (vs ++ ws).toArray from by simp] at M
  exact concat_meets ⟨_, at1, rfl⟩ ⟨_, at2, rfl⟩ noFill_list_add seq_list_add F.slot_list_add F.entry_list_add (F.args_list_add_2 _ _) M ⟨at1, at2, fin⟩
end
section
variable {prog : Program} {w : World} {A : Around} {R : Result → Shared → Prop} {I : Addr} {fp wr : List Addr} {n : Nat} {P : Nat → Value → Prop} {St : Nat → Heap → Prop}
/-- the lists from i on, one after the other -/
def catFrom (L : Nat → List Value) : Nat → Nat → List Value
  | 0, _ => []
  | k + 1, i => L i ++ catFrom L k (i + 1)
theorem codeAny_sum_lists (W : Walks prog w A.in1 I fp wr n P St) (b : Nat → Addr) (L : Nat → List Value) (hval : ∀ i v, P i v → v = .ref (b i)) (S : Addr) (hSf : S ∉ fp) (hwr : ∀ x ∈ wr, x < S) :
    ∀ (k i : Nat) (s : Shared) (T : Addr) (acc : List Value) (c : Nat), n - i = k → i ≤ n → St i s.heap → s.heap.get? S = some { cls := .type "list", dict := none, data := .seq #[.ref T] c, slots := #[] } →
    T ∉ wr → T ≠ S → s.heap.PlainList T acc.toArray → (∀ j, j < n → b j ∉ wr ∧ b j ≠ S ∧ s.heap.IsList (b j) (L j).toArray) → acc.length + (catFrom L k i).length ≤ sizeLine →
    (∀ h' tk T', (0 < k → S < T') → (k = 0 → T' = T) → h'.PlainList T' (acc ++ catFrom L k i).toArray → (∀ b o, b ∉ wr → b ≠ S → s.heap.get? b = some o → h'.get? b = some o) → R (.ok (.ret (.ref T'))) { s with heap := h', toks := tk }) →
    codeAny (model prog w) A (.builtin "sum.loop" ⟨[.ref I, .ref S, rawInt 2, rawInt 0], []⟩) R s := by
  have hSw : S ∉ wr := fun h => hSf (W.sub _ h)
  intro k
  induction k with
  | zero =>
    intro i s T acc c hk hi hst hS hT hTS hacc hL hz hR
    have hin : i = n := by omega
    subst hin
    refine codeAny_builtin F.entry_sum_loop ?_
    rw [Around.under_plainId F.plain_sum_loop _]
    refine wpAny_bind (m := seqItems? (.ref S)) (wpAny_seqItems hS rfl ?_)
    refine wpAny_bind (m := tryCatch (pyNext (.ref I)) _) (wpAny_tryCatch (W.done s _ _ hst fun h' tk hk' => ?_))
    refine wpAny_pure (hR h' tk T (fun h => absurd h (Nat.lt_irrefl _)) (fun _ => rfl) ?_ fun b o hbw _ e => hk' b o hbw e)
    obtain ⟨m, e⟩ := hacc
    exact ⟨m, by simpa [catFrom] using hk' T _ hT e⟩
  | succ k ih =>
    intro i s T acc c hk hi hst hS hT hTS hacc hL hz hR
    have hlt : i < n := by omega
    refine codeAny_builtin F.entry_sum_loop ?_
    rw [Around.under_plainId F.plain_sum_loop _]
    refine wpAny_bind (m := seqItems? (.ref S)) (wpAny_seqItems hS rfl ?_)
    refine wpAny_bind (m := tryCatch (pyNext (.ref I)) _) (wpAny_tryCatch (W.item i s _ _ hlt hst fun v h' tk hP hst' hk' => ?_))
    have hv := hval i v hP
    subst hv
    have hS' := hk' S _ hSw hS
    obtain ⟨g1, g2, g3⟩ := hL i hlt
    obtain ⟨m, e⟩ := hacc
    have e' := hk' T _ hT e
    have hlS : S < h'.objs.size := Heap.lt_size hS'
    have hz' : acc.length + ((L i).length + (catFrom L k (i + 1)).length) ≤ sizeLine := by simpa [catFrom] using hz
    show wpAny _ A.in1 ((holding [Value.ref (b i)] (binaryOp .Add (.ref T) (.ref (b i)))).attempt >>= _) _ _ _
    refine wpAny_bind (wpAny_attempt (wpAny_holding (add_lists2 (s := { s with heap := h', toks := tk }) (vs := acc) (ws := L i) ⟨_, e', rfl, _, rfl⟩ (g3.at fun o q => hk' _ o g1 q) (by omega) ?_)))
    generalize hN : h'.push { cls := Value.type "list", data := Data.seq (acc ++ L i).toArray } = N
    have hNT : N.get? h'.objs.size = some { cls := Value.type "list", data := Data.seq (acc ++ L i).toArray } := by rw [← hN]; exact Heap.get?_push_size _ rfl
    have hNk : ∀ b o, h'.get? b = some o → N.get? b = some o := fun b o q => by rw [← hN]; exact Heap.get?_push_of_some _ q
    have hNS := hNk _ _ hS'
    show wpAny _ A.in1 (updateSeq S (fun _ => #[.ref h'.objs.size]) >>= _) _ _ _
    refine wpAny_bind ?_
    refine wpAny_updateSeq (s := { s with heap := N, toks := tk }) hNS rfl ?_
    have hS2 := Heap.get?_update_self (Obj.mapSeq fun _ => #[Value.ref h'.objs.size]) hNS rfl
    refine wpAny_bind (wpAny_letGo ?_)
    refine wpAny_bind ?_
    have oth : ∀ b o, b ≠ S → N.get? b = some o → ((N.update S (Obj.mapSeq fun _ => #[Value.ref h'.objs.size])).update S (Obj.mapSeq fun _ => #[Value.ref h'.objs.size])).get? b = some o := fun b o hb q =>
      (Heap.get?_update_other _ _ (Ne.symm hb)).trans ((Heap.get?_update_other _ _ (Ne.symm hb)).trans q)
    have neS : h'.objs.size ≠ S := Nat.ne_of_gt hlS
    refine wpAny_updateSeq hS2 rfl (wpAny_pure ⟨plainId_quiet F.plain_sum_loop _, ih (i + 1) _ h'.objs.size (acc ++ L i) _ (by omega) hlt (W.frame _ _ _ hst' fun b hb o q => ?_) (Heap.get?_update_self _ hS2 rfl) (fun z => ?_) neS ⟨_, oth _ _ neS hNT⟩ (fun j hj => ?_) (by rw [List.length_append]; omega) fun h'' tk'' T'' q1 q2 q3 q4 => ?_⟩)
    · exact oth _ _ (fun h => hSf (by rw [← h]; exact hb)) (hNk _ _ q)
    · exact absurd (hwr _ z) (Nat.not_lt.mpr (Nat.le_of_lt hlS))
    · obtain ⟨f1, f2, f3⟩ := hL j hj
      exact ⟨f1, f2, f3.at fun o q => oth _ _ f2 (hNk _ _ (hk' _ _ f1 q))⟩
    · refine hR h'' tk'' T'' (fun _ => ?_) (fun z => absurd z (Nat.succ_ne_zero _)) ?_ fun b o f1 f2 q => q4 b o f1 f2 (oth _ _ f2 (hNk _ _ (hk' _ _ f1 q)))
      · by_cases hk0 : k = 0
        · rw [q2 hk0]; exact hlS
        · exact q1 (Nat.pos_of_ne_zero hk0)
      · simpa [catFrom, List.append_assoc] using q3
end
section
variable {prog : Program} {w : World} {A : Around} {E : Value → Shared → Prop} {s : Shared}
theorem typeIs_list {a : Addr} {xs : Array Value} (h : s.heap.IsList a xs) : s.TypeIs (.ref a) "list" := by
  obtain ⟨o, e, hc, _⟩ := h
  exact ⟨o, e, hc⟩
theorem call_sum_lists {l z : Addr} {items : Array Value} {zs : List Value} {Q : Value → Shared → Prop} (hh : A.handled = none) (hl : s.heap.IsList l items) (hzl : s.heap.PlainList z zs.toArray) (b : Nat → Addr) (L : Nat → List Value)
    (hval : ∀ i v, items[i]? = some v → v = Value.ref (b i)) (hL : ∀ j, j < items.size → s.heap.IsList (b j) (L j).toArray) (hsz : zs.length + (catFrom L items.size 0).length ≤ sizeLine)
    (h : ∀ h' tk T', (0 < items.size → s.heap.objs.size ≤ T') → (items.size = 0 → T' = z) → h'.PlainList T' (zs ++ catFrom L items.size 0).toArray → (∀ b o, s.heap.get? b = some o → h'.get? b = some o) → Q (.ref T') { s with heap := h', toks := tk }) :
    wpAny (model prog w) A (call (.builtin "sum") [.ref l, .ref z]) Q E s := by
  refine call_function_tree F.kind_sum F.plain_sum F.entry_sum (F.args_sum2 _ _) ?_
  unfold Builtin.«sum»
  simp only [List.length_cons, List.length_nil]
  rw [if_neg (by decide)]
  refine wpAny_bind (wpAny_of_eq (show Builtin.Builtins.bindParams "sum" ["start"] 0 ⟨[Value.ref z], []⟩ = pure [some (Value.ref z)] from rfl) ?_)
  have hll : l < s.heap.objs.size := by obtain ⟨_, e, _⟩ := hl; exact Heap.lt_size e
  refine wpAny_bind (wpAny_pyIter_list hl ?_)
  generalize hN : s.heap.push { cls := .type "list_iterator", data := .fields #[.ref l, .int 0 0] } = N
  have hNk : ∀ b o, s.heap.get? b = some o → N.get? b = some o := fun b o q => by rw [← hN]; exact Heap.get?_push_of_some _ q
  have hNI : N.get? s.heap.objs.size = some { cls := .type "list_iterator", data := .fields #[.ref l, .int 0 0] } := by rw [← hN]; exact Heap.get?_push_size _ rfl
  have hNs : N.objs.size = s.heap.objs.size + 1 := by rw [← hN]; exact Heap.size_push _ _
  refine wpAny_bind (wpAny_pure ?_)
  have hT : Shared.TypeIs { s with heap := N } (.ref z) "list" := typeIs_list (hzl.at fun o q => hNk _ _ q).isList
  simp only [List.forIn_cons, List.forIn_nil]
  refine wpAny_bind (wpAny_bind (wpAny_bind (wpAny_isInstance (T := "list") (b := false) hT F.sub_list_str ?_)))
  simp only [Bool.false_eq_true, if_false]
  refine wpAny_pure (wpAny_bind (wpAny_bind (wpAny_isInstance (T := "list") (b := false) hT F.sub_list_bytes ?_)))
  simp only [Bool.false_eq_true, if_false]
  refine wpAny_pure (wpAny_bind (wpAny_bind (wpAny_isInstance (T := "list") (b := false) hT F.sub_list_bytearray ?_)))
  simp only [Bool.false_eq_true, if_false]
  refine wpAny_pure (wpAny_pure ?_)
  refine wpAny_bind (wpAny_newObj_type ?_)
  generalize hM : N.push _ = M
  have hMk : ∀ b o, N.get? b = some o → M.get? b = some o := fun b o q => by rw [← hM]; exact Heap.get?_push_of_some _ q
  have hz0 : z < s.heap.objs.size := by obtain ⟨_, e⟩ := hzl; exact Heap.lt_size e
  have hneI : l ≠ s.heap.objs.size := Nat.ne_of_lt hll
  refine wpAny_pure ⟨plainId_quiet F.plain_sum_loop _, codeAny_sum_lists (Walks.list (A := A.in1) hh s.heap.objs.size l hneI items) b L hval N.objs.size (fun hm => ?_) (fun x hx => ?_) items.size 0 { s with heap := M } z zs 0 rfl (Nat.zero_le _)
    ⟨⟨_, hMk _ _ hNI, rfl, rfl⟩, hl.at fun o q => hMk _ _ (hNk _ _ q)⟩ (by rw [← hM]; exact Heap.get?_push_size _ rfl) (fun hm => ?_) ?_ (hzl.at fun o q => hMk _ _ (hNk _ _ q)) (fun j hj => ?_) hsz fun h' tk T' q1 q2 q3 q4 => ?_⟩
  · rw [hNs] at hm
    rcases List.mem_cons.mp hm with e | e
    · exact Nat.ne_of_gt (Nat.lt_succ_self _) e
    · have e := List.mem_singleton.mp e
      exact Nat.lt_irrefl _ (Nat.lt_of_le_of_lt (Nat.le_succ _) (e ▸ hll))
  · rw [List.mem_singleton.mp hx, hNs]; exact Nat.lt_succ_self _
  · exact Nat.ne_of_lt hz0 (List.mem_singleton.mp hm)
  · rw [hNs]; exact Nat.ne_of_lt (Nat.lt_succ_of_lt hz0)
  · have hb := hL j hj
    have hbl : b j < s.heap.objs.size := by obtain ⟨_, e, _⟩ := hb; exact Heap.lt_size e
    exact ⟨fun hm => Nat.ne_of_lt hbl (List.mem_singleton.mp hm), by rw [hNs]; exact Nat.ne_of_lt (Nat.lt_succ_of_lt hbl), hb.at fun o q => hMk _ _ (hNk _ _ q)⟩
  · refine h h' tk T' (fun z => ?_) (fun z => q2 z) q3 fun b o q => ?_
    · have q := q1 z
      rw [hNs] at q
      exact Nat.le_of_lt (Nat.lt_of_succ_lt q)
    · have hb := Heap.lt_size q
      exact q4 b o (fun hm => Nat.ne_of_lt hb (List.mem_singleton.mp hm)) (by rw [hNs]; exact Nat.ne_of_lt (Nat.lt_succ_of_lt hb)) (hMk _ _ (hNk _ _ q))
end
end PySem
namespace L2
open PySem PySem.Spec PyProof.Rows
/-- lists of a list -/
inductive Sqs (K : PySem.W.Frag) (H : Hp) : List V → List (List V) → Prop
  | nil : Sqs K H [] []
  | cons {a : Addr} {xs : List V} {vs : List V} {xss : List (List V)} : SqL K H a xs → Sqs K H vs xss → Sqs K H (.ref a :: vs) (xs :: xss)
def rSumL (K : PySem.W.Frag) : List V → Hp → VK → Prop := fun xs H Q => ∃ (l z : Addr) (vs : List V) (xss : List (List V)) (zs : List V), xs = [V.ref l, V.ref z] ∧ SqL K H l vs ∧ Sqs K H vs xss ∧ H z = some (.lst zs) ∧ zs.length + xss.flatten.length ≤ sizeLine ∧
  (vs = [] → Q (.ref z) H) ∧ (vs ≠ [] → ∀ p, H p = none → Q (.ref p) (upd H p (.lst (zs ++ xss.flatten))))
theorem catFrom_get : ∀ (Ls : List (List Value)) (M : List (List Value)), catFrom (fun j => (M ++ Ls).getD j []) Ls.length M.length = Ls.flatten
  | [], M => rfl
  | x :: r, M => by
    have ih := catFrom_get r (M ++ [x])
    rw [List.append_assoc, List.singleton_append, List.length_append] at ih
    show (M ++ x :: r).getD M.length [] ++ catFrom (fun j => (M ++ x :: r).getD j []) r.length (M.length + 1) = _
    rw [List.flatten_cons, ← ih]
    simp
theorem vals_app {xs ys : List V} {us vs : List Value} (h : Vals xs us) (h' : Vals ys vs) : Vals (xs ++ ys) (us ++ vs) := by
  induction h with
  | nil => exact h'
  | cons h1 _ ih => exact .cons h1 ih
section
variable {X : Cx}
theorem Sqs.out {pins : List (Addr × Obj)} {σ : L2.St} {H : Hp} {s : Shared} (I : Inv X pins σ H s) {vs : List V} {xss : List (List V)} (h : Sqs X.K H vs xss) : ∀ {its : List Value}, Vals vs its →
    ∃ (bs : List Addr) (Ls : List (List Value)), its = bs.map Value.ref ∧ bs.length = Ls.length ∧ (∀ j, j < bs.length → s.heap.IsList (bs.getD j 0) (Ls.getD j []).toArray) ∧ Vals xss.flatten Ls.flatten := by
  induction h with
  | nil =>
    intro its r
    cases r
    exact ⟨[], [], rfl, rfl, fun j hj => absurd hj (Nat.not_lt_zero _), .nil⟩
  | cons h1 _ ih =>
    intro its r
    cases r with
    | cons r1 r2 =>
      cases r1
      obtain ⟨bs, Ls, e, el, hs, hv⟩ := ih r2
      obtain ⟨us, ru, hl, _⟩ := I.list h1
      refine ⟨_ :: bs, us :: Ls, by rw [e, List.map_cons], by rw [List.length_cons, List.length_cons, el], fun j hj => ?_, ?_⟩
      · cases j with
        | zero => exact hl.isList
        | succ j => exact hs j (Nat.lt_of_succ_lt_succ hj)
      · rw [List.flatten_cons, List.flatten_cons]
        exact vals_app ru hv
theorem cr_sumL (hc : X.calm = true) : CallR X (.builtin "sum") (rSumL X.K) := by
  intro pins s σ H xs us Q I r h
  obtain ⟨l, z, vs, xss, zs, rfl, hs, hq, hz, hlen, q1, q2⟩ := h
  obtain ⟨its, rv, hl, _⟩ := I.list hs
  obtain ⟨hzz, zts, zn, zv, ze⟩ := I.hok z _ hz
  have eu : us = [Value.ref l, Value.ref z] := by
    cases r with
    | cons r1 r2 => cases r2 with
      | cons r3 r4 => cases r4; cases r1; cases r3; rfl
  rw [eu]
  obtain ⟨bs, Ls, e, el, hbs, hvs⟩ := hq.out I rv
  have hil : its.toArray.size = bs.length := by rw [e]; simp
  have ecat : catFrom (fun j => Ls.getD j []) its.toArray.size 0 = Ls.flatten := by
    rw [hil, el]
    exact catFrom_get Ls []
  have hvl : (zs ++ xss.flatten).length = (zts ++ Ls.flatten).length := (vals_app zv hvs).length
  refine call_sum_lists (I.ok.hd hc) hl.isList ⟨zn, ze⟩ (fun j => bs.getD j 0) (fun j => Ls.getD j []) (fun i v hv => ?_) (fun j hj => hbs j (by rw [← hil]; exact hj)) ?_ fun h' tk T' f1 f2 f3 f4 => ?_
  · have : its[i]? = some v := by simpa using hv
    rw [e, List.getElem?_map] at this
    cases q : bs[i]? with
    | none => rw [q] at this; cases this
    | some b =>
      rw [q] at this
      cases this
      rw [List.getD_eq_getElem?_getD, q] <;> rfl
  · rw [ecat]
    rw [List.length_append, List.length_append] at hvl
    omega
  · by_cases hv : vs = []
    · have h0 : its.toArray.size = 0 := by
        subst hv
        cases rv
        rfl
      rw [f2 h0]
      exact ⟨.ref z, H, I.kept f4, rfl, q1 hv⟩
    · have h0 : 0 < its.toArray.size := by
        cases rv with
        | nil => exact absurd rfl hv
        | cons _ _ => exact Nat.succ_pos _
      rw [ecat] at f3
      obtain ⟨m, f3⟩ := f3
      have g := f1 h0
      exact ⟨.ref T', upd H T' (.lst (zs ++ xss.flatten)), I.laid (t' := tk) f4 g ⟨by rw [List.length_append]; exact hlen, zts ++ Ls.flatten, m, vals_app zv hvs, f3⟩, rfl, q2 hv T' (I.hok.fresh g)⟩
end
end L2

namespace DL
open PySem PySem.Spec PyProof.Rows L2
def lists? : List PyData → Option (List (List PyData))
  | [] => some []
  | .list ds :: r => (lists? r).map fun l => ds :: l
  | _ :: _ => none
theorem lists_of {ds : List PyData} : ∀ {ns : List (List PyData)}, lists? ds = some ns → ds = ns.map .list := by
  induction ds with
  | nil => intro ns e; cases e; rfl
  | cons d r ih =>
    intro ns e
    cases d with
    | list i =>
      simp only [lists?, Option.map_eq_some_iff] at e
      obtain ⟨l, e1, e2⟩ := e
      cases e2
      rw [ih e1]; rfl
    | _ => cases e
theorem lists_map (ns : List (List PyData)) : lists? (ns.map .list) = some ns := by
  induction ns with
  | nil => rfl
  | cons n r ih => simp only [List.map_cons, lists?, ih, Option.map_some]
theorem RpA.sqs {K : PySem.W.Frag} {B : Bk} {H : Hp} : ∀ {dss : List (List PyData)} {vs : List V}, RpA K (hid B H) vs (dss.map .list) → ∃ xss, Sqs K H vs xss ∧ RpA K (hid B H) xss.flatten dss.flatten
  | [], _, h => by cases h; exact ⟨[], .nil, .nil⟩
  | d :: dss, _, h => by
    cases h with
    | cons h1 h2 =>
      cases h1 with
      | lst g1 g2 =>
        obtain ⟨xss, e1, e2⟩ := RpA.sqs h2
        exact ⟨_ :: xss, .cons (.inl (.inl (hid_le _ _ g1))) e1, by rw [List.flatten_cons, List.flatten_cons]; exact g2.app e2⟩
/-- sum(lists, start) -/
def fSumL (ga : EF) (gb : FF) : FF := fun ρ => (ga ρ).bind fun p => (gb p.2).bind fun q => match p.1 with
  | .d (.list ds) => (lists? ds).bind fun dss => if q.1.length + dss.flatten.length ≤ big then some (q.1 ++ dss.flatten, q.2) else none
  | _ => none
section
variable {X : Cx} {x : Str} {p pos : Pos} {a b : Expr} {ga : EF} {gb : FF}
theorem f_sumL (hcal : X.calm = true) (hg : Gl X x) (hm : X.mg x = none) (hv : bootBuiltins x = some (.builtin "sum")) (ha : PD X a ga) (hb : PF X b gb)
    (hn : x ≠ "__name__" := by decide) (hdb : (x == ("__debug__" : Str)) = false := by decide)
    (he : starEach [a, b] X.env = (false, eval a X.env) :: starEach [b] X.env := by rfl) (he2 : starEach [b] X.env = (false, eval b X.env) :: starEach [] X.env := by rfl) (hpl : (backTo pos (starEach [b] X.env)).any (·.1) = false := by rfl) :
    PF X (.Call (.Name x p) [a, b] [] pos) (fSumL ga gb) := by
  obtain ⟨t, p1, d1⟩ := ha.run
  obtain ⟨u, p2, d2⟩ := hb.run
  refine ⟨_, pe_callB (cr_sumL hcal) hg hm hv (pa_cons p1 (pa_cons p2 pa_nil he2) he) hn hdb he hpl, ?_⟩
  intro E B σ H ρ r ρ' Q j e q
  simp only [fSumL, Option.bind_eq_some_iff] at e
  obtain ⟨⟨a1, ρ1⟩, e1, ⟨zs, ρ2⟩, e2, e3⟩ := e
  split at e3
  · rename_i ds ha
    simp only at ha
    subst ha
    obtain ⟨dss, k1, k2⟩ := Option.bind_eq_some_iff.mp e3
    split at k2
    · rename_i hz
      cases k2
      refine d1 E B σ H ρ _ ρ1 _ j e1 fun v1 H1 j1 x1 s1 o1 => ?_
      refine d2 E B σ H1 ρ1 _ ρ2 _ j1 e2 fun z ws H2 hz0 j2 x2 s2 hl r2 => ?_
      have nb : ¬ B z := (j1.fresh hz0).2.1
      have o2 : Rp X.K (hid (fun b => B b ∨ b = z) H2) v1 (.list ds) := Rp.ext x2 o1
      cases o2 with
      | lst g1 g2 =>
        rw [lists_of k1] at g2
        obtain ⟨xss, s3, r3⟩ := RpA.sqs g2
        refine ⟨_, z, _, xss, ws, rfl, .inl (.inl (hid_le _ _ g1)), s3, hl, big_le (by rw [r2.length, r3.length]; exact hz), fun hv => ?_, fun _ p hp => ?_⟩
        · subst hv
          cases s3
          have : dss.flatten = [] := by
            cases dss with
            | nil => rfl
            | cons _ _ => cases g2
          rw [this, List.append_nil] at q
          exact q z ws H2 (free_back j1 x1 hz0) j2 (x1.trans x2) (s1.trans s2) hl r2
        · have j3 : J X.K E B σ H2 ρ2 := j1.unblock hz0 s2 j2
          have sub : Ext (fun b => B b ∨ b = z) H2 B H2 := hid_sub fun b w => .inl w
          have x3 : Ext B H B H2 := (x1.trans x2).trans sub
          exact q p _ _ (free_back j3 x3 hp) (j3.block hp) (x3.trans (ext_block hp)) (s1.trans s2) upd_same (((r2.app r3).mono sub).mono (ext_block hp))
    · cases k2
  · cases e3
end
end DL
namespace DL
open PySem PySem.Spec PyProof.Rows L2
/-! ### the script -/
theorem law_in {K : PySem.W.Frag} {F : FnF} (hl : ∀ ns : List Int, ns.length ≤ 63 → (∀ z ∈ ns, Builtin.Int.intBits z ≤ 1048576) → ∃ outs, F [.w (ns.map .int)] = some (.bool true, outs)) {vs : List V} {H : Hp} {Q : VK} {E : XK}
    (h : ∃ (a : Addr) (ns : List Int), vs = [V.ref a] ∧ SqL K H a (ns.map V.int) ∧ ns.length ≤ 63 ∧ (∀ z ∈ ns, Builtin.Int.intBits z ≤ 1048576) ∧ ∀ H', Q (.bl true) H') : spD K 1 F vs H Q E := by
  obtain ⟨a, ns, rfl, hS, hl63, hb, q⟩ := h
  obtain ⟨outs, ho⟩ := hl ns hl63 hb
  have hh : hid (fun _ => False) H = H := by
    funext b
    simp [hid]
  refine ⟨fun _ => False, [.w (ns.map .int)], .bool true, outs, rfl, ⟨rfl, fun b z => z.elim, fun i z => ?_, fun i d z => ?_, fun i k ds z => ?_, fun i j k ds k' ds' p z => ?_, fun i ds z => ?_⟩, ho, fun v H' _ hr => ?_⟩
  · match i with
    | 0 => cases z
    | i + 1 => cases z
  · match i with
    | 0 => cases z
    | i + 1 => cases z
  · match i with
    | 0 => cases z
    | i + 1 => cases z
  · match i with
    | 0 => cases z
    | i + 1 => cases z
  · match i with
    | 0 =>
      cases z
      exact ⟨a, _, rfl, by rw [hh]; exact hS, RpA.ofInts⟩
    | i + 1 => cases z
  · cases hr
    exact q H'
end DL
namespace DL
open PySem PySem.Spec PyProof.Rows L2

/-! ### a new list of new lists, each held in its turn -/
/-- addresses that no slot holds, as if they had stood at the entry -/
def pinS (E : En) (S : Hp) : En := ⟨fun b => E.B0 b ∨ S b ≠ none, fun b => (S b).or (E.H0 b), E.io, E.ad⟩
theorem pinS_none (E : En) : pinS E (fun _ => none) = E := by
  obtain ⟨B0, H0, io, ad⟩ := E
  simp [pinS]
theorem pinS_add (E : En) (S : Hp) (p : Addr) (o : HO) : pinE (pinS E S) p o = pinS E (upd S p o) := by
  simp only [pinE, pinS, En.mk.injEq, and_true]
  refine ⟨funext fun b => propext ?_, funext fun b => ?_⟩
  · by_cases e : b = p
    · subst e
      simp [upd_same]
    · simp [e, upd_ne e]
  · by_cases e : b = p
    · subst e
      rw [upd_same, upd_same]
      rfl
    · rw [upd_ne e, upd_ne e]
def delS (S : Hp) (p : Addr) : Hp := fun b => if b = p then none else S b
theorem delS_add {S : Hp} {p : Addr} {o : HO} (h : S p = some o) : upd (delS S p) p o = S := by
  funext b
  by_cases e : b = p
  · subst e
    rw [upd_same, h]
  · rw [upd_ne e]
    simp [delS, e]
theorem delS_same {S : Hp} {p : Addr} : delS S p p = none := by simp [delS]
theorem delS_ne {S : Hp} {p b : Addr} (e : b ≠ p) : delS S p b = S b := by simp [delS, e]
theorem pinS_H0 {E : En} {S : Hp} {p : Addr} (h : S p = none) (h0 : E.H0 p = none) : (pinS E S).H0 p = none := by
  show (S p).or (E.H0 p) = none
  rw [h, h0]
  rfl
/-- what stands in the held lists -/
def Good (K : PySem.W.Frag) (B : Bk) (H : Hp) (S : Hp) (ps : List Addr) (dss : List (List PyData)) : Prop :=
  ps.length = dss.length ∧ ∀ (j : Nat) (p : Addr) (d : List PyData), ps[j]? = some p → dss[j]? = some d → ∃ vs, S p = some (.lst vs) ∧ RpA K (hid B H) vs d
theorem Good.mono {K : PySem.W.Frag} {B B' : Bk} {H H' S : Hp} {ps : List Addr} {dss : List (List PyData)} (g : Good K B H S ps dss) (x : Ext B H B' H') : Good K B' H' S ps dss :=
  ⟨g.1, fun j p d h1 h2 => by
    obtain ⟨vs, e1, e2⟩ := g.2 j p d h1 h2
    exact ⟨vs, e1, e2.mono x⟩⟩
abbrev FFF := Rho → Option (List (List PyData) × Rho)
def SfL (K : PySem.W.Frag) (t : TE) (g : FFF) : Prop := ∀ (E : En) (B : Bk) (σ : L2.St) (H : Hp) (ρ : Rho) (dss : List (List PyData)) (ρ' : Rho) (Q : VK), J K E B σ H ρ → g ρ = some (dss, ρ') →
  (∀ D ps S H' B', (∀ b, B' b → (B b ∨ b = D) ∨ S b ≠ none) → J K (pinS E S) B' σ H' ρ' → Ext B H B' H' → H' D = some (.lst (ps.map V.ref)) → B' D → S D = none → E.H0 D = none → Good K B' H' S ps dss → ps.Nodup → (∀ b, S b ≠ none → E.H0 b = none ∧ B' b) →
    (∀ (i : Nat) k ds, ρ'[i]? = some (.l k ds) → σ[i]? ≠ some (some (.ref D))) → Q (.ref D) H') → t σ H Q
structure PFL (X : Cx) (e : Expr) (g : FFF) : Prop where
  run : ∃ t, PE X e t ∧ SfL X.K t g
def cF (K : PySem.W.Frag) (g : FF) : TE := fun σ H Q => ∃ E B ρ ds ρ', J K E B σ H ρ ∧ g ρ = some (ds, ρ') ∧
  ∀ p vs H', H p = none → J K E (fun b => B b ∨ b = p) σ H' ρ' → Ext B H (fun b => B b ∨ b = p) H' → Shp ρ ρ' → H' p = some (.lst vs) → RpA K (hid (fun b => B b ∨ b = p) H') vs ds → Q (.ref p) H'
theorem PF.can {X : Cx} {e : Expr} {g : FF} (h : PF X e g) : PE X e (cF X.K g) := by
  obtain ⟨t, p, d⟩ := h.run
  refine ⟨fun pins s σ H Q I q => ?_⟩
  obtain ⟨E, B, ρ, ds, ρ', j, e, q⟩ := q
  exact p.run pins s σ H Q I (d E B σ H ρ ds ρ' Q j e q)
def lcGoF (t : TGf) (c : BF) (g : FF) (vs : List Nat) : List PyData → List (List PyData) → Rho → Option (List (List PyData) × Rho)
  | [], acc, ρ => some (acc, ρ)
  | d :: ds, acc, ρ => (t d (wipeR ρ vs)).bind fun ρ1 => (c ρ1).bind fun p => if p.1 = true then (g p.2).bind fun q =>
    if acc.length < big then lcGoF t c g vs ds (acc ++ [q.1]) q.2 else none else lcGoF t c g vs ds acc p.2
def fLcF (i : IFn) (t : TGf) (c : BF) (g : FF) (vs : List Nat) : FFF := fun ρ => (i ρ).bind fun p => if noL p.2 vs = true then (lcGoF t c g vs p.1 [] p.2).map fun r => (r.1, restR p.2 r.2 vs) else none
theorem wipe_eq {σ3 σ : L2.St} {vs ts : List Nat} (hts : ∀ n ∈ ts, n ∈ vs) (l3 : σ3.length = (L2.wipe σ vs).length) (n3 : ∀ n : Nat, n ∉ ts → σ3[n]? = (L2.wipe σ vs)[n]?) : L2.wipe σ3 vs = L2.wipe σ vs := by
  refine List.ext_getElem? fun n => ?_
  by_cases hv : n ∈ vs
  · have a : ∀ (τ : L2.St) (us : List Nat), n ∈ us → (L2.wipe τ us)[n]? = if n < τ.length then some none else none := by
      intro τ us
      induction us with
      | nil => intro h; simp at h
      | cons u us ih =>
        intro h
        unfold L2.wipe
        by_cases hu : u = n
        · subst hu
          by_cases hq : u < τ.length
          · rw [if_pos hq, List.getElem?_set_self (by rw [wipe_length]; exact hq)]
          · rw [if_neg hq, List.getElem?_eq_none (by rw [List.length_set, wipe_length]; omega)]
        · rw [List.getElem?_set_ne hu]
          exact ih ((List.mem_cons.mp h).resolve_left fun z => hu z.symm)
    rw [a σ3 vs hv, a σ vs hv, l3, wipe_length]
  · rw [wipe_out hv, n3 n fun z => hv (hts n z)]
theorem wipeR_in {τ : Rho} {n : Nat} : ∀ {us : List Nat}, n ∈ us → (wipeR τ us)[n]? = if n < τ.length then some .un else none
  | u :: us, h => by
    unfold wipeR
    by_cases hu : u = n
    · subst hu
      by_cases hq : u < τ.length
      · rw [if_pos hq, List.getElem?_set_self (by rw [wipeR_len]; exact hq)]
      · rw [if_neg hq, List.getElem?_eq_none (by rw [List.length_set, wipeR_len]; omega)]
    · rw [List.getElem?_set_ne hu]
      exact wipeR_in ((List.mem_cons.mp h).resolve_left fun z => hu z.symm)
theorem wipeR_shp {ρ1 ρ2 ρ3 : Rho} {vs ts : List Nat} (hts : ∀ n ∈ ts, n ∈ vs) (ll : ρ3.length = ρ1.length) (s2 : Shp (wipeR ρ1 vs) (wipeR ρ2 vs)) (n3 : ∀ n : Nat, n ∉ ts → ρ3[n]? = (wipeR ρ2 vs)[n]?) : Shp (wipeR ρ1 vs) (wipeR ρ3 vs) := by
  refine Shp.of_at (by rw [wipeR_len, wipeR_len, ll]) fun n => ?_
  by_cases hv : n ∈ vs
  · rw [wipeR_in hv, wipeR_in hv, ll]
  · have b := s2.at n
    rw [wipeR_out hv] at b ⊢
    rw [wipeR_out hv, n3 n fun z => hv (hts n z)]
    exact b
theorem sf_lcF {K : PySem.W.Frag} {wi : TI} {i : IFn} {t : TGf} {c : BF} {g : FF} {ts vs : List Nat} (h1 : Si K wi i) (hts : ∀ n ∈ ts, n ∈ vs) : SfL K (tLc wi (cG K t ts) (cB K c) (cF K g) vs) (fLcF i t c g vs) := by
  intro E B σ H ρ res ρ' Q j e q
  simp only [fLcF, Option.bind_eq_some_iff] at e
  obtain ⟨⟨ds, ρ1⟩, e1, e2⟩ := e
  split at e2
  case isFalse => cases e2
  rename_i hnl
  obtain ⟨⟨r, ρf⟩, e3, e4⟩ := Option.map_eq_some_iff.mp e2
  cases e4
  refine h1 E B σ H ρ ds ρ1 _ j e1 fun Jt H1 j1 x1 s1 wk => ?_
  intro D hD
  have hD0 := (j1.fresh hD).1
  have jD := j1.block (o := .lst []) hD
  have xD : Ext B H1 (fun b => B b ∨ b = D) (upd H1 D (.lst [])) := ext_block hD
  have noD : ∀ (n : Nat) k ds', ρ1[n]? = some (.l k ds') → σ[n]? ≠ some (some (.ref D)) := fun n k ds' q1 q2 => by
    obtain ⟨p', ws', g1, g2, g3, _⟩ := j1.own n k ds' q1
    rw [q2] at g1
    cases g1
    rw [hD] at g3
    cases g3
  -- what holds between the turns
  let Inv : Nat → Rho → List (List PyData) → List Addr → Hp → Bk → Hp → Prop := fun n ρ2 acc ps S B2 H' =>
    (∀ b, B2 b → (B b ∨ b = D) ∨ S b ≠ none) ∧ J K (pinS E S) B2 (L2.wipe σ vs) H' (wipeR ρ2 vs) ∧ Ext (fun b => B b ∨ b = D) (upd H1 D (.lst [])) B2 H' ∧ Shp (wipeR ρ1 vs) (wipeR ρ2 vs) ∧
    H' D = some (.lst (ps.map V.ref)) ∧ B2 D ∧ S D = none ∧ Good K B2 H' S ps acc ∧ ps.Nodup ∧ (∀ b, S b ≠ none → E.H0 b = none ∧ B2 b) ∧ lcGoF t c g vs (ds.drop n) acc ρ2 = some (r, ρf)
  have inv0 : Inv 0 ρ1 [] [] (fun _ => none) (fun b => B b ∨ b = D) (upd H1 D (.lst [])) :=
    ⟨fun b z => .inl z, by rw [pinS_none]; exact jD.wipe vs, Ext.refl, Shp.refl _, upd_same, .inr rfl, rfl, ⟨rfl, fun j p d h => by simp at h⟩, List.nodup_nil, fun b z => absurd rfl z, e3⟩
  refine ⟨fun n m H' => ∃ ρ2 acc ps S B2, n ≤ ds.length ∧ m = ds.length - n ∧ Inv n ρ2 acc ps S B2 H', ⟨_, ρ1, [], [], _, _, Nat.zero_le _, rfl, inv0⟩, ?_⟩
  rintro n m H' ⟨ρ2, acc, ps, S, B2, hn, rfl, hB2, j2, x2, s2, hl, hBD, hSD, gd, nd, hS, go⟩
  obtain ⟨turn, stop⟩ := wk _ H' (xD.trans x2) j2.bt
  by_cases hlt : n < ds.length
  · have ed : ds[n]? = some ds[n] := List.getElem?_eq_getElem hlt
    obtain ⟨hgo, yl⟩ := turn n _ ed
    rw [List.drop_eq_getElem_cons hlt] at go
    simp only [lcGoF, Option.bind_eq_some_iff] at go
    obtain ⟨ρ3, g1, ⟨k, ρ4⟩, g2, g3⟩ := go
    refine .inr ⟨hgo, fun H' => ∃ ρ2 acc ps S B2, Inv (n + 1) ρ2 acc ps S B2 H', ?_, fun x H2 y => ?_⟩
    · rintro H3 ⟨ρ5, acc', ps', S', B', a⟩
      exact ⟨ds.length - (n + 1), by omega, ρ5, acc', ps', S', B', hlt, rfl, a⟩
    · obtain ⟨sm, rp⟩ := yl x H2 y
      have hl2 : H2 D = some (.lst (ps.map V.ref)) := sm _ _ hl
      have hP0 : (pinS E S).H0 D = none := pinS_H0 hSD hD0
      have no2 : ∀ (i : Nat) k ds, (wipeR ρ2 vs)[i]? = some (.l k ds) → (L2.wipe σ vs)[i]? ≠ some (some (.ref D)) := fun i k ds q1 q2 => by
        obtain ⟨ds', q3⟩ := s2.symm.lst q1
        obtain ⟨q4, hv⟩ := wipeR_get q3 (fun z => by cases z)
        rw [wipe_out hv] at q2
        exact noD i _ _ q4 q2
      refine ⟨pinE (pinS E S) D (.lst (ps.map V.ref)), _, wipeR ρ2 vs, _, ρ3, (j2.grow sm).pin hBD hP0 hl2 no2, rp, g1, fun σ3 j3 l3 n3 => ?_⟩
      have ew : L2.wipe σ3 vs = L2.wipe σ vs := wipe_eq hts l3 fun n z => (n3 n z).1
      have s3 : Shp (wipeR ρ1 vs) (wipeR ρ3 vs) := wipeR_shp hts (by rw [← j3.len, l3, wipe_length, ← j1.len]) s2 fun n z => (n3 n z).2
      refine ⟨ew, pinE (pinS E S) D (.lst (ps.map V.ref)), _, ρ3, k, ρ4, j3, g2, fun H4 j4 x4 s4 => ?_⟩
      have bS0 : ∀ b, (pinS E S).B0 b → (pinS E S).H0 b ≠ none := fun b z => by
        show (S b).or (E.H0 b) ≠ none
        rcases z with z | z
        · cases q : S b with
          | none => exact fun w => j1.b0t b z w
          | some o => exact fun w => by cases w
        · cases q : S b with
          | none => exact absurd q z
          | some o => exact fun w => by cases w
      have ioS : ∀ b, (pinS E S).io b → (pinS E S).B0 b := fun b z => .inl (j1.ioB b z)
      have bnS : ∀ b, B2 b → (pinS E S).B0 b ∨ (pinS E S).H0 b = none := fun b z => by
        by_cases hs : S b = none
        · rcases hB2 b z with w | w
          · rcases jD.bn b w with v | v
            · exact .inl (.inl v)
            · exact .inr (pinS_H0 hs v)
          · exact absurd hs w
        · exact .inl (.inr hs)
      have x5 := (Ext.grow sm).trans x4
      cases k with
      | false =>
        rw [if_neg Bool.false_ne_true] at g3
        refine iteF ?_
        obtain ⟨j4', l4, no4⟩ := j4.unpin hP0 bS0 ioS bnS
        have jw := j4'.wipe vs
        rw [ew] at jw
        exact ⟨ρ4, acc, ps, S, B2, hB2, jw, x2.trans x5, s3.trans (s4.wipe vs), l4, hBD, hSD, gd.mono x5, nd, hS, g3⟩
      | true =>
        rw [if_pos rfl] at g3
        refine iteT ?_
        simp only [Option.bind_eq_some_iff] at g3
        obtain ⟨⟨nw, ρ5⟩, g4, g5⟩ := g3
        split at g5
        case isFalse => cases g5
        rename_i hz
        refine ⟨pinE (pinS E S) D (.lst (ps.map V.ref)), _, ρ4, _, ρ5, j4, g4, fun p us H5 hp j5 x6 s5 l5p r5 => ?_⟩
        obtain ⟨f1, f2, f3, f4⟩ := j4.fresh hp
        have pD : p ≠ D := fun z => f2 (z ▸ hBD)
        have hSp : S p = none := by
          cases w : S p with
          | none => rfl
          | some o => exact absurd ((hS p (by rw [w]; simp)).2) f2
        have hEp : E.H0 p = none := by
          have w : upd (pinS E S).H0 D (.lst (ps.map V.ref)) p = none := f1
          rw [upd_ne pD] at w
          have w : (S p).or (E.H0 p) = none := w
          rw [hSp] at w
          exact w
        have bn5 : ∀ b, (B2 b ∨ b = p) → (pinS E S).B0 b ∨ (pinS E S).H0 b = none := fun b z => z.elim (bnS b) fun z => by
          rw [z]
          exact .inr (pinS_H0 hSp hEp)
        obtain ⟨j5', l5, no5⟩ := j5.unpin hP0 bS0 ioS bn5
        refine ⟨ps.map V.ref, l5, big_lt (by rw [List.length_map, gd.1]; exact Nat.le_of_lt hz), ?_⟩
        have nop : ∀ (i : Nat) k ds, ρ5[i]? = some (.l k ds) → σ3[i]? ≠ some (some (.ref p)) := fun i k ds q1 q2 => by
          obtain ⟨ds0, q3⟩ := s5.symm.lst q1
          obtain ⟨p', ws', h1, h2, h3, _⟩ := j4.own i k ds0 q3
          rw [q2] at h1
          cases h1
          rw [hp] at h3
          cases h3
        have j6 := j5'.pin (.inr rfl) (pinS_H0 hSp hEp) l5p nop
        rw [pinS_add] at j6
        have hPD : (pinS E (upd S p (.lst us))).H0 D = none := pinS_H0 (by rw [upd_ne (Ne.symm pD)]; exact hSD) hD0
        obtain ⟨j7, x7⟩ := j6.behind (o := .lst (ps.map V.ref ++ [V.ref p])) (.inl hBD) hPD no5
        have jw := j7.wipe vs
        rw [ew] at jw
        have xx := (x5.trans x6).trans x7
        refine ⟨ρ5, acc ++ [nw], ps ++ [p], upd S p (.lst us), fun b => B2 b ∨ b = p, fun b z => ?_, jw, x2.trans xx, s3.trans ((s4.trans s5).wipe vs), ?_, .inl hBD, ?_, ⟨?_, fun j p' d h1 h2 => ?_⟩, ?_, fun b z => ?_, g5⟩
        · rcases z with z | z
          · rcases hB2 b z with w | w
            · exact .inl w
            · refine .inr ?_
              by_cases e : b = p
              · rw [e, upd_same]; simp
              · rw [upd_ne e]; exact w
          · exact .inr (by rw [z, upd_same]; simp)
        · rw [upd_same, List.map_append]; rfl
        · rw [upd_ne (Ne.symm pD)]; exact hSD
        · rw [List.length_append, List.length_append, gd.1]; rfl
        · by_cases hj : j < ps.length
          · rw [List.getElem?_append_left hj] at h1
            rw [List.getElem?_append_left (by rw [← gd.1]; exact hj)] at h2
            obtain ⟨ws, w1, w2⟩ := gd.2 j p' d h1 h2
            have ne : p' ≠ p := fun z => by rw [z, hSp] at w1; cases w1
            exact ⟨ws, by rw [upd_ne ne]; exact w1, w2.mono xx⟩
          · rw [List.getElem?_append_right (by omega)] at h1
            rw [List.getElem?_append_right (by rw [← gd.1]; omega)] at h2
            have hj0 : j - ps.length = 0 := by
              have := (List.getElem?_eq_some_iff.mp h1).1
              simp at this
              omega
            rw [hj0] at h1
            rw [← gd.1, hj0] at h2
            cases h1
            cases h2
            exact ⟨us, upd_same, r5.mono x7⟩
        · refine List.nodup_append.mpr ⟨nd, by simp, fun a ha b hb => ?_⟩
          rw [List.mem_singleton.mp hb]
          rintro rfl
          obtain ⟨j, hj⟩ := List.getElem?_of_mem ha
          have hj' : j < acc.length := by rw [← gd.1]; exact (List.getElem?_eq_some_iff.mp hj).1
          obtain ⟨ws, w1, _⟩ := gd.2 j a _ hj (List.getElem?_eq_getElem hj')
          rw [hSp] at w1
          cases w1
        · by_cases e : b = p
          · rw [e]; exact ⟨hEp, .inr rfl⟩
          · rw [upd_ne e] at z
            exact ⟨(hS b z).1, .inl (hS b z).2⟩
  · have en : n = ds.length := by omega
    subst en
    rw [List.drop_eq_nil_of_le (Nat.le_refl _)] at go
    cases go
    refine .inl ⟨stop, ?_⟩
    have ll : ρ1.length = ρf.length := by
      have := s2.len
      rw [wipeR_len, wipeR_len] at this
      exact this
    have xx := xD.trans x2
    have back : ∀ {i : Nat} {k : Bool} {ds' : List PyData}, (restR ρ1 ρf vs)[i]? = some (.l k ds') → i ∉ vs ∧ ρf[i]? = some (.l k ds') := fun {i k ds'} e => by
      by_cases hv : i ∈ vs
      · rw [(restR_get ll).1 hv] at e
        exact absurd e (noL_at hnl hv)
      · rw [(restR_get ll).2 hv] at e
        exact ⟨hv, e⟩
    refine q D ps S H' B2 hB2 ?_ (x1.trans xx) hl hBD hSD hD0 gd nd hS fun i k ds' e z => ?_
    · refine ⟨j2.keep, j2.b0, j2.bn, j2.b0t, j2.bt, j2.ioB, by rw [restR_len, ← ll]; exact j1.len, fun i d e => ?_, fun i k ds e => ?_, fun i i' k ds k' ds' p e e' q q' => ?_, fun i ds e => ?_⟩
      · by_cases hv : i ∈ vs
        · rw [(restR_get ll).1 hv] at e
          obtain ⟨x, h1, h2⟩ := j1.val i d e
          exact ⟨x, h1, h2.ext xx⟩
        · rw [(restR_get ll).2 hv] at e
          have := j2.val i d (by rw [wipeR_out hv]; exact e)
          rw [wipe_out hv] at this
          exact this
      · obtain ⟨hv, e⟩ := back e
        have := j2.own i k ds (by rw [wipeR_out hv]; exact e)
        rw [wipe_out hv] at this
        exact this
      · obtain ⟨hv, e⟩ := back e
        obtain ⟨hv', e'⟩ := back e'
        exact j2.inj i i' _ _ _ _ p (by rw [wipeR_out hv]; exact e) (by rw [wipeR_out hv']; exact e') (by rw [wipe_out hv]; exact q) (by rw [wipe_out hv']; exact q')
      · by_cases hv : i ∈ vs
        · rw [(restR_get ll).1 hv] at e
          obtain ⟨p, ws', h1, h2, h3⟩ := j1.wr i ds e
          exact ⟨p, ws', h1, Same.seq xx h2, h3.mono xx⟩
        · rw [(restR_get ll).2 hv] at e
          have := j2.wr i ds (by rw [wipeR_out hv]; exact e)
          rw [wipe_out hv] at this
          exact this
    · obtain ⟨hv, e⟩ := back e
      obtain ⟨ds0, q0⟩ := s2.symm.lst (by rw [wipeR_out hv]; exact e)
      obtain ⟨q1, _⟩ := wipeR_get q0 (fun z => by cases z)
      exact noD i _ _ q1 z
end DL
namespace DL
open PySem PySem.Spec PyProof.Rows L2
theorem pinS_none_of {E : En} {S : Hp} {b : Addr} (h : (pinS E S).H0 b = none) : S b = none ∧ E.H0 b = none := by
  have h : (S b).or (E.H0 b) = none := h
  cases q : S b with
  | none => rw [q] at h; exact ⟨rfl, h⟩
  | some o => rw [q] at h; cases h
theorem J.unpinS {K : PySem.W.Frag} {E : En} {B : Bk} {σ : L2.St} {H : Hp} {ρ : Rho} {S : Hp} (j : J K (pinS E S) B σ H ρ) (hS : ∀ b, S b ≠ none → E.H0 b = none) (b0 : ∀ b, E.B0 b → E.H0 b ≠ none) (io : ∀ b, E.io b → E.B0 b) : J K E B σ H ρ := by
  refine ⟨fun b o ni q => j.keep b o ni ?_, fun b z => j.b0 b (.inl z), fun b z => ?_, b0, j.bt, io, j.len, j.val, fun n k ds q => ?_, j.inj, j.wr⟩
  · show (S b).or (E.H0 b) = some o
    cases w : S b with
    | none => exact q
    | some u =>
      have := hS b (by rw [w]; simp)
      rw [q] at this
      cases this
  · rcases j.bn b z with w | w
    · rcases w with w | w
      · exact .inl w
      · exact .inr (hS b w)
    · exact .inr (pinS_none_of w).2
  · obtain ⟨p, ws, h1, h2, h3, h4, h5⟩ := j.own n k ds q
    refine ⟨p, ws, h1, h2, h3, h4, ?_⟩
    split at h5
    · rw [if_pos (by assumption)]; exact h5
    · rw [if_neg (by assumption)]; exact (pinS_none_of h5).2
theorem RetJ.unpinS {K : PySem.W.Frag} {E : En} {fr : Bool} {d : PyData} {ρ : Rho} {v : V} {H : Hp} {S : Hp} (h : RetJ K (pinS E S) fr d ρ v H) (hS : ∀ b, S b ≠ none → E.H0 b = none) (b0 : ∀ b, E.B0 b → E.H0 b ≠ none) (io : ∀ b, E.io b → E.B0 b) : RetJ K E fr d ρ v H := by
  obtain ⟨B, σ, j, h⟩ := h
  refine ⟨B, σ, j.unpinS hS b0 io, ?_⟩
  cases fr with
  | false => exact Rp.mono (hid_sub fun b z => .inl z) _ h
  | true =>
    rcases h with ⟨p, ws, ds, h1, h2, h3, h4, h5, h6⟩ | ⟨t, p, xs, ws, ds, rest, h1, h2, h2', h3, h4, h5, h6⟩ | ⟨t, p, x0, ws, ds, d0, h1, h2, h2', h3, h4, h5, h6⟩
    · exact .inl ⟨p, ws, ds, h1, h2, (pinS_none_of h3).2, h4, h5, h6⟩
    · exact .inr (.inl ⟨t, p, xs, ws, ds, rest, h1, h2, h2', (pinS_none_of h3).2, h4, h5, h6⟩)
    · exact .inr (.inr ⟨t, p, x0, ws, ds, d0, h1, h2, h2', (pinS_none_of h3).2, h4, h5, h6⟩)
def forGoO (i : Nat) (b : SF) : List (List PyData) → SF
  | [], ρ => some (.nx ρ)
  | d :: ds, ρ => (b (ρ.set i (.l false d))).bind fun o => match o with
    | .nx ρ2 => forGoO i b ds ρ2
    | .ct ρ2 => forGoO i b ds ρ2
    | .bk ρ2 => some (.nx ρ2)
    | .rt d ρ2 => some (.rt d ρ2)
/-- for x in a new list of new lists: x holds each in its turn -/
def sForO (i : Nat) (g : FFF) (b : SF) : SF := fun ρ => (g ρ).bind fun p => forGoO i b p.1 p.2
theorem ss_forO {K : PySem.W.Frag} {fr : Bool} {te : TE} {tb : TS} {g : FFF} {i : Nat} {b : SF} (h1 : SfL K te g) (h3 : Ss K fr tb b) : Ss K fr (tFor (iList K te) (gName i) tb) (sForO i g b) := by
  intro E B σ H ρ oc D j e q
  simp only [sForO, Option.bind_eq_some_iff] at e
  obtain ⟨⟨dss, ρ1⟩, e1, e2⟩ := e
  refine h1 E B σ H ρ dss ρ1 _ j e1 fun Dl ps S H1 B1 hB1 j1 x1 hl hBD hSD hD0 gd nd hS no => ?_
  have nio : ¬ E.io Dl := fun z => j.b0t Dl (j.ioB Dl z) hD0
  have jp := j1.pin hBD (pinS_H0 hSD hD0) hl no
  rw [pinS_add] at jp
  refine ⟨Dl, rfl, ⟨_, .inl (.inl hl)⟩, fun n m σ' H' => ∃ B' ρ' S', n ≤ dss.length ∧ m = dss.length - n ∧ J K (pinS E S') B' σ' H' ρ' ∧ Ext B1 H1 B' H' ∧ S' Dl = some (.lst (ps.map V.ref)) ∧
    (∀ (j : Nat) p, n ≤ j → ps[j]? = some p → S' p = S p) ∧ (∀ b, S' b ≠ none → E.H0 b = none) ∧ forGoO i b (dss.drop n) ρ' = some oc, ⟨_, B1, ρ1, _, Nat.zero_le _, rfl, jp, Ext.refl, upd_same, fun j p _ hp => ?_, fun b z => ?_, e2⟩, ?_⟩
  · refine upd_ne fun z => ?_
    have hj : j < dss.length := by rw [← gd.1]; exact (List.getElem?_eq_some_iff.mp hp).1
    obtain ⟨vs, w, _⟩ := gd.2 j p _ hp (List.getElem?_eq_getElem hj)
    rw [z, hSD] at w
    cases w
  · by_cases e : b = Dl
    · rw [e]; exact hD0
    · rw [upd_ne e] at z
      exact (hS b z).1
  rintro n m σ' H' ⟨B', ρ', S', hn, rfl, j', x', sD, sP, sN, go⟩
  have hDl : H' Dl = some (.lst (ps.map V.ref)) := j'.keep Dl _ nio (by show (S' Dl).or _ = _; rw [sD]; rfl)
  by_cases hlt : n < dss.length
  · have hlp : n < ps.length := by rw [gd.1]; exact hlt
    have ep : ps[n]? = some ps[n] := List.getElem?_eq_getElem hlp
    have ed : dss[n]? = some dss[n] := List.getElem?_eq_getElem hlt
    obtain ⟨vs, w1, w2⟩ := gd.2 n _ _ ep ed
    have w3 : S' ps[n] = some (.lst vs) := by rw [sP n _ (Nat.le_refl _) ep]; exact w1
    rw [List.drop_eq_getElem_cons hlt] at go
    simp only [forGoO, Option.bind_eq_some_iff] at go
    obtain ⟨o, g2, g3⟩ := go
    have pD : ps[n] ≠ Dl := fun z => by rw [z, hSD] at w1; cases w1
    have en : (ps.map V.ref)[n]? = some (V.ref ps[n]) := by rw [List.getElem?_map, ep]; rfl
    refine .inr ⟨⟨_, _, .inl (.inl hDl), en⟩, fun σ3 H3 => ∃ B3 ρ3 S3, J K (pinS E S3) B3 σ3 H3 ρ3 ∧ Ext B1 H1 B3 H3 ∧ S3 Dl = some (.lst (ps.map V.ref)) ∧
      (∀ (j : Nat) p, n + 1 ≤ j → ps[j]? = some p → S3 p = S p) ∧ (∀ b, S3 b ≠ none → E.H0 b = none) ∧ forGoO i b (dss.drop (n + 1)) ρ3 = some oc, ?_, fun x H2 y => ?_⟩
    · rintro σ3 H3 ⟨B3, ρ3, S3, a⟩
      exact ⟨dss.length - (n + 1), by omega, B3, ρ3, S3, hlt, rfl, a⟩
    · obtain ⟨rfl, hx⟩ := y
      have hx := hx _ (.inl (.inl hDl))
      rw [en] at hx
      cases hx
      -- the element is free again
      have hE0 : E.H0 ps[n] = none := sN _ (by rw [w3]; simp)
      have dN : ∀ b, delS S' ps[n] b ≠ none → E.H0 b = none := fun b z => by
        by_cases e : b = ps[n]
        · rw [e, delS_same] at z
          exact absurd rfl z
        · rw [delS_ne e] at z
          exact sN b z
      have j'' := j'
      rw [← delS_add w3, ← pinS_add] at j''
      have b0d : ∀ b, (pinS E (delS S' ps[n])).B0 b → (pinS E (delS S' ps[n])).H0 b ≠ none := fun b z w => by
        obtain ⟨w4, w5⟩ := pinS_none_of w
        rcases z with z | z
        · exact j.b0t b z w5
        · exact z w4
      have ioD : ∀ b, (pinS E (delS S' ps[n])).io b → (pinS E (delS S' ps[n])).B0 b := fun b z => .inl (j.ioB b z)
      have bnD : ∀ b, B' b → (pinS E (delS S' ps[n])).B0 b ∨ (pinS E (delS S' ps[n])).H0 b = none := fun b z => by
        by_cases hs : delS S' ps[n] b = none
        · rcases (j'.unpinS sN j.b0t j.ioB).bn b z with w | w
          · exact .inl (.inl w)
          · exact .inr (pinS_H0 hs w)
        · exact .inl (.inr hs)
      have hP0 : (pinS E (delS S' ps[n])).H0 ps[n] = none := pinS_H0 delS_same hE0
      obtain ⟨j3, hlp3, no3⟩ := j''.unpin hP0 b0d ioD bnD
      have hBp : B' ps[n] := j'.b0 _ (.inr (by rw [w3]; simp))
      have j4 := j3.setO i hBp hP0 hlp3 (w2.mono x') no3
      refine h3 _ B' _ _ _ o _ j4 g2 ?_
      have dD : delS S' ps[n] Dl = some (.lst (ps.map V.ref)) := by rw [delS_ne (Ne.symm pD)]; exact sD
      have dP : ∀ (j : Nat) p, n + 1 ≤ j → ps[j]? = some p → delS S' ps[n] p = S p := fun j p hj hp => by
        rw [delS_ne]
        · exact sP j p (by omega) hp
        · intro z
          rw [z] at hp
          have hj1 := (List.getElem?_eq_some_iff.mp hp).1
          have := (List.getElem_inj nd).mp ((List.getElem?_eq_some_iff.mp hp).2)
          omega
      cases o with
      | nx ρ3 => exact fun B5 σ5 H5 j5 x5 => ⟨B5, ρ3, _, j5, x'.trans x5, dD, dP, dN, g3⟩
      | ct ρ3 => exact fun B5 σ5 H5 j5 x5 => ⟨B5, ρ3, _, j5, x'.trans x5, dD, dP, dN, g3⟩
      | bk ρ3 => cases g3; exact fun B5 σ5 H5 j5 x5 => q B5 σ5 H5 (j5.unpinS dN j.b0t j.ioB) ((x1.trans x').trans x5)
      | rt d ρ3 => cases g3; exact fun v H5 r => q v H5 (r.unpinS dN j.b0t j.ioB)
  · have e : n = dss.length := by omega
    subst e
    rw [List.drop_eq_nil_of_le (Nat.le_refl _)] at go
    cases go
    exact .inl ⟨⟨_, .inl (.inl hDl), by rw [List.length_map, gd.1]; exact Nat.le_refl _⟩, q B' σ' H' (j'.unpinS sN j.b0t j.ioB) (x1.trans x')⟩
section
variable {X : Cx} {elt tg iter : Expr} {ifs : List Expr} {scope : Scope} {own : List (Str × Nat)} {pos : Pos} {i : IFn} {t : TGf} {c : BF} {g : FF} {ts : List Nat}
theorem l_lc (hc : X.calm = true) (hN : X.N.Nodup) (hi : ID X tg iter i) (ok : BlkOk X.N X.env.scope scope own) (hts : ∀ n ∈ ts, n ∈ own.map (·.2))
    (hg : ∀ (s : Shared) (H : Hp) (C : Addr) (cl : List (Str × Addr)) (fp : List Addr), GD (X.blk s H scope (compEnvC scope cl C X.env) fp) tg t ts) (ht : ∀ (s : Shared) (H : Hp) (C : Addr) (cl : List (Str × Addr)) (fp : List Addr), PTsD (X.blk s H scope (compEnvC scope cl C X.env) fp) ifs c)
    (he : ∀ (s : Shared) (H : Hp) (C : Addr) (cl : List (Str × Addr)) (fp : List Addr), PF (X.blk s H scope (compEnvC scope cl C X.env) fp) elt g) (hs : ∀ x, foldedSetIterable iter X.env x = pure x := by intro _; rfl) :
    PFL X (.ListComp elt [⟨tg, iter, ifs, 0⟩] scope pos) (fLcF i t c g (own.map (·.2))) := by
  obtain ⟨ti, p1, d1⟩ := hi.run
  exact ⟨_, pe_lc hc hN p1 ok (fun s H C cl fp => (hg s H C cl fp).can) (fun s H C cl fp => (ht s H C cl fp).can) (fun s H C cl fp => (he s H C cl fp).can) hs, sf_lcF d1 hts⟩
theorem z_forO {fr : Bool} (n : Nat) {x : Str} {e : Expr} {body : List Stmt} {gl : FFF} {b : SF} {pos' : Pos} (hp : PassesOwn (model X.prog X.w) X.A X.env X.xe) (hc : X.calm = true) (hN : X.N.Nodup) (he : PFL X e gl) (hb : SsD X fr body b)
    (hi : X.N[n]? = some x := by rfl) (hx : Loc X.env.scope x := by first | exact Or.inl rfl | exact Or.inr rfl) (hs : ∀ x, foldedSetIterable e X.env x = pure x := by intro _; rfl) (hf : X.fn x = true ∨ X.env.scope.names.lookup x = some .local := by first | exact .inl rfl | exact .inr rfl | assumption) :
    SD X fr (.For (.Name x pos') e body [] pos) (sForO n gl b) := by
  obtain ⟨te, p1, d1⟩ := he.run
  obtain ⟨tb, p3, d3⟩ := hb.run
  exact ⟨_, ps_for hp hc (pi_list p1) (pg_name hN hi hx hf) p3 hs, ss_forO d1 d3⟩
end
end DL
namespace DL
open PySem PySem.Spec PyProof.Rows L2
/-! ### defs with keyword-only parameters that have a default -/
section
variable {P : Program} {w : World} {K : PySem.W.Frag} {mg : Str → Option Value} {base : Heap}
theorem fn_ruleD {x qual : Str} {st : Stmt} {f : Addr} {fd : FuncData} {N ps : List Str} {k n : Nat} {g : SF} {dvs : List V} {kws : List (Str × V)} (F : FunD K x qual (defArgs st) (defBody st) (defScope st) dvs kws f fd) (S : FnScope N ps (defScope st)) (hn : ps.length = n) (hN : n ≤ N.length)
    (body : ∀ (cdv : Value) (A : Around) (outer : List Env) (s : Shared) (H : Hp) (E : XK), Room k (A.deeper (envOfC qual (defScope st) s.heap.objs.size f cdv)) → SsD (cxOf CX0 P w K mg base N qual (defScope st) f cdv A outer s H E).nox false (defBody st) g) :
    FnOk P w K mg base CX0 (k + 1) f fd ps (spD K n (runF n N.length g)) := by
  refine F.ok S (fun vs H Q E h => ?_) (fun cdv A outer s H vs Q E hr h => ?_)
  · obtain ⟨B, as, d, outs, h1, _⟩ := h
    rw [h1, hn]
  · obtain ⟨B, as, d, outs, h1, h2, h3, h4⟩ := h
    obtain ⟨t, p1, d1⟩ := (body cdv A outer s H E hr).run
    refine ⟨t, p1.nox, ?_⟩
    simp only [runF, Option.bind_eq_some_iff] at h3
    obtain ⟨oc, e1, e2⟩ := h3
    have j := J.start (N := N) h2 (by rw [h1]; exact hN)
    rw [h1] at j
    refine d1 _ B _ H _ oc _ j e1 ?_
    cases oc with
    | rt d' ρ' =>
      cases e2
      rintro v H' ⟨B1, σ1, j1, r1⟩
      exact h4 v H' (past_of h2 j1 j1.b0) r1
    | nx ρ' =>
      cases e2
      intro B1 σ1 H1 j1 x1
      exact h4 .non H1 (past_of h2 j1 j1.b0) .non
    | bk ρ' => cases e2
    | ct ρ' => cases e2
end
/-- the defaults behind the arguments -/
def gApp (g : AF) (dds : List PyData) : AF := fun ρ => (g ρ).map fun p => (p.1 ++ dds.map .d, p.2)
def tApp (t : TA) (dvs : List V) : TA := fun σ H Q => t σ H fun vs H1 => Q (vs ++ dvs) H1
theorem ars_app {K : PySem.W.Frag} {B : Bk} {σ : L2.St} {H : Hp} {ρ : Rho} {vs dvs : List V} {as : List Ar} {dds : List PyData} (h : ArsOk K B σ H ρ vs as) (hd : RpA K (hid B H) dvs dds) : ArsOk K B σ H ρ (vs ++ dvs) (as ++ dds.map .d) := by
  induction h with
  | nil =>
    induction dds generalizing dvs with
    | nil => cases hd; exact .nil
    | cons d r ih =>
      cases hd with
      | cons h1 h2 => exact .cons h1 (ih h2)
  | cons h _ ih => exact .cons h ih
theorem sa_app {K : PySem.W.Frag} {t : TA} {g : AF} {dvs : List V} {dds : List PyData} (h : Sa K t g) (hd : ∀ H, RpA K H dvs dds) : Sa K (tApp t dvs) (gApp g dds) := by
  intro E B σ H ρ as ρ' Q j e q
  simp only [gApp, Option.map_eq_some_iff] at e
  obtain ⟨⟨as1, ρ1⟩, e1, e2⟩ := e
  cases e2
  exact h E B σ H ρ as1 ρ1 _ j e1 fun vs H1 j1 x1 s1 o1 => q _ H1 j1 x1 s1 (ars_app o1 (hd _))
section
variable {X : Cx} {k n : Nat} {f : Addr} {fd : FuncData} {ps : List Str} {x : Str} {p pos : Pos} {e : Expr} {es : List Expr} {g : AF} {F : FnF} {dvs : List V} {dds : List PyData}
theorem dcallD (G : FnOk X.prog X.w X.K X.mg X.base CX0 k f fd ps (spD X.K n F)) (hr : Room k X.A) (hg : Gl X x) (hm : X.mg x = some (.ref f)) (hk : PySem.W.keepIn X.K (.ref f) = true) (hb : ∃ ds, Vals dvs ds ∧ Binds X.K fd ps ds) (hd : ∀ H, RpA X.K H dvs dds)
    (ha : PAD X (e :: es) g) (hn : ∀ ρ as ρ', gApp g dds ρ = some (as, ρ') → as.length = n)
    (hdb : (x == ("__debug__" : Str)) = false := by decide) (he : starEach (e :: es) X.env = (false, eval e X.env) :: starEach es X.env := by rfl) (hpl : (backTo pos (starEach es X.env)).any (·.1) = false := by rfl) :
    PD X (.Call (.Name x p) (e :: es) [] pos) (gCall F (gApp g dds)) := by
  obtain ⟨t, p1, d1⟩ := ha.run
  obtain ⟨ds, r, b⟩ := hb
  refine ⟨_, pe_call G hr hg hm hk b r pass0 p1 hdb he hpl, ?_⟩
  intro E B σ H ρ a ρ' Q j e q
  have := sd_call (sa_app d1 hd) hn E B σ H ρ a ρ' Q j e q
  simpa only [tCall, tApp, List.append_nil] using this
theorem len_app {g : AF} {m : Nat} {dds : List PyData} (h : ∀ ρ as ρ', g ρ = some (as, ρ') → as.length = m) : ∀ ρ as ρ', gApp g dds ρ = some (as, ρ') → as.length = m + dds.length := fun ρ as ρ' e => by
  simp only [gApp, Option.map_eq_some_iff] at e
  obtain ⟨⟨as1, ρ1⟩, e1, e2⟩ := e
  cases e2
  rw [List.length_append, List.length_map, h _ _ _ e1]
end
/-! ### x in a tuple -/
def fInT : R2f := fun a b => match b with
  | .tuple ds => if SeqAt.shaped a = true ∧ SeqAt.shaped (.tuple ds) = true then some (.bool (ds.any fun z => PyData.eqv z a)) else none
  | _ => none
def fNotInT : R2f := fun a b => match b with
  | .tuple ds => if SeqAt.shaped a = true ∧ SeqAt.shaped (.tuple ds) = true then some (.bool (!ds.any fun z => PyData.eqv z a)) else none
  | _ => none
def rInT (K : PySem.W.Frag) : R2 := fun x y H Q => ∃ d ds, Dp K H x d ∧ Dp K H y (.tuple ds) ∧ SeqAt.shaped d = true ∧ SeqAt.shaped (.tuple ds) = true ∧ Q (.bl (ds.any fun z => PyData.eqv z d)) H
def rNotInT (K : PySem.W.Frag) : R2 := fun x y H Q => ∃ d ds, Dp K H x d ∧ Dp K H y (.tuple ds) ∧ SeqAt.shaped d = true ∧ SeqAt.shaped (.tuple ds) = true ∧ Q (.bl (!ds.any fun z => PyData.eqv z d)) H
theorem op_inT {X : Cx} (hu : X.A.units + 65 < cLine) : OpR X (compareOp .In) (rInT X.K) := by
  intro pins s σ H x y v u Q I rx ry ⟨d, ds, one, two, sd, se, q⟩
  obtain ⟨as, r1⟩ := Dp.reads I d x v one rx
  obtain ⟨bs, r2⟩ := Dp.reads I (.tuple ds) y u two ry
  exact SeqAt.in_tuple_reads r2 r1 (SeqAt.canLay_of_shaped se) (SeqAt.canLay_of_shaped sd) (room_in_shaped sd hu) ⟨.bl _, H, I, rfl, q⟩
theorem op_notInT {X : Cx} (hu : X.A.units + 65 < cLine) : OpR X (compareOp .NotIn) (rNotInT X.K) := by
  intro pins s σ H x y v u Q I rx ry ⟨d, ds, one, two, sd, se, q⟩
  obtain ⟨as, r1⟩ := Dp.reads I d x v one rx
  obtain ⟨bs, r2⟩ := Dp.reads I (.tuple ds) y u two ry
  exact SeqAt.notIn_tuple_reads r2 r1 (SeqAt.canLay_of_shaped se) (SeqAt.canLay_of_shaped sd) (room_in_shaped sd hu) ⟨.bl _, H, I, rfl, q⟩
theorem os_inT {K : PySem.W.Frag} : OpS K (rInT K) fInT := by
  intro B H x y a b d Q tr ha hb e q
  unfold fInT at e
  split at e
  · split at e
    · rename_i hs
      cases e
      exact ⟨a, _, BD.dp (shaped_dict hs.1) ha, BD.dp (shaped_dict hs.2) hb, hs.1, hs.2, q _ H (Same.refl _) (.bl _)⟩
    · cases e
  · cases e
theorem os_notInT {K : PySem.W.Frag} : OpS K (rNotInT K) fNotInT := by
  intro B H x y a b d Q tr ha hb e q
  unfold fNotInT at e
  split at e
  · split at e
    · rename_i hs
      cases e
      exact ⟨a, _, BD.dp (shaped_dict hs.1) ha, BD.dp (shaped_dict hs.2) hb, hs.1, hs.2, q _ H (Same.refl _) (.bl _)⟩
    · cases e
  · cases e
theorem cm_inT {X : Cx} {k : Nat} (hr : Room k X.A) : CmpD X .In fInT := ⟨_, op_inT (units65 hr), os_inT⟩
theorem cm_notinT {X : Cx} {k : Nat} (hr : Room k X.A) : CmpD X .NotIn fNotInT := ⟨_, op_notInT (units65 hr), os_notInT⟩
/-- a tuple of texts that stands in the module -/
theorem d_strs {X : Cx} {x : Str} {pos : Pos} {a : Addr} {o : Obj} {its : Array Value} {n : Nat} {ys : List Str} (hg : Gl X x) (hm : X.mg x = some (.ref a)) (l : X.K.lookup a = some o) (hc : o.cls = .type "tuple") (hd : o.data = .seq its n) (hz : its.size ≤ sizeLine) (r : Vals (ys.map V.str) its.toList)
    (hdb : (x == ("__debug__" : Str)) = false := by decide) : PD X (.Name x pos) (gC (.tuple (ys.map .str))) := by
  refine ⟨_, pe_glob (v := .ref a) hg hm rfl hdb, sd_c fun H => ?_⟩
  have q : ∀ ys : List Str, RpA X.K H (ys.map V.str) (ys.map .str) := fun ys => by
    induction ys with
    | nil => exact .nil
    | cons y r ih => exact .cons (.str y) ih
  exact .tup (.inr ⟨o, its, n, l, hc, hd, hz, r⟩) (q ys)
/-- all keywords are written -/
theorem kb_mkD {K : PySem.W.Frag} {x qual : Str} {pa : Arguments} {bd : List Stmt} {sc : Scope} {kws : List (Str × V)} {f : Addr} {fd : FuncData} {ps ks : List Str} {g : List Value → List Value → List Value} {gV : List V → List V → List V} {n m : Nat} (F : FunD K x qual pa bd sc [] kws f fd)
    (h : ∀ (kV doc pm : Value) (an : Option Addr) (cdv ct : Value) (us ws : List Value), us.length = n → ws.length = m → bindArgs (PySem.W.fnOf x qual pa bd sc .none kV doc pm an cdv ct) ⟨us, ks.zip ws⟩ = pure (ps.zip (g us ws)))
    (hl : ∀ us ws : List Value, (g us ws).length = ps.length → us.length = n ∧ ws.length = m)
    (hr : ∀ {vs us zs ws}, Vals vs us → Vals zs ws → Vals (gV vs zs) (g us ws)) : KBinds K fd ps ks g gV := by
  obtain ⟨oc, od, dV, kV, doc, pm, an, cdv, ct, osl, rfl, lk, hcd, hD, hK⟩ := F.ex
  rcases hD with ⟨_, rfl⟩ | ⟨e, _⟩
  · exact kb_mk (h kV doc pm an cdv ct) hl hr
  · exact absurd rfl e
/-- a text among the module's defaults -/
theorem kwd_str {K : PySem.W.Frag} {D : Addr} {k y : Str} {t : Tok} (h : PySem.W.nsIn K D k = some (some (.str y t))) : KwdV K (.ref D) [(k, .str y)] :=
  .inr ⟨D, rfl, fun q hq => by
    rw [List.mem_singleton.mp hq]
    exact ⟨_, h, ⟨t, rfl⟩⟩⟩
theorem funD_mk {K : PySem.W.Frag} {x qual : Str} {st : Stmt} {f : Addr} {oc : Value} {od an : Option Addr} {osl : Array (Option Value)} {kV doc pm cdv ct : Value} {kws : List (Str × V)} (l : K.lookup f = some ⟨oc, od, .func (PySem.W.fnOf x qual (defArgs st) (defBody st) (defScope st) .none kV doc pm an cdv ct), osl⟩)
    (c : PySem.W.codeIn K cdv qual = true) (k : PySem.W.keepIn K (.ref f) = true) (hk : KwdV K kV kws) : FunD K x qual (defArgs st) (defBody st) (defScope st) [] kws f (PySem.W.fnOf x qual (defArgs st) (defBody st) (defScope st) .none kV doc pm an cdv ct) :=
  ⟨⟨oc, od, .none, kV, doc, pm, an, cdv, ct, osl, rfl, l, c, .inl ⟨rfl, rfl⟩, hk⟩, k⟩
end DL
namespace DL
open PySem PySem.Spec PyProof.Rows L2
/-! ### a, b = a list -/
def gtLst (n : Nat) (h : TGsf) : TGf := fun d ρ => match d with
  | .list ds => if ds.length = n then h ds ρ else none
  | _ => none
section
variable {X : Cx} {pos : Pos}
theorem t_lst {es : List Expr} {k n : Nat} {h : TGsf} {ts : List Nat} (hc : X.calm = true) (hh : GsD X es h ts) (hn : (assignEach es X.env).length = n := by rfl) (hst : (assignEach es X.env).findIdx? (·.1) = none := by rfl) : GD X (.Tuple es k pos) (gtLst n h) ts := by
  obtain ⟨t, p1, d1⟩ := hh.run
  refine ⟨_, pg_unl hc p1 hn hst, ?_⟩
  intro E B σ H ρ x d ρ' Q j r e q
  unfold gtLst at e
  split at e
  · split at e
    · rename_i hl
      cases r with
      | lst h1 h2 => exact ⟨_, _, rfl, .inl (.inl (hid_le _ _ h1)), by rw [h2.length]; exact hl, d1 E B σ H ρ _ _ ρ' Q j h2 e q⟩
    · cases e
  · cases e
end
end DL
namespace DL
open PySem PySem.Spec PyProof.Rows L2
/-! ### defs that show data: no showing is under way where they are called -/
structure FnG (P : Program) (w : World) (K : PySem.W.Frag) (mg : Str → Option Value) (base : Heap) (k : Nat) (f : Addr) (fd : FuncData) (ps : List Str) (sp : Sp) : Prop where
  many : ∀ {vs : List V} {H : Hp} {Q : VK} {E : XK}, sp vs H Q E → vs.length = ps.length
  go : ∀ {A : Around} {outer : List Env} {s : Shared} {H : Hp} {args : Args} {us : List Value} {vs : List V} {Q : VK} {E : XK}, A.guards = some [] → Room k A → Env0 P w K mg base A outer s H → BindsTo s fd args (ps.zip us) → Vals vs us → sp vs H Q E →
    codeAny (model P w) A (.call (.ref f) args) (CR CX0 outer P w H s Q E) s
theorem FnG.imp {P : Program} {w : World} {K : PySem.W.Frag} {mg : Str → Option Value} {base : Heap} {k : Nat} {f : Addr} {fd : FuncData} {ps : List Str} {sp sp' : Sp} (F : FnG P w K mg base k f fd ps sp)
    (h : ∀ vs H Q E, sp' vs H Q E → sp vs H Q E) : FnG P w K mg base k f fd ps sp' :=
  ⟨fun q => F.many (h _ _ _ _ q), fun hg hr e b r q => F.go hg hr e b r (h _ _ _ _ q)⟩
section
variable {P : Program} {w : World} {K : PySem.W.Frag} {mg : Str → Option Value} {base : Heap}
/-- a def of the text by its body, entered where nothing is being shown -/
theorem fnG_of {x qual : Str} {st : Stmt} {f : Addr} {fd : FuncData} {N ps : List Str} {k : Nat} {sp : Sp} (F : Fun K x qual st f fd) (S : FnScope N ps (defScope st)) (many : ∀ {vs : List V} {H : Hp} {Q : VK} {E : XK}, sp vs H Q E → vs.length = ps.length)
    (body : ∀ (cdv : Value) (A : Around) (outer : List Env) (s : Shared) (H : Hp) (vs : List V) (Q : VK) (E : XK), A.guards = some [] → Room k (A.deeper (envOfC qual (defScope st) s.heap.objs.size f cdv)) → sp vs H Q E →
      ∃ t, PSs (cxOf CX0 P w K mg base N qual (defScope st) f cdv A outer s H E).nox (defBody st) t ∧ t { nx := fun _ H' => Q .non H', rt := Q } (start N vs) H) : FnG P w K mg base (k + 1) f fd ps sp where
  many := many
  go := by
    intro A outer s H args us vs Q E hg hr e0 hb r hsp
    obtain ⟨oc, od, kV, doc, pm, an, cdv, ct, osl, rfl, lk, hcd⟩ := F.ex
    have kept : ∀ b o, base.get? b = some o → s.heap.get? b = some o := fun b o e => (e0.bs b o e).1
    have kin : K.In s.heap := e0.mod.kin.keeps kept
    have places : ∀ y ∈ ps.zip us, (defScope st).names.lookup y.1 = some .local ∨ ((defScope st).names.lookup y.1 = some .cell ∧ ((cellsFrom (s.heap.objs.size + 1) (defScope st).names []).lookup y.1).isSome = true) := by
      rintro ⟨n, v⟩ hy
      have q := S.par n (List.of_mem_zip hy).1
      exact q.imp id fun c => ⟨c, PySem.W.cellsFrom_some _ _ _ (.inl c)⟩
    obtain ⟨t, ht, hq⟩ := body cdv A outer s H vs Q E hg (hr.deeper _) hsp
    refine codeAny_call_function hr.depth (kin _ _ lk) rfl S.co S.gen rfl (PySem.W.codeRec_of kin hcd) (hb _ _ _ _ (wpAny_newFunctionEnv_cells S.kind places ?_))
    rintro env he s1 x
    subst he
    have I := inv_start (CX := CX0) (P := P) (w := w) (mg := mg) (base := base) (N := N) (E := E) S hr.hd e0 (many hsp) r x
    refine ⟨(e0.mod.nolimit.keeps kept).keeps x.toInCall.keep, codeAny_func (wpAny_mono (ht.nox.run [] s1 (start N vs) H _ I hq) ?_ fun _ _ h => h)⟩
    intro fl s' hs
    match fl, hs with
    | .ret u, ⟨v, σ', H', J, rv, q⟩ => exact ⟨v, H', J.os, J.bare, J.base, J.hok, rv, q⟩
    | .next, ⟨σ', H', J, q⟩ => exact ⟨.non, H', J.os, J.bare, J.base, J.hok, rfl, q⟩
    | .brk, ⟨_, _, _, q⟩ => exact q.elim
    | .cont, ⟨_, _, _, q⟩ => exact q.elim
theorem fn_ruleG {x qual : Str} {st : Stmt} {f : Addr} {fd : FuncData} {N ps : List Str} {k n : Nat} {g : SF} (F : Fun K x qual st f fd) (S : FnScope N ps (defScope st)) (hn : ps.length = n) (hN : n ≤ N.length)
    (body : ∀ (cdv : Value) (A : Around) (outer : List Env) (s : Shared) (H : Hp) (E : XK), A.guards = some [] → Room k (A.deeper (envOfC qual (defScope st) s.heap.objs.size f cdv)) → SsD (cxOf CX0 P w K mg base N qual (defScope st) f cdv A outer s H E).nox false (defBody st) g) :
    FnG P w K mg base (k + 1) f fd ps (spD K n (runF n N.length g)) := by
  refine fnG_of F S (fun h => ?_) (fun cdv A outer s H vs Q E hg hr h => ?_)
  · obtain ⟨B, as, d, outs, h1, _⟩ := h
    rw [h1, hn]
  · obtain ⟨B, as, d, outs, h1, h2, h3, h4⟩ := h
    obtain ⟨t, p1, d1⟩ := (body cdv A outer s H E hg hr).run
    refine ⟨t, p1, ?_⟩
    simp only [runF, Option.bind_eq_some_iff] at h3
    obtain ⟨oc, e1, e2⟩ := h3
    have j := J.start (N := N) h2 (by rw [h1]; exact hN)
    rw [h1] at j
    refine d1 _ B _ H _ oc _ j e1 ?_
    cases oc with
    | rt d' ρ' =>
      cases e2
      rintro v H' ⟨B1, σ1, j1, r1⟩
      exact h4 v H' (past_of h2 j1 j1.b0) r1
    | nx ρ' =>
      cases e2
      intro B1 σ1 H1 j1 x1
      exact h4 .non H1 (past_of h2 j1 j1.b0) .non
    | bk ρ' => cases e2
    | ct ρ' => cases e2
end
section
variable {X : Cx} {k n : Nat} {f : Addr} {fd : FuncData} {ps : List Str} {F : FnF} {x : Str} {p pos : Pos} {e : Expr} {es : List Expr} {g : AF}
/-- such a def called, where nothing is being shown -/
theorem dcallG (G : FnG X.prog X.w X.K X.mg X.base k f fd ps (spD X.K n F)) (h0 : X.A.guards = some []) (hr : Room k X.A) (hg : Gl X x) (hm : X.mg x = some (.ref f)) (hk : PySem.W.keepIn X.K (.ref f) = true) (hb : Binds X.K fd ps [])
    (ha : PAD X (e :: es) g) (hn : ∀ ρ as ρ', g ρ = some (as, ρ') → as.length = n) (hdb : (x == ("__debug__" : Str)) = false := by decide) (he : starEach (e :: es) X.env = (false, eval e X.env) :: starEach es X.env := by rfl) (hpl : (backTo pos (starEach es X.env)).any (·.1) = false := by rfl) :
    PD X (.Call (.Name x p) (e :: es) [] pos) (gCall F g) := by
  obtain ⟨t, p1, d1⟩ := ha.run
  refine ⟨tCall (spD X.K n F) [] E0 t, ⟨fun pins s σ H Q I h => ?_⟩, sd_call d1 hn⟩
  refine wpAny_Call_Name_kw (ld_glob I hg hm (PySem.W.callWith_K (h₀ := X.base) I.ok.mod.kin hk (thn (p1.run pos pins s σ H _ I h) ?_) he hpl) hdb)
  rintro us s1 ⟨vs, H1, I1, r, q⟩
  rw [List.append_nil] at q
  have hl : us.length = ps.length := r.length.symm.trans (G.many q)
  have bd := hb s1 us I1.kIn (by rw [List.append_nil]; exact hl)
  rw [List.append_nil] at bd
  refine ⟨I1.kIn, wpAny_call (codeAny_mono (G.go h0 hr I1.env0 bd r q) ?_)⟩
  rintro (e' | fl) s' hq
  · exact hq.elim
  · match fl, hq with
    | .ret u, hq => exact I1.after hq
end
/-! ### repr -/
def isDisp : PyData → Bool
  | .list _ | .tuple _ => true
  | _ => false
def cRepr : List PyData → Option PyData
  | [d] => if isDisp d = true ∧ d.showable = true ∧ d.hasDict = false ∧ d.depth ≤ 60 ∧ d.shown.length ≤ 1000000 then some (.str d.shown) else none
  | _ => none
def rRepr (K : PySem.W.Frag) : List V → Hp → VK → Prop := fun xs H Q => ∃ v d, xs = [v] ∧ Dp K H v d ∧ isDisp d = true ∧ d.showable = true ∧ d.hasDict = false ∧ d.depth ≤ 60 ∧ d.shown.length ≤ 1000000 ∧ Q (.str d.shown) H
theorem call_reprD {X : Cx} {k : Nat} (h0 : X.A.guards = some []) (hr : Room k X.A) : CallR X (.builtin "repr") (rRepr X.K) := by
  rintro pins s σ H xs us Q I r ⟨v, d, rfl, hd, h1, h2, h3, h4, h5, q⟩
  obtain ⟨u, rfl, rv⟩ := vals1 r
  obtain ⟨as, rd⟩ := Dp.reads I d v u hd rv
  have ref : ∃ a, u = .ref a := by
    cases rd with
    | list _ _ _ _ => exact ⟨_, rfl⟩
    | tuple _ _ _ _ => exact ⟨_, rfl⟩
    | none => cases h1
    | bool _ => cases h1
    | int _ _ => cases h1
    | str _ _ => cases h1
    | dict _ _ _ _ _ => cases h1
  obtain ⟨a, rfl⟩ := ref
  have hu := hr.un
  exact repr_of_reads' rd h2 (PyData.noDict_hsm h3) h0 (by omega) (fun _ _ e => e) (fun h' t tk hk => ⟨.str _, H, I.kept hk, ⟨_, rfl⟩, q⟩) (Nat.le_trans h5 (by rw [sizeLine_eq]; decide))
theorem cs_repr {K : PySem.W.Frag} : CallS K (rRepr K) cRepr := by
  intro B H xs ds d Q tr hb e q
  unfold cRepr at e
  split at e
  · split at e
    · rename_i h
      cases e
      obtain ⟨x, rfl, h'⟩ := hb.one
      exact ⟨_, _, rfl, BD.dp h.2.2.1 h', h.1, h.2.1, h.2.2.1, h.2.2.2.1, h.2.2.2.2, q _ H (Same.refl _) (.str _)⟩
    · cases e
  · cases e
/-! ### texts held against each other -/
def fEqX : R2f := fun a b => match a, b with
  | .str x, .str y => some (.bool (x == y))
  | _, _ => none
def fNeX : R2f := fun a b => match a, b with
  | .str x, .str y => some (.bool (!(x == y)))
  | _, _ => none
theorem BD.text {K : PySem.W.Frag} {B : Bk} {H : Hp} {x : V} {t : Str} (h : BD K B H x (.str t)) : x = .str t := by
  cases h with
  | val h => cases h; rfl
theorem os_eqX {K : PySem.W.Frag} : OpS K rEq fEqX := by
  intro B H x y a b d Q tr ha hb e q
  unfold fEqX at e
  split at e
  · cases e
    rw [ha.text, hb.text]
    refine ⟨rfl, ?_⟩
    rw [dec_str]
    exact q _ H (Same.refl _) (.bl _)
  · cases e
theorem os_neX {K : PySem.W.Frag} : OpS K rNe fNeX := by
  intro B H x y a b d Q tr ha hb e q
  unfold fNeX at e
  split at e
  · cases e
    rw [ha.text, hb.text]
    refine ⟨rfl, ?_⟩
    rw [dec_str]
    exact q _ H (Same.refl _) (.bl _)
  · cases e
theorem cm_eqX {X : Cx} : CmpD X .Eq fEqX := ⟨_, op_eq, os_eqX⟩
theorem cm_neX {X : Cx} : CmpD X .NotEq fNeX := ⟨_, op_ne, os_neX⟩
end DL
namespace DL
open PySem PySem.Spec PyProof.Rows L2
/-! ### the law called from the top, where nothing is being shown -/
/-- the script, if the module's own objects do not hold it -/
noncomputable def scriptHp (K : PySem.W.Frag) (a : Addr) (vs : List Value) (ns : List Int) : Hp := fun b => open Classical in if b = a ∧ K.lookup a = none then some (.frz { cls := .type "list", data := .seq vs.toArray } (.lst (ns.map V.int))) else none
section
variable {K : PySem.W.Frag} {a : Addr} {vs : List Value} {ns : List Int}
theorem scriptHp_some {b : Addr} {u : HO} (h : scriptHp K a vs ns b = some u) : b = a ∧ K.lookup a = none ∧ u = .frz { cls := .type "list", data := .seq vs.toArray } (.lst (ns.map V.int)) := by
  unfold scriptHp at h
  split at h
  · rename_i c
    cases h
    exact ⟨c.1, c.2, rfl⟩
  · cases h
theorem scriptHp_only : Only (scriptHp K a vs ns) := fun b => by
  cases h : scriptHp K a vs ns b with
  | none => exact .inl rfl
  | some u => rw [(scriptHp_some h).2.2]; exact .inr ⟨_, _, rfl⟩
theorem scriptHp_in (h : K.lookup a = none) : scriptHp K a vs ns a = some (.frz { cls := .type "list", data := .seq vs.toArray } (.lst (ns.map V.int))) := if_pos ⟨rfl, h⟩
end
theorem call_topG {P : Program} {w : World} {K : PySem.W.Frag} {mg mb : Str → Option Value} {k : Nat} {fa a : Addr} {fd : FuncData} {x : Str} {sp : Sp} {s₁ : Shared} {vs : List Value} {ns : List Int}
    (KX : K.In s₁.heap) (hns : s₁.heap.Ns mainGlobals mg) (hb : s₁.heap.Ns builtinsNs mb) (hbb : ∀ x : Str, x ≠ "__name__" → mb x = bootBuiltins x) (hlim : s₁.heap.NoLimit) (hg : s₁.gens = #[])
    (ha : s₁.heap.get? a = some { cls := .type "list", data := .seq vs.toArray }) (hi : IntsAre vs ns) (hl : ns.length ≤ sizeLine) (hr : Room k callerA)
    (F : ∀ base : Heap, K.In base → base.Ns mainGlobals mg → FnG P w K mg base k fa fd [x] sp) (hbind : ∀ (s : Shared) (u : Value), BindsTo s fd ⟨[u], []⟩ [(x, u)])
    (hsp : ∀ H : Hp, Only H → SqL K H a (ns.map V.int) → sp [.ref a] H (fun v _ => v = .bl true) E0) :
    codeAny (model P w) callerA (.call (.ref fa) ⟨[.ref a], []⟩) (fun r s' => r = .ok (.ret (.bool true)) ∧ OldK s₁.heap s'.heap ∧ s'.os = s₁.os ∧ AllBare s'.gens) s₁ := by
  have rv := vals_ints hi
  have hlen : (ns.map V.int).length ≤ sizeLine := by rw [List.length_map]; exact hl
  have only := scriptHp_only (K := K) (a := a) (vs := vs) (ns := ns)
  -- the tracked heap is as it stands
  have sound : HOk P w (scriptHp K a vs ns) s₁.heap := fun b u e => by
    obtain ⟨rfl, _, rfl⟩ := scriptHp_some e
    exact ⟨ha, hlen, vs, _, rv, ha⟩
  -- what is no list is not tracked
  have bare : ∀ {b : Addr} {o : Obj}, s₁.heap.get? b = some o → (∀ c, c = a → o.data ≠ .seq vs.toArray c) → (b = a → o = { cls := .type "list", data := .seq vs.toArray }) := fun {b o} e _ q => by
    rw [q, ha] at e
    exact (Option.some.inj e).symm
  have base_of : ∀ {b : Addr} {o : Obj}, s₁.heap.get? b = some o → scriptHp K a vs ns b = none → (hidT s₁.heap (scriptHp K a vs ns)).get? b = some o := fun e n => hidT_get e n
  have nsIn : ∀ {b : Addr} {m : Str → Option Value}, s₁.heap.Ns b m → (hidT s₁.heap (scriptHp K a vs ns)).Ns b m := by
    rintro b m ⟨o, es, ep, e, d, r⟩
    refine ⟨o, es, ep, base_of e ?_, d, r⟩
    cases q : scriptHp K a vs ns b with
    | none => rfl
    | some u =>
      obtain ⟨rfl, _⟩ := scriptHp_some q
      rw [ha] at e
      cases e
      have z : Data.seq vs.toArray _ = Data.dict es ep := d
      cases z
  have kIn : K.In (hidT s₁.heap (scriptHp K a vs ns)) := fun b o e => base_of (KX b o e) (by
    cases q : scriptHp K a vs ns b with
    | none => rfl
    | some u =>
      obtain ⟨rfl, z, _⟩ := scriptHp_some q
      rw [z] at e
      cases e)
  have lim : (hidT s₁.heap (scriptHp K a vs ns)).NoLimit := by
    obtain ⟨mc, h1, h2⟩ := hlim
    exact ⟨mc, nsIn h1, h2⟩
  have e0 : Env0 P w K mg (hidT s₁.heap (scriptHp K a vs ns)) callerA [] s₁ (scriptHp K a vs ns) :=
    ⟨rfl, ⟨kIn, nsIn hns, ⟨mb, nsIn hb, hbb⟩, lim⟩, fun b o e => of_hidT e, Nat.le_of_eq (hidT_size _ _), trivial, fun b q => absurd (show b ∈ ([] : List Addr) from q) (by simp), sound, .of_eq hg⟩
  have held : SqL K (scriptHp K a vs ns) a (ns.map V.int) := by
    cases hk : K.lookup a with
    | none => exact .inl (.inr ⟨_, scriptHp_in hk⟩)
    | some o =>
      have e := KX a o hk
      rw [ha] at e
      cases e
      exact .inr ⟨_, vs.toArray, _, hk, rfl, rfl, rfl, by rw [List.size_toArray, hi.length]; exact hl, by simpa using rv⟩
  refine codeAny_mono ((F _ kIn (nsIn hns)).go (us := [.ref a]) (vs := [.ref a]) rfl hr e0 (hbind s₁ (.ref a)) (.cons rfl .nil) (hsp _ only held)) ?_
  rintro (e | fl) s' h
  · exact h.elim
  · match fl, h with
    | .ret u, ⟨v, H', os, gens, un, sound', r', q⟩ =>
      have q' : v = .bl true := q
      subst q'
      obtain rfl : u = Value.bool true := r'
      refine ⟨rfl, OldK.of_keep fun b o e => ?_, os, gens⟩
      cases qb : scriptHp K a vs ns b with
      | none => exact un.keep b o e qb (by intro z; exact absurd (show b ∈ ([] : List Addr) from z) (by simp)) (by simp)
      | some u =>
        obtain ⟨_, _, rfl⟩ := scriptHp_some qb
        have there := (sound b _ qb).1
        rw [e] at there
        cases there
        exact (sound' b _ (un.frzs b _ _ qb)).1
theorem walk_ofG {l : PySem.W.OpenLaw} {n k : Nat} {q : Program} {loose : List Str} {XP : (Str → Option Value) → Heap → Prop} {YP : World → Heap → Prop} {d : DefRec} {K : Params → PySem.W.Frag} {sp : World → Sp} {x : Str}
    (hn : l.most = some n) (hn2 : n ≤ sizeLine) (hdf : d.params.defaults = []) (hr : Room k callerA)
    (hY : ∀ (w : World) (h : Heap), YP w h → (K w.params).In h)
    (F : ∀ (w : World) (mg : Str → Option Value) (fa : Addr) (h : Heap), (K w.params).In h → h.Ns mainGlobals mg → mg d.name = some (.ref fa) →
      ∃ fd : FuncData, (∀ (s : Shared) (u : Value), BindsTo s fd ⟨[u], []⟩ [(x, u)]) ∧ ∀ base : Heap, (K w.params).In base → base.Ns mainGlobals mg → FnG l.prog w (K w.params) mg base k fa fd [x] (sp w))
    (hsp : ∀ (w : World) (H : Hp) (a : Addr) (ns : List Int), ns.length ≤ n → (∀ z ∈ ns, Builtin.Int.intBits z ≤ 1048576) → Only H → SqL (K w.params) H a (ns.map V.int) → sp w [.ref a] H (fun v _ => v = .bl true) E0) :
    PySem.W.WalkO q loose XP YP l.row.toRowW d [] (fun f vs => PySem.call f vs) := by
  refine Att.attach_callB hn hdf fun w s₀ s₁ mg mb fa o pm cd doc a vs ns G Y ho hd hcd hmg hobj hints hlen hbits hg => ?_
  obtain ⟨fd, hb, hF⟩ := F w mg fa _ (hY w _ Y) G.T.g hmg
  exact call_topG (hY w _ Y) G.T.g G.T.b G.T.builtins G.T.nolimit hg hobj hints (Nat.le_trans hlen hn2) hr hF hb fun H hO hS => hsp w H a ns hlen hbits hO hS
end DL
namespace DL
open PySem PySem.Spec PyProof.Rows L2
/-! ### xs.index(k), numbers -/
def gIdx (go ge : EF) : EF := fun ρ => (go ρ).bind fun p => match p.1 with
  | .d (.list ds) => (ge p.2).bind fun q => (res q.2 q.1).bind fun y => match y with
    | .int k => (ints? ds).bind fun ns => (ns.findIdx? fun n => n == k).map fun j => (.d (.int (j : Nat)), q.2)
    | _ => none
  | _ => none
section
variable {X : Cx} {o e : Expr} {go ge : EF} {apos cpos : Pos}
theorem d_index (ho : PD X o go) (he : PD X e ge)
    (hbase : attributeBase o "index" X.env (eval o X.env) = eval o X.env := by rfl)
    (hfew : ((backTo cpos (starEach (e :: []) X.env)).all (fun x => !x.1) && (backToKw cpos (keywordEach [] X.env)).all (fun x => x.1.isSome)
      && decide ((e :: []).length + ([] : List Keyword).length + (if ([] : List Keyword).isEmpty then 0 else 1) < 30)) = true := by rfl)
    (hline : (apos.endLine == cpos.line) = true := by rfl) (hs : starEach (e :: []) X.env = (false, eval e X.env) :: starEach [] X.env := by rfl) (hplain : (backTo cpos (starEach [] X.env)).any (·.1) = false := by rfl) :
    PD X (.Call (.Attribute o "index" apos) [e] [] cpos) (gIdx go ge) := by
  obtain ⟨to, p1, d1⟩ := ho.run
  obtain ⟨te, p2, d2⟩ := he.run
  refine ⟨_, pe_bm PySem.F.plainAttrs_list PySem.F.slot_list_index PySem.F.type_list_index mt_index p1 (pa_cons p2 pa_nil hs) hbase hfew hline hs hplain, ?_⟩
  intro E B σ H ρ a ρ' Q j eq q
  simp only [gIdx, Option.bind_eq_some_iff] at eq
  obtain ⟨⟨a1, ρ1⟩, e1, e2⟩ := eq
  split at e2
  · rename_i ds ha
    simp only at ha
    subst ha
    simp only [Option.bind_eq_some_iff] at e2
    obtain ⟨⟨a2, ρ2⟩, e3, y, ey, e4⟩ := e2
    split at e4
    · rename_i k
      simp only [Option.bind_eq_some_iff, Option.map_eq_some_iff] at e4
      obtain ⟨ns, hn, i, hi, e5⟩ := e4
      cases e5
      refine d1 E B σ H ρ _ ρ1 _ j e1 fun v1 H1 j1 x1 s1 o1 => ?_
      have b1 : BD X.K B H1 v1 (.list ds) := o1.bd j1 rfl
      refine ⟨?_, ?_⟩
      · obtain ⟨p, vs, rfl, h1, _⟩ := b1.list
        exact .inl ⟨rfl, _, h1⟩
      · refine d2 E B σ H1 ρ1 a2 ρ' _ j1 e3 fun v2 H2 j2 x2 s2 o2 => ?_
        have b2 : BD X.K B H2 v1 (.list ds) := (o1.later x2 s2).bd j2 rfl
        rw [ints_of hn] at b2
        obtain ⟨p, rfl, h2⟩ := b2.ints
        have hy : v2 = .int k := (o2.bd j2 ey).int
        subst hy
        obtain ⟨hlt, hik, hno⟩ := List.findIdx?_eq_some_iff_getElem.mp hi
        refine ⟨p, ns.map V.int, .int k, i, .int ns[i], rfl, rfl, h2, rfl, ?_, ?_, hik, fun m z hm hz => ?_, ?_⟩
        · rw [List.all_map, List.all_eq_true]
          exact fun _ _ => rfl
        · rw [List.getElem?_map, List.getElem?_eq_getElem hlt]
          rfl
        · rw [List.getElem?_map] at hz
          obtain ⟨n, hn', rfl⟩ := Option.map_eq_some_iff.mp hz
          have hml : m < ns.length := by omega
          rw [List.getElem?_eq_getElem hml] at hn'
          cases hn'
          have := hno m hm
          simpa [eqV] using this
        · exact q _ H2 j2 (x1.trans x2) (s1.trans s2) (.int _)
    · cases e4
  · cases e2
end
end DL
namespace DL
open PySem PySem.Spec PyProof.Rows L2
/-! ### a tuple whose first item is a new list, and that item -/
/-- return (a held list, e) -/
def sRetT (i : Nat) (g : EF) : SF := fun ρ => match ρ[i]? with
  | some (.l false _) => (g ρ).bind fun p => (res p.2 p.1).bind fun d2 => match p.2[i]? with
    | some (.l false ds) => some (.rt (.tuple [.list ds, d2]) p.2)
    | _ => none
  | _ => none
section
variable {X : Cx} {pos : Pos}
theorem z_retT (i : Nat) {x : Str} {p2 pt : Pos} {e : Expr} {g : EF} {k : Nat} (he : PD X e g) (hN : X.N[i]? = some x := by rfl) (hv : Vis X.env.scope x := by first | exact Or.inl rfl | exact Or.inr (Or.inl rfl) | exact Or.inr (Or.inr rfl)) (hd : (x == ("__debug__" : Str)) = false := by decide)
    (hcd : (x == ("__classdict__" : Str)) = false := by decide) (hs : starEach [.Name x p2, e] X.env = (false, eval (.Name x p2) X.env) :: starEach [e] X.env := by rfl) (hs2 : starEach [e] X.env = (false, eval e X.env) :: starEach [] X.env := by rfl) : SD X true (.Return (some (.Tuple [.Name x p2, e] k pt)) pos) (sRetT i g) := by
  obtain ⟨te, p1, d1⟩ := he.run
  refine ⟨_, ps_ret (pe_tup (pa_cons (pe_var hN hv hd hcd) (pa_cons p1 pa_nil hs2) hs)), ?_⟩
  intro E B σ H ρ oc D j eq q
  unfold sRetT at eq
  split at eq
  · rename_i ds0 h
    simp only [Option.bind_eq_some_iff] at eq
    obtain ⟨⟨a, ρ1⟩, e1, d2, e2, e3⟩ := eq
    split at e3
    · rename_i ds h1
      cases e3
      obtain ⟨p, ws, g1, _⟩ := j.own i _ _ h
      refine ⟨_, g1, d1 E B σ H ρ a ρ1 _ j e1 fun v2 H1 j1 x1 s1 o1 => ⟨?_, fun t ht => ?_⟩⟩
      · show 2 ≤ sizeLine
        rw [sizeLine_eq]
        decide
      · obtain ⟨p', ws', g1', g2, g3, g4, g5⟩ := j1.own i _ _ h1
        rw [g1] at g1'
        cases g1'
        rw [if_neg Bool.false_ne_true] at g5
        have ne : p ≠ t := fun z => by rw [z, ht] at g3; cases g3
        have sm : Same H1 (upd H1 t (.tup [.ref p, v2])) := same_new ht
        refine q _ _ ⟨B, σ, j1.grow sm, .inr (.inl ⟨t, p, [v2], ws', ds, [d2], rfl, rfl, .inl (.inl upd_same), g5, g2, ?_, ?_⟩)⟩
        · rw [upd_ne ne]
          exact g3
        · exact g4.mono (Ext.grow sm)
    · cases e3
  · cases eq
end
def spT (K : PySem.W.Frag) (n : Nat) (F : FnF) : Sp := fun vs H Q _ => ∃ B as ds rest outs, vs.length = n ∧ ArgIn K B H vs as ∧ F as = some (.tuple (.list ds :: rest), outs) ∧
  ∀ t p xs ws H', H p = none → Past K B (fun b => B b ∨ b = p) H vs as outs H' → SqT K H' t (.ref p :: xs) → H' p = some (.lst ws) → RpA K (hid (fun b => B b ∨ b = p) H') ws ds → Q (.ref t) H'
section
variable {P : Program} {w : World} {K : PySem.W.Frag} {mg : Str → Option Value} {base : Heap}
theorem fn_ruleT {x qual : Str} {st : Stmt} {f : Addr} {fd : FuncData} {N ps : List Str} {k n : Nat} {g : SF} (F : Fun K x qual st f fd) (S : FnScope N ps (defScope st)) (hn : ps.length = n) (hN : n ≤ N.length)
    (body : ∀ (cdv : Value) (A : Around) (outer : List Env) (s : Shared) (H : Hp) (E : XK), Room k (A.deeper (envOfC qual (defScope st) s.heap.objs.size f cdv)) → SsD (cxOf CX0 P w K mg base N qual (defScope st) f cdv A outer s H E).nox true (defBody st) g) :
    FnOk P w K mg base CX0 (k + 1) f fd ps (spT K n (runR n N.length g)) := by
  refine F.ok S (fun vs H Q E h => ?_) (fun cdv A outer s H vs Q E hr h => ?_)
  · obtain ⟨B, as, ds, rest, outs, h1, _⟩ := h
    rw [h1, hn]
  · obtain ⟨B, as, ds, rest, outs, h1, h2, h3, h4⟩ := h
    obtain ⟨t, p1, d1⟩ := (body cdv A outer s H E hr).run
    refine ⟨t, p1, ?_⟩
    simp only [runR, Option.bind_eq_some_iff] at h3
    obtain ⟨oc, e1, e2⟩ := h3
    have j := J.start (N := N) h2 (by rw [h1]; exact hN)
    rw [h1] at j
    refine d1 _ B _ H _ oc _ j e1 ?_
    cases oc with
    | rt d' ρ' =>
      cases e2
      rintro v H' ⟨B1, σ1, j1, ⟨p, ws, ds', rfl, hd, _⟩ | ⟨t, p, xs, ws, ds', rest', rfl, hd, ht, hp, hb, hl, r1⟩ | ⟨t, p, x0, ws, ds', d0, rfl, hd, _⟩⟩
      · cases hd
      · cases hd
        have hs : ∀ b, (B b ∨ b = p) → B1 b := fun b z => z.elim (j1.b0 b) fun z => by rw [z]; exact hb
        exact h4 t p xs ws H' hp (past_of h2 j1 hs) ht hl (r1.mono (hid_sub hs))
      · cases hd
    | nx ρ' => cases e2
    | bk ρ' => cases e2
    | ct ρ' => cases e2
end
/-- f(..)[0] -/
def fCall0 (F : FnF) (g : AF) : FF := fun ρ => (g ρ).bind fun p => (toSls p.2 p.1).bind fun as => if (slotsOf p.1).Nodup then (F as).bind fun r => if sameKind as r.2 = true then (match r.1 with
  | .tuple (.list ds :: _) => some (ds, put p.2 p.1 r.2)
  | _ => none) else none else none
section
variable {X : Cx} {k n : Nat} {f : Addr} {fd : FuncData} {ps : List Str} {F : FnF} {x : Str} {p pos pos2 p0 : Pos} {e : Expr} {es : List Expr} {g : AF} {j0 : Nat}
theorem sf_call0 {K : PySem.W.Frag} {t : TA} (h : Sa K t g) (hn : ∀ ρ as ρ', g ρ = some (as, ρ') → as.length = n) : Sf K (tOp (rIx K) (tCall (spT K n F) [] E0 t) (tC (.int 0))) (fCall0 F g) := by
  intro E B σ H ρ a ρ' Q j eq q
  simp only [fCall0, Option.bind_eq_some_iff] at eq
  obtain ⟨⟨ars, ρ1⟩, e1, as, e2, e3⟩ := eq
  split at e3
  · rename_i nd
    simp only [Option.bind_eq_some_iff] at e3
    obtain ⟨⟨d, outs⟩, e4, e5⟩ := e3
    split at e5
    · rename_i sk
      split at e5
      · rename_i ds rest hd
        simp only at hd
        subst hd
        cases e5
        refine h E B σ H ρ ars ρ1 _ j e1 fun vs H1 j1 x1 s1 o1 => ?_
        refine ⟨B, as, _, _, outs, ?_, ?_, e4, fun t' p ws xs' H2 hp pa ht hl rp => ?_⟩
        · rw [List.append_nil, ars_len o1]; exact hn _ _ _ e1
        · rw [List.append_nil]; exact j1.argIn o1 e2 nd
        · rw [List.append_nil] at pa
          obtain ⟨j2, x2⟩ := j1.called (B' := fun b => B b ∨ b = p) o1 e2 nd sk pa (fun _ z => .inl z) (fun b z => z.elim .inl fun z => .inr (by rw [z]; exact hp)) (fun b z nz => by
            rcases z with z | z
            · exact absurd z nz
            · rw [z, hl]; simp)
          show rIx K (.ref t') (.int 0) H2 Q
          exact .inr (.inl ⟨t', _, 0, .ref p, rfl, rfl, ht, by simp [atI, ixN], q p _ H2 (free_back j1 x1 hp) j2 (x1.trans x2) (s1.trans (put_shp _ _ _)) hl rp⟩)
      · cases e5
    · cases e5
  · cases e3
theorem fcall0 (G : FnOk X.prog X.w X.K X.mg X.base CX0 k f fd ps (spT X.K n F)) (hr : Room k X.A) (hg : Gl X x) (hm : X.mg x = some (.ref f)) (hk : PySem.W.keepIn X.K (.ref f) = true) (hb : Binds X.K fd ps [])
    (ha : PAD X (e :: es) g) (hn : ∀ ρ as ρ', g ρ = some (as, ρ') → as.length = n) (hdb : (x == ("__debug__" : Str)) = false := by decide) (he : starEach (e :: es) X.env = (false, eval e X.env) :: starEach es X.env := by rfl) (hpl : (backTo pos (starEach es X.env)).any (·.1) = false := by rfl) (hp : PlainIx (.Constant (.int 0) j0 p0) := by exact fun _ _ => rfl) :
    PF X (.Subscript (.Call (.Name x p) (e :: es) [] pos) (.Constant (.int 0) j0 p0) pos2) (fCall0 F g) := by
  obtain ⟨t, p1, d1⟩ := ha.run
  exact ⟨_, pe_ix ix_seq (pe_call G hr hg hm hk hb .nil pass0 p1 hdb he hpl) pe_int hp, sf_call0 d1 hn⟩
end
end DL
/-! own errors: made, raised, caught, kept behind the suite -/
namespace DL
open PySem PySem.Spec PyProof.Rows L2
section
open PySem.W PySem.Calls PySem.HandSPX Builtin Builtin.ObjectAttr
variable {prog : Program} {w : World} {A : Around} {R : Result → Shared → Prop} {hp : Heap} {g : Array GenState} {d : Drawn} {tk0 : Nat} {os : OsState}
/-- self.f = v in an own error that has no dict as yet, whatever its base -/
theorem exk_store {K : Frag} {B : String} {bmB : List Value} {x C t : Addr} {f : Str} {tk : Tok} {v : Value} (SF : StoreFacts B bmB "object.__setattr__" "object") (kin : K.In hp) (hx : hp.get? x = some (excO C t)) (ov : excOver K C bmB = true) (nt : takerIn K C f = some none) (hd : hasDictIn K C = true)
    (fin : ∀ h1 tk1 dx, (∀ b o, b ≠ x → hp.get? b = some o → h1.get? b = some o) → hp.objs.size ≤ dx → dx ≠ x → h1.get? x = some { cls := .ref C, dict := some dx, data := .fields #[.ref t, .none, .none, .none, .bool false, .none] } →
      h1.Ns1 dx (fun y => if y = f then some v else none) → R (.ok (.ret .none)) ⟨h1, g, d, tk1, os⟩) :
    codeAny (model prog w) A (.call (.builtin "object.__setattr__") ⟨[.ref x, .str f tk, v], []⟩) R ⟨hp, g, d, tk0, os⟩ := by
  have ne : x ≠ hp.objs.size := Nat.ne_of_lt (Heap.lt_size hx)
  refine osa_openX (s := ⟨hp, g, d, tk0, os⟩) (od := none) SF kin ⟨hx, rfl, rfl, trivial⟩ ov nt fun b => ?_
  obtain ⟨cd, c1, c2⟩ := any_some hd
  refine wpAny_bind (wpAny_pure (wpAny_bind (instanceDict_exc (s := ⟨hp, g, d, tk0, os⟩) (x := x) (t := t) (c2 := .none) hx (looks_clsIn kin c1) c2 ?_)))
  show wpAny _ _ (storeInDict hp.objs.size (.str f tk) f v) _ _ _
  refine store_in_new ⟨_, #[], _, (Heap.get?_update_ne _ _ _ _ (Ne.symm ne)).trans (Heap.get?_push_at rfl rfl), rfl, fun e he => absurd he (by simp), fun _ => rfl⟩ fun h1 tk1 n1 same => ?_
  have up : (hp.push (dictOf [] 0)).get? x = some (excO C t) := Heap.get?_push_of_some _ hx
  refine fin h1 tk1 hp.objs.size (fun b o hb q => ?_) (Nat.le_refl _) (Ne.symm ne) ?_ n1
  · exact (same.2 b (Nat.ne_of_lt (Heap.lt_size q))).trans ((Heap.get?_update_ne _ _ _ _ hb).trans (Heap.get?_push_of_some _ q))
  · exact (same.2 x ne).trans (Heap.get?_update_self _ up rfl)
end
theorem one_line (v : Value) : [v].length ≤ sizeLine := by
  rw [sizeLine_eq]
  exact (by decide : 1 ≤ 16777216)
/-- a statement with two readings -/
theorem ps_or {X : Cx} {s : Stmt} {t u : TS} (h : PS X s t) (q : PS X s u) : PS X s (fun D σ H => t D σ H ∨ u D σ H) :=
  ⟨fun pins s0 σ H D I z => z.elim (h.run pins s0 σ H D I) (q.run pins s0 σ H D I)⟩

/-! ### a class whose __init__ keeps one field, node -/
namespace ExNode
open PySem.W PySem.Calls PySem.HandSPX
abbrev fl : Str := "node"
def iA (p1 p2 : Pos) : Arguments := { posonlyargs := [], args := [{ arg := "self", annotation := none, pos := p1 }, { arg := "node", annotation := none, pos := p2 }], vararg := none, kwonlyargs := [], kw_defaults := [], kwarg := none, defaults := [] }
def iB (q1 q2 q3 q4 : Pos) : List Stmt := [.Assign [.Attribute (.Name "self" q1) "node" q2] (.Name "node" q3) q4]
def iS : Scope := { kind := .function, names := [(PySem.Str.ofString "self", .local), (PySem.Str.ofString "node", .local)], isGenerator := false, isCoroutine := false, more := [] }
/-- what the module says of such a class x, at C, its __init__ at fI -/
structure Txt (K : Frag) (mg : Str → Option Value) (qual : Str) (newId : String) (bmB : List Value) (x : Str) (C fI : Addr) : Prop where
  gC : mg x = some (.ref C)
  aC : nsIn K mainGlobals x = some (some (.ref C))
  ini : excInitIn K C bmB newId = true
  ov : excOver K C bmB = true
  nt : takerIn K C "node" = some none
  sa : findIn K (.ref C) "__setattr__" = some (some (.builtin "object.__setattr__"))
  ga : findIn K (.ref C) "__getattribute__" = some (some (.builtin "BaseException.__getattribute__"))
  gg : findIn K (.ref C) "__getattr__" = some none
  no : findIn K (.ref C) "node" = some none
  iC : findIn K (.ref C) "__init__" = some (some (.ref fI))
  tC : typeIn K (.ref fI) = some (.type "function")
  kC : keepIn K (.ref C) = true
  exC : subIn K (.ref C) (.type "BaseException") = some true
  tyC : typeIn K (.ref C) = some (.type "type")
  hdC : hasDictIn K C = true
  te : exmOne K (.ref C) (.ref C) = some true
  fn : ∃ (oc : Value) (od : Option Addr) (doc pm : Value) (an : Option Addr) (cdv ct : Value) (osl : Array (Option Value)) (p1 p2 q1 q2 q3 q4 : Pos),
    K.lookup fI = some ⟨oc, od, .func (fnOf "__init__" qual (iA p1 p2) (iB q1 q2 q3 q4) iS .none .none doc pm an cdv ct), osl⟩ ∧ codeIn K cdv qual = true
theorem ldC {M : Model} {s : Shared} {name : Str} {scope : Scope} {L a : Addr} {cd : Value} {m : Str → Option Value} {x : Str} {pos : Pos} {v : Value} {Q : Value → Shared → Prop} {A : Around} {E : Value → Shared → Prop} (hn : s.heap.Ns L m) (hv : m x = some v) (h : Q v s)
    (hk : scope.kind = .function := by rfl) (hl : (envOfC name scope L a cd).kindOf x = some .local := by rfl) (hd : (x == ("__debug__" : Str)) = false := by decide) :
    wpAny M A (eval (.Name x pos) (envOfC name scope L a cd)) Q E s := wpAny_Name (wpAny_loadName_local hk hl hn hv h) hd
/-- behind __init__ -/
structure InitEnd (h h' : Heap) (x C dx t1 : Addr) (v : Value) : Prop where
  keep : ∀ b o, b ≠ x → h.get? b = some o → h'.get? b = some o
  obj : h'.get? x = some { cls := .ref C, dict := some dx, data := .fields #[.ref t1, .none, .none, .none, .bool false, .none] }
  dbig : h.objs.size ≤ dx
  dne : dx ≠ x
  ns : h'.Ns1 dx (fun y => if y = "node" then some v else none)
/-- one that was made -/
structure Made (h h' : Heap) (e C d : Addr) (v : Value) : Prop where
  keep : ∀ b o, h.get? b = some o → h'.get? b = some o
  new : h.objs.size ≤ e
  obj : ∃ oe vs, h'.get? e = some oe ∧ oe.cls = .ref C ∧ oe.dict = some d ∧ oe.data = .fields vs ∧ vs[1]? = some .none
  dbig : h.objs.size ≤ d
  dne : d ≠ e
  ns : h'.Ns1 d (fun y => if y = "node" then some v else none)
section
variable {prog : Program} {w : World} {A : Around} {E : Value → Shared → Prop} {R : Result → Shared → Prop} {s : Shared} {K : Frag} {mg : Str → Option Value} {qual : Str} {newId B initId : String} {bmB : List Value} {nm : Str} {C fI : Addr}
theorem ex_init (SF : StoreFacts B bmB "object.__setattr__" "object") (T : Txt K mg qual newId bmB nm C fI) {x t0 : Addr} {v : Value} (X : K.In s.heap) (hlim : s.heap.NoLimit) (hx : s.heap.get? x = some (excO C t0)) (hroom : A.depth < recursionLimit)
    (hq : ∀ h' tk dx, InitEnd s.heap h' x C dx t0 v → R (.ok (.ret .none)) { s with heap := h', toks := tk }) :
    codeAny (model prog w) A (.call (.ref fI) ⟨[.ref x, v], []⟩) R s := by
  obtain ⟨oc, od, doc, pm, an, cdv, ct, osl, p1, p2, q1, q2, q3, q4, ho, hcd⟩ := T.fn
  refine Att.call_fn (binds := [("self", .ref x), ("node", v)]) X hlim ho hcd hroom (BindsTo.of_eq (by first | rfl | with_unfolding_all rfl)) (by first | rfl | decide | with_unfolding_all rfl) (fun s₁ IC => ?_) rfl rfl rfl
  obtain ⟨h₁, tk₁, rfl⟩ := IC.toInCall.same
  have k : ∀ b o, s.heap.get? b = some o → h₁.get? b = some o := IC.toInCall.keep
  have hn := IC.toInCall.ns
  have X₁ : K.In h₁ := X.keeps k
  have hx₁ := k _ _ hx
  show wpAny _ _ (execs _ _) _ _ _
  refine wpAny_execs_cons (plainObj_wpAny_Assign_Attribute ?_)
  refine ldC (v := v) hn (by first | rfl | with_unfolding_all rfl | kernel_rfl) (ldC (v := .ref x) hn (by first | rfl | with_unfolding_all rfl | kernel_rfl) ?_)
  refine set_plain X₁ (ox := excO C t0) (od := none) ⟨hx₁, rfl, rfl, trivial⟩ T.sa ?_
  refine exk_store SF X₁ hx₁ T.ov T.nt T.hdC (fun h₃ tk₃ dx k₃ dn dne hx₃ hn₃ => ?_)
  show wpAny _ _ (execs _ _) _ _ _
  have z : s.heap.objs.size < h₁.objs.size := hn.lt
  exact wpAny_execs_nil (hq h₃ tk₃ dx ⟨fun b o hb e => k₃ b o hb (k b o e), hx₃, Nat.le_of_lt (Nat.lt_of_lt_of_le z dn), dne, hn₃⟩)
theorem ex_made (F : ExcBaseFacts B newId initId bmB) (SF : StoreFacts B bmB "object.__setattr__" "object") (T : Txt K mg qual newId bmB nm C fI) {v : Value} (X : K.In s.heap) (hlim : s.heap.NoLimit) (hroom : A.depth + 1 < recursionLimit)
    (hq : ∀ h' tk e d, Made s.heap h' e C d v → R (.ok (.ret (.ref e))) { s with heap := h', toks := tk }) :
    codeAny (model prog w) A (.call (.ref C) ⟨[v], []⟩) R s := by
  obtain ⟨nm', N', qn, bs, bm, hdct, sn, sub, ab, col, dd, k0, k1, k2, k3, k5, hC, hT⟩ := excInit_of X T.ini
  obtain ⟨hp, g, dr, tk, os⟩ := s
  have k : ∀ b o, hp.get? b = some o → ((hp.push (kdv_tup [v])).push (excO C hp.objs.size)).get? b = some o := fun b o e => Heap.get?_push_of_some _ (Heap.get?_push_of_some _ e)
  have hget : ((hp.push (kdv_tup [v])).push (excO C hp.objs.size)).get? (hp.objs.size + 1) = some (excO C hp.objs.size) := by heap_get
  refine call_own F hT hC (looks_findIn X T.iC) (fun self => bind_fn X self T.tC) (one_line v) ?_
  refine ex_init (s := ⟨(hp.push (kdv_tup [v])).push (excO C hp.objs.size), g, dr, tk, os⟩) SF T (X.keeps k) (hlim.keeps k) hget ?_ fun h' tk' dx ⟨k', hx, dn, dne, hns⟩ => ?_
  · show A.depth + 1 < recursionLimit
    exact hroom
  · have old : ∀ b o, hp.get? b = some o → h'.get? b = some o := fun b o e => k' b o (Nat.ne_of_lt (Nat.lt_succ_of_lt (Heap.lt_size e))) (k b o e)
    have z : hp.objs.size + 1 + 1 ≤ dx := by
      first
        | (simpa only [Heap.size_push] using dn)
        | exact dn
        | (have q := dn; rw [Heap.size_push, Heap.size_push] at q; exact q)
    exact ⟨rfl, hq h' tk' (hp.objs.size + 1) dx ⟨old, Nat.le_succ _, ⟨_, _, hx, rfl, rfl, rfl, rfl⟩, Nat.le_trans (Nat.le_trans (Nat.le_succ _) (Nat.le_succ _)) z, dne, hns⟩⟩
end
theorem relO {v : V} {v' : Value} (r : RelV v v') (f : Str) : RelO (List.lookup f [(("node" : Str), v)]) (if f = "node" then some v' else none) := by
  by_cases hw : f = "node"
  · subst hw
    rw [if_pos rfl]
    have q : List.lookup ("node" : Str) [(("node" : Str), v)] = some v := by simp [List.lookup]
    rw [q]
    exact r
  · rw [if_neg hw]
    have qw : (f == ("node" : Str)) = false := by simpa using hw
    have q2 : List.lookup f [(("node" : Str), v)] = none := by simp [List.lookup, qw]
    rw [q2]
    trivial
section
variable {X : Cx} {C fI : Addr} {qual : Str} {newId B initId : String} {bmB : List Value} {nm : Str}
def tMk (C : Addr) (ta : TA) : L2.St → Hp → XK → Prop := fun σ H Q => ta σ H fun vs H1 => ∃ v, vs = [v] ∧ ∀ d, H1 d = none → Q (.ref C) (some d) (upd H1 d (.xd [(("node" : Str), v)]))
theorem pmk {a : Expr} {ta : TA} {p pos : Pos} {k : Nat} (F : ExcBaseFacts B newId initId bmB) (SF : StoreFacts B bmB "object.__setattr__" "object") (T : Txt X.K X.mg qual newId bmB nm C fI) (hr : Room k X.A) (hk : 2 ≤ k) (ha : PA X [a] ta) (hg : Gl X nm)
    (hdb : (nm == ("__debug__" : Str)) = false := by decide) (he : starEach (a :: []) X.env = (false, eval a X.env) :: starEach [] X.env := by rfl) (hpl : (backTo pos (starEach [] X.env)).any (·.1) = false := by rfl) :
    PMk X (.Call (.Name nm p) [a] [] pos) (tMk C ta) := by
  intro pins s σ H Q I h
  refine wpAny_Call_Name_kw (ld_glob I hg T.gC ?_ hdb)
  refine PySem.W.callWith_K (h₀ := X.base) I.ok.mod.kin T.kC (thn (ha.run pos pins s σ H _ I h) fun us s1 hh => ?_) he hpl
  obtain ⟨vs, H1, I1, r1, v, ev, q1⟩ := hh
  subst ev
  refine ⟨I1.kIn, ?_⟩
  cases r1 with
  | cons rv rn =>
    rename_i v' us'
    cases rn
    show wpAny _ _ (call (.ref C) [v']) _ _ _
    have hlim := I1.nolimit
    obtain ⟨hp, g, dr, tk, os⟩ := s1
    refine wpAny_call (ex_made F SF T I1.kIn hlim (by have := hr.dp; omega) fun h' tk' e d M => ?_)
    show MkP X pins σ Q (.ref e) ⟨h', g, dr, tk', os⟩
    obtain ⟨oe, fv, hoe, hc, hd, hdat, h1⟩ := M.obj
    have hns := M.ns
    obtain ⟨G', g1, g2⟩ := restrict h' fun b => decide (b ≠ e)
    have gk : ∀ b, b ≠ e → G'.get? b = h'.get? b := fun b hb => g1 b (decide_eq_true hb)
    have ge : G'.get? e = none := g2 e (by simp)
    have old : ∀ b o, hp.get? b = some o → G'.get? b = some o := fun b o q => (gk b (Nat.ne_of_lt (Nat.lt_of_lt_of_le (Heap.lt_size q) M.new))).trans (M.keep b o q)
    have ob : ObjOk X.prog X.w (upd H1 d (.xd [(("node" : Str), v)])) G' d (.xd [(("node" : Str), v)]) :=
      ⟨_, hns.at (fun o q => (gk d M.dne).trans q), fun f => relO rv f⟩
    have J : Inv X pins σ (upd H1 d (.xd [(("node" : Str), v)])) ⟨G', g, dr, tk', os⟩ := I1.laid (t' := tk') old M.dbig ob
    refine ⟨e, oe, fv, ⟨G', g, dr, tk', os⟩, _, .ref C, some d, rfl, J, fun b o q => ?_, ge, hoe, ⟨hc, hd⟩, hdat, h1, ?_, rfl, I1.bare, raises_own T.exC T.tyC, q1 d (I1.hok.fresh M.dbig)⟩
    · by_cases hb : b = e
      · have q' : G'.get? b = some o := q
        rw [hb, ge] at q'; cases q'
      · exact (gk b hb).symm.trans q
    · rw [upd_ne (Ne.symm M.dne)]
      exact I1.hok.fresh M.new
end
end ExNode

/-! ### a class whose __init__ keeps one field, name -/
namespace ExName
open PySem.W PySem.Calls PySem.HandSPX
abbrev fl : Str := "name"
def iA (p1 p2 : Pos) : Arguments := { posonlyargs := [], args := [{ arg := "self", annotation := none, pos := p1 }, { arg := "name", annotation := none, pos := p2 }], vararg := none, kwonlyargs := [], kw_defaults := [], kwarg := none, defaults := [] }
def iB (q1 q2 q3 q4 : Pos) : List Stmt := [.Assign [.Attribute (.Name "self" q1) "name" q2] (.Name "name" q3) q4]
def iS : Scope := { kind := .function, names := [(PySem.Str.ofString "self", .local), (PySem.Str.ofString "name", .local)], isGenerator := false, isCoroutine := false, more := [] }
/-- what the module says of such a class x, at C, its __init__ at fI -/
structure Txt (K : Frag) (mg : Str → Option Value) (qual : Str) (newId : String) (bmB : List Value) (x : Str) (C fI : Addr) : Prop where
  gC : mg x = some (.ref C)
  aC : nsIn K mainGlobals x = some (some (.ref C))
  ini : excInitIn K C bmB newId = true
  ov : excOver K C bmB = true
  nt : takerIn K C "name" = some none
  sa : findIn K (.ref C) "__setattr__" = some (some (.builtin "object.__setattr__"))
  ga : findIn K (.ref C) "__getattribute__" = some (some (.builtin "BaseException.__getattribute__"))
  gg : findIn K (.ref C) "__getattr__" = some none
  no : findIn K (.ref C) "name" = some none
  iC : findIn K (.ref C) "__init__" = some (some (.ref fI))
  tC : typeIn K (.ref fI) = some (.type "function")
  kC : keepIn K (.ref C) = true
  exC : subIn K (.ref C) (.type "BaseException") = some true
  tyC : typeIn K (.ref C) = some (.type "type")
  hdC : hasDictIn K C = true
  te : exmOne K (.ref C) (.ref C) = some true
  fn : ∃ (oc : Value) (od : Option Addr) (doc pm : Value) (an : Option Addr) (cdv ct : Value) (osl : Array (Option Value)) (p1 p2 q1 q2 q3 q4 : Pos),
    K.lookup fI = some ⟨oc, od, .func (fnOf "__init__" qual (iA p1 p2) (iB q1 q2 q3 q4) iS .none .none doc pm an cdv ct), osl⟩ ∧ codeIn K cdv qual = true
theorem ldC {M : Model} {s : Shared} {name : Str} {scope : Scope} {L a : Addr} {cd : Value} {m : Str → Option Value} {x : Str} {pos : Pos} {v : Value} {Q : Value → Shared → Prop} {A : Around} {E : Value → Shared → Prop} (hn : s.heap.Ns L m) (hv : m x = some v) (h : Q v s)
    (hk : scope.kind = .function := by rfl) (hl : (envOfC name scope L a cd).kindOf x = some .local := by rfl) (hd : (x == ("__debug__" : Str)) = false := by decide) :
    wpAny M A (eval (.Name x pos) (envOfC name scope L a cd)) Q E s := wpAny_Name (wpAny_loadName_local hk hl hn hv h) hd
/-- behind __init__ -/
structure InitEnd (h h' : Heap) (x C dx t1 : Addr) (v : Value) : Prop where
  keep : ∀ b o, b ≠ x → h.get? b = some o → h'.get? b = some o
  obj : h'.get? x = some { cls := .ref C, dict := some dx, data := .fields #[.ref t1, .none, .none, .none, .bool false, .none] }
  dbig : h.objs.size ≤ dx
  dne : dx ≠ x
  ns : h'.Ns1 dx (fun y => if y = "name" then some v else none)
/-- one that was made -/
structure Made (h h' : Heap) (e C d : Addr) (v : Value) : Prop where
  keep : ∀ b o, h.get? b = some o → h'.get? b = some o
  new : h.objs.size ≤ e
  obj : ∃ oe vs, h'.get? e = some oe ∧ oe.cls = .ref C ∧ oe.dict = some d ∧ oe.data = .fields vs ∧ vs[1]? = some .none
  dbig : h.objs.size ≤ d
  dne : d ≠ e
  ns : h'.Ns1 d (fun y => if y = "name" then some v else none)
section
variable {prog : Program} {w : World} {A : Around} {E : Value → Shared → Prop} {R : Result → Shared → Prop} {s : Shared} {K : Frag} {mg : Str → Option Value} {qual : Str} {newId B initId : String} {bmB : List Value} {nm : Str} {C fI : Addr}
theorem ex_init (SF : StoreFacts B bmB "object.__setattr__" "object") (T : Txt K mg qual newId bmB nm C fI) {x t0 : Addr} {v : Value} (X : K.In s.heap) (hlim : s.heap.NoLimit) (hx : s.heap.get? x = some (excO C t0)) (hroom : A.depth < recursionLimit)
    (hq : ∀ h' tk dx, InitEnd s.heap h' x C dx t0 v → R (.ok (.ret .none)) { s with heap := h', toks := tk }) :
    codeAny (model prog w) A (.call (.ref fI) ⟨[.ref x, v], []⟩) R s := by
  obtain ⟨oc, od, doc, pm, an, cdv, ct, osl, p1, p2, q1, q2, q3, q4, ho, hcd⟩ := T.fn
  refine Att.call_fn (binds := [("self", .ref x), ("name", v)]) X hlim ho hcd hroom (BindsTo.of_eq (by first | rfl | with_unfolding_all rfl)) (by first | rfl | decide | with_unfolding_all rfl) (fun s₁ IC => ?_) rfl rfl rfl
  obtain ⟨h₁, tk₁, rfl⟩ := IC.toInCall.same
  have k : ∀ b o, s.heap.get? b = some o → h₁.get? b = some o := IC.toInCall.keep
  have hn := IC.toInCall.ns
  have X₁ : K.In h₁ := X.keeps k
  have hx₁ := k _ _ hx
  show wpAny _ _ (execs _ _) _ _ _
  refine wpAny_execs_cons (plainObj_wpAny_Assign_Attribute ?_)
  refine ldC (v := v) hn (by first | rfl | with_unfolding_all rfl | kernel_rfl) (ldC (v := .ref x) hn (by first | rfl | with_unfolding_all rfl | kernel_rfl) ?_)
  refine set_plain X₁ (ox := excO C t0) (od := none) ⟨hx₁, rfl, rfl, trivial⟩ T.sa ?_
  refine exk_store SF X₁ hx₁ T.ov T.nt T.hdC (fun h₃ tk₃ dx k₃ dn dne hx₃ hn₃ => ?_)
  show wpAny _ _ (execs _ _) _ _ _
  have z : s.heap.objs.size < h₁.objs.size := hn.lt
  exact wpAny_execs_nil (hq h₃ tk₃ dx ⟨fun b o hb e => k₃ b o hb (k b o e), hx₃, Nat.le_of_lt (Nat.lt_of_lt_of_le z dn), dne, hn₃⟩)
theorem ex_made (F : ExcBaseFacts B newId initId bmB) (SF : StoreFacts B bmB "object.__setattr__" "object") (T : Txt K mg qual newId bmB nm C fI) {v : Value} (X : K.In s.heap) (hlim : s.heap.NoLimit) (hroom : A.depth + 1 < recursionLimit)
    (hq : ∀ h' tk e d, Made s.heap h' e C d v → R (.ok (.ret (.ref e))) { s with heap := h', toks := tk }) :
    codeAny (model prog w) A (.call (.ref C) ⟨[v], []⟩) R s := by
  obtain ⟨nm', N', qn, bs, bm, hdct, sn, sub, ab, col, dd, k0, k1, k2, k3, k5, hC, hT⟩ := excInit_of X T.ini
  obtain ⟨hp, g, dr, tk, os⟩ := s
  have k : ∀ b o, hp.get? b = some o → ((hp.push (kdv_tup [v])).push (excO C hp.objs.size)).get? b = some o := fun b o e => Heap.get?_push_of_some _ (Heap.get?_push_of_some _ e)
  have hget : ((hp.push (kdv_tup [v])).push (excO C hp.objs.size)).get? (hp.objs.size + 1) = some (excO C hp.objs.size) := by heap_get
  refine call_own F hT hC (looks_findIn X T.iC) (fun self => bind_fn X self T.tC) (one_line v) ?_
  refine ex_init (s := ⟨(hp.push (kdv_tup [v])).push (excO C hp.objs.size), g, dr, tk, os⟩) SF T (X.keeps k) (hlim.keeps k) hget ?_ fun h' tk' dx ⟨k', hx, dn, dne, hns⟩ => ?_
  · show A.depth + 1 < recursionLimit
    exact hroom
  · have old : ∀ b o, hp.get? b = some o → h'.get? b = some o := fun b o e => k' b o (Nat.ne_of_lt (Nat.lt_succ_of_lt (Heap.lt_size e))) (k b o e)
    have z : hp.objs.size + 1 + 1 ≤ dx := by
      first
        | (simpa only [Heap.size_push] using dn)
        | exact dn
        | (have q := dn; rw [Heap.size_push, Heap.size_push] at q; exact q)
    exact ⟨rfl, hq h' tk' (hp.objs.size + 1) dx ⟨old, Nat.le_succ _, ⟨_, _, hx, rfl, rfl, rfl, rfl⟩, Nat.le_trans (Nat.le_trans (Nat.le_succ _) (Nat.le_succ _)) z, dne, hns⟩⟩
end
theorem relO {v : V} {v' : Value} (r : RelV v v') (f : Str) : RelO (List.lookup f [(("name" : Str), v)]) (if f = "name" then some v' else none) := by
  by_cases hw : f = "name"
  · subst hw
    rw [if_pos rfl]
    have q : List.lookup ("name" : Str) [(("name" : Str), v)] = some v := by simp [List.lookup]
    rw [q]
    exact r
  · rw [if_neg hw]
    have qw : (f == ("name" : Str)) = false := by simpa using hw
    have q2 : List.lookup f [(("name" : Str), v)] = none := by simp [List.lookup, qw]
    rw [q2]
    trivial
section
variable {X : Cx} {C fI : Addr} {qual : Str} {newId B initId : String} {bmB : List Value} {nm : Str}
def tMk (C : Addr) (ta : TA) : L2.St → Hp → XK → Prop := fun σ H Q => ta σ H fun vs H1 => ∃ v, vs = [v] ∧ ∀ d, H1 d = none → Q (.ref C) (some d) (upd H1 d (.xd [(("name" : Str), v)]))
theorem pmk {a : Expr} {ta : TA} {p pos : Pos} {k : Nat} (F : ExcBaseFacts B newId initId bmB) (SF : StoreFacts B bmB "object.__setattr__" "object") (T : Txt X.K X.mg qual newId bmB nm C fI) (hr : Room k X.A) (hk : 2 ≤ k) (ha : PA X [a] ta) (hg : Gl X nm)
    (hdb : (nm == ("__debug__" : Str)) = false := by decide) (he : starEach (a :: []) X.env = (false, eval a X.env) :: starEach [] X.env := by rfl) (hpl : (backTo pos (starEach [] X.env)).any (·.1) = false := by rfl) :
    PMk X (.Call (.Name nm p) [a] [] pos) (tMk C ta) := by
  intro pins s σ H Q I h
  refine wpAny_Call_Name_kw (ld_glob I hg T.gC ?_ hdb)
  refine PySem.W.callWith_K (h₀ := X.base) I.ok.mod.kin T.kC (thn (ha.run pos pins s σ H _ I h) fun us s1 hh => ?_) he hpl
  obtain ⟨vs, H1, I1, r1, v, ev, q1⟩ := hh
  subst ev
  refine ⟨I1.kIn, ?_⟩
  cases r1 with
  | cons rv rn =>
    rename_i v' us'
    cases rn
    show wpAny _ _ (call (.ref C) [v']) _ _ _
    have hlim := I1.nolimit
    obtain ⟨hp, g, dr, tk, os⟩ := s1
    refine wpAny_call (ex_made F SF T I1.kIn hlim (by have := hr.dp; omega) fun h' tk' e d M => ?_)
    show MkP X pins σ Q (.ref e) ⟨h', g, dr, tk', os⟩
    obtain ⟨oe, fv, hoe, hc, hd, hdat, h1⟩ := M.obj
    have hns := M.ns
    obtain ⟨G', g1, g2⟩ := restrict h' fun b => decide (b ≠ e)
    have gk : ∀ b, b ≠ e → G'.get? b = h'.get? b := fun b hb => g1 b (decide_eq_true hb)
    have ge : G'.get? e = none := g2 e (by simp)
    have old : ∀ b o, hp.get? b = some o → G'.get? b = some o := fun b o q => (gk b (Nat.ne_of_lt (Nat.lt_of_lt_of_le (Heap.lt_size q) M.new))).trans (M.keep b o q)
    have ob : ObjOk X.prog X.w (upd H1 d (.xd [(("name" : Str), v)])) G' d (.xd [(("name" : Str), v)]) :=
      ⟨_, hns.at (fun o q => (gk d M.dne).trans q), fun f => relO rv f⟩
    have J : Inv X pins σ (upd H1 d (.xd [(("name" : Str), v)])) ⟨G', g, dr, tk', os⟩ := I1.laid (t' := tk') old M.dbig ob
    refine ⟨e, oe, fv, ⟨G', g, dr, tk', os⟩, _, .ref C, some d, rfl, J, fun b o q => ?_, ge, hoe, ⟨hc, hd⟩, hdat, h1, ?_, rfl, I1.bare, raises_own T.exC T.tyC, q1 d (I1.hok.fresh M.dbig)⟩
    · by_cases hb : b = e
      · have q' : G'.get? b = some o := q
        rw [hb, ge] at q'; cases q'
      · exact (gk b hb).symm.trans q
    · rw [upd_ne (Ne.symm M.dne)]
      exact I1.hok.fresh M.new
end
end ExName
end DL
/-! an error that lands, and what stays of it behind the suite -/
namespace DL
open PySem PySem.Spec PyProof.Rows L2
section
variable {X : Cx} {pins : List (Addr × Obj)} {σ : L2.St} {H : Hp} {s : Shared} {a : Addr}
/-- on the ground: the state without the error is sG -/
structure Lands (X : Cx) (pins : List (Addr × Obj)) (σ : L2.St) (H : Hp) (G : Heap) (a : Addr) (Z : Obj → Prop) (s : Shared) : Prop where
  src : ∃ sG, Inv X pins σ H sG ∧ (∀ b o, sG.heap.get? b = some o → b ∉ frs X.stack → G.get? b = some o) ∧ sG.heap.UpToSlots s.heap ∧ s.os = sG.os ∧ AllBare s.gens
  fly : HandSPX.FlyingZ G X.stack a Z s.heap
  fre : H a = none
variable {G : Heap} {Z : Obj → Prop}
theorem Lands.inv (l : Lands X pins σ H G a Z s) : Inv X pins σ H s := by
  obtain ⟨sG, i, gr, up, os, ag⟩ := l.src
  exact i.landed gr l.fly.1 up os ag
theorem Lands.frm (l : Lands X pins σ H G a Z s) : a ∉ frs X.stack := fun m => by
  obtain ⟨o, vs, q, _, dt⟩ := l.fly.there
  obtain ⟨_, o', q', no⟩ := l.fly.2.2.1.mem m
  rw [q] at q'
  cases q'
  exact no _ dt
theorem Lands.nin (l : Lands X pins σ H G a Z s) (st : X.stack = X.env :: X.outer) (fr : X.env.frame = some X.env.locals) : a ≠ X.env.locals ∧ a ∉ X.fs := by
  have n := l.frm
  rw [st] at n
  refine ⟨fun z => n (List.mem_filterMap.mpr ⟨X.env, List.mem_cons_self, by rw [fr, z]⟩), fun m => ?_⟩
  obtain ⟨e, he, q⟩ := List.mem_filterMap.mp m
  exact n (List.mem_filterMap.mpr ⟨e, List.mem_cons_of_mem _ he, q⟩)
theorem Lands.new (l : Lands X pins σ H G a Z s) {b : Addr} {o : Obj} (h : ∀ t : Shared, Inv X pins σ H t → t.heap.get? b = some o) : b ≠ a := fun z => by
  subst z
  obtain ⟨sG, i, gr, _⟩ := l.src
  have q := gr b o (h sG i) l.frm
  rw [l.fly.2.1] at q
  cases q
theorem Lands.old (l : Lands X pins σ H G a Z s) (nx : X.ex = []) : X.s_0.heap.get? a = none := by
  cases q : X.s_0.heap.get? a with
  | none => rfl
  | some o =>
    exfalso
    obtain ⟨sG, i, gr, _⟩ := l.src
    obtain ⟨o', q'⟩ := i.base.there a o q (by rw [nx]; simp)
    have q2 := gr a o' q' l.frm
    rw [l.fly.2.1] at q2
    cases q2
/-- what comes to the try -/
theorem air_lands {W : WX} {xe : Value → Shared → Prop} {u : Value} {s1 : Shared} (ok : X.Ok) (st : X.stack = X.env :: X.outer) (fr : X.env.frame = some X.env.locals) (air : XE (X.tr (X.pn ++ pins) xe) W u s1) :
    ∃ a σ H cls d G, u = .ref a ∧ W cls d σ H ∧ ∀ {Q : Unit → Shared → Prop} {E1 : Value → Shared → Prop}, (∀ h, Lands X pins σ H G a (Zc cls d) { s1 with heap := h } → Q () { s1 with heap := h }) →
      wpAny (model X.prog X.w) X.A (noteFrame u X.env) (fun _ s2 => wpAny (model X.prog X.w) X.A (setFlight u none) Q E1 s2) E1 s1 := by
  obtain ⟨a, G, sG, pins', σ, H, cls, d, eu, i', gr, up, sky, na, os, ag, w⟩ := air
  have i : Inv X pins σ H sG := i'.ofTry ok
  have frames : X.A.frames = some (X.env :: X.outer) := by rw [ok.frames, st]
  refine ⟨a, σ, H, cls, d, G, eu, w, fun {Q E1} k => ?_⟩
  rw [eu]
  have sky2 : Sky G (X.env :: X.outer) a (Zc cls d) X.env.locals s1.heap := by rw [← st]; exact sky
  exact Sky.land Zc.steady frames fr sky2 fun h fly up2 => k h ⟨⟨sG, i, gr, up.trans up2, os, ag⟩, by rw [st]; exact fly, na⟩
theorem Lands.again {M : Model} {A : Around} {Q : Unit → Shared → Prop} {E1 : Value → Shared → Prop} (l : Lands X pins σ H G a Z s) (k : ∀ h, Lands X pins σ H G a Z { s with heap := h } → Q () { s with heap := h }) : wpAny M A (setFlight (.ref a) none) Q E1 s := by
  obtain ⟨sG, i, gr, up, os, ag⟩ := l.src
  exact HandSPX.lands_againZ l.fly fun h fly up2 => k h ⟨⟨sG, i, gr, up.trans up2, os, ag⟩, fly, l.fre⟩
/-- the object is tracked from now on -/
theorem keep_caught {C : Addr} {d : Option Addr} {o : Obj} {vs : Array Value} (i : Inv X pins σ H s) (q : s.heap.get? a = some o) (z : Zc (.ref C) d o) (dt : o.data = .fields vs) (fre : H a = none) (nl : a ≠ X.env.locals) (n0 : X.s_0.heap.get? a = none) (np : ∀ p ∈ X.pn ++ pins, p.1 ≠ a) :
    Inv X pins σ (upd H a (Caught C d a)) s := by
  have other : ∀ {b : Addr} {u : HO}, H b = some u → b ≠ a := fun e => ne_of_none e fre
  have lowb : ∀ {b : Addr} {o' : Obj}, X.s_0.heap.get? b = some o' → b ≠ a := fun e y => by rw [y, n0] at e; cases e
  refine ⟨i.ok, i.os, i.bare, ⟨i.base.keep, i.base.slot, fun b o' e n nx => ?_, i.base.there, fun b xs e => ?_, fun b o' u e => ?_, fun b ps e => ?_⟩, i.loc, i.cell, ?_, fun x c e => ?_, fun p hp => ?_, ?_, i.len⟩
  · rw [upd_ne (lowb e)]
    exact i.base.free b o' e n nx
  · have t := i.base.tups b xs e
    rw [upd_ne (other t)]
    exact t
  · have t := i.base.frzs b o' u e
    rw [upd_ne (other t)]
    exact t
  · obtain ⟨more, t⟩ := i.base.tbls b ps e
    exact ⟨more, by rw [upd_ne (other t)]; exact t⟩
  · rw [upd_ne (Ne.symm nl)]
    exact i.free
  · have ca : c ≠ a := fun y => by
      obtain ⟨v, cell⟩ := i.cell x c e
      obtain ⟨oc, e1, e2⟩ := cell
      rw [y, q] at e1
      cases e1
      rw [dt] at e2
      cases e2
    rw [upd_ne ca]
    exact i.freeC x c e
  · obtain ⟨p1, p2, p3, p4, p5⟩ := i.pin p hp
    exact ⟨p1, by rw [upd_ne (np p hp)]; exact p2, p3, p4, p5⟩
  · exact HOk.laidN i.hok (fun _ _ e => e) fre ⟨⟨o, vs, q, z, dt⟩, ⟨o, q⟩, fun h1 h2 ⟨o1, v1, e1, e2, e3⟩ m => ⟨o1, v1, m o1 e1, e2, e3⟩⟩
end
/-- what the clause 'except x as n: kept = n' wishes of an error of the body -/
def wKept (K : PySem.W.Frag) (c : Value) (i : Nat) (ts : Addr → TS) (D : Ends) : WX := fun cls d σ H => ∃ C, cls = .ref C ∧ PySem.W.exmOne K (.ref C) c = some true ∧ ∀ a, H a = none →
  ts a { nx := fun σ' H' => H' a = none → D.nx (σ'.set i none) (upd H' a (Caught C d a)), rt := fun _ _ => False, bk := fun _ _ => False, ct := fun _ _ => False } (σ.set i (some (.ref a))) H
section
variable {X : Cx} {x n : Str} {c : Value} {i : Nat} {body suite : List Stmt} {b0 : Stmt} {np pos pos' : Pos} {tb : WX → TS} {ts : Addr → TS}
theorem ps_try_kept (st : X.stack = X.env :: X.outer) (fr : X.env.frame = some X.env.locals) (nex : X.ex = []) (nd : X.N.Nodup) (hi : X.N[i]? = some n) (kn : X.env.kindOf n = some .local) (cl : Names X x c)
    (hb : ∀ (W : WX) (pn : List (Addr × Obj)) (xe : Value → Shared → Prop), Takes (X.tr pn xe) W → PSs (X.tr pn xe) body (tb W))
    (hsu : ∀ (a : Addr) (pn : List (Addr × Obj)), PSs (X.suite a pn) (b0 :: suite) (ts a)) :
    PS X (.Try body [.ExceptHandler (some (.Name x np)) (some n) (b0 :: suite) pos'] [] [] pos) (fun D σ H => tb (wKept X.K c i ts D) D σ H) := by
  refine ⟨fun pins s σ H D inv rd => wpAny_Try_except ?_⟩
  have ok := inv.ok
  have run := (hb (wKept X.K c i ts D) (X.pn ++ pins) (fun e s1 => wpAny (model X.prog X.w) X.A (noteFrame e X.env) (fun _ s2 => wpAny (model X.prog X.w) X.A (setFlight e none) (fun _ s3 =>
    wpAny (model X.prog X.w) X.A (handleBy e X.env [.ExceptHandler (some (.Name x np)) (some n) (b0 :: suite) pos']) (SP X pins D) X.xe s3) X.xe s2) X.xe s1) (fun u s1 air => ?_)).run [] s σ H D (inv.toTry _) rd
  refine wpAny_mono run (fun f s1 post => ?_) (fun _ _ air => air)
  rotate_left
  · obtain ⟨a, σ1, H1, cls, d, G, rfl, ⟨C, rfl, match_, go⟩, land⟩ := air_lands ok st fr air
    refine land fun h1 l1 => ?_
    obtain ⟨nl, nf⟩ := l1.nin st fr
    obtain ⟨o1, v1, at1, z1, dt1⟩ := l1.fly.there
    have inS := l1.inv.suite at1 dt1 l1.fre nl nf
    have tyA : PySem.W.Looks (model X.prog X.w) h1 (typeOf (.ref a)) (.ref C) := fun A Q E s2 k q => wpAny_typeOf_ref (k _ _ at1) (by rw [z1.1]; exact q)
    have hit := PySem.W.exm_one (M := model X.prog X.w) l1.inv.kIn tyA match_
    have named : ∀ {Q : Value → Shared → Prop} {E : Value → Shared → Prop}, Q c { s1 with heap := h1 } → wpAny (model X.prog X.w) (X.A.mark (some (.ref a))) (eval (.Name x np) X.env) Q E { s1 with heap := h1 } := by
      intro Q E q
      obtain ⟨g1, g2, g3⟩ := cl
      rcases g3 with g3 | ⟨g3, g4, g5⟩
      · exact ld_glob (X := X.suite a ((a, o1) :: (X.pn ++ pins))) inS g1 g3 q g2
      · exact ld_blt (X := X.suite a ((a, o1) :: (X.pn ++ pins))) inS g1 g3 g4 q g5 g2
    refine wpAny_handleBy_cons (codeAny_handlers_test (named (hit.here (codeAny_handlers_suite_as (l1.again fun h2 l2 => ?_))))) (fun z => by cases z)
    obtain ⟨o2, v2, at2, z2, dt2⟩ := l2.fly.there
    have inS2 := l2.inv.suite at2 dt2 l2.fre nl nf
    have pinsNe : ∀ p ∈ X.pn ++ pins, p.1 ≠ a := fun p hp => l2.new (o := p.2) fun t it => (it.pin p hp).1
    have n0 := l2.old nex
    refine store_ok (X := X.suite a ((a, o2) :: (X.pn ++ pins))) (v := .ref a) inS2 nd hi (.inl kn) rfl (fun s5 inS5 => ?_) (.inr kn)
    refine wpAny_mono ((hsu a ((a, o2) :: (X.pn ++ pins))).run [] s5 _ H1 _ inS5 (go a l2.fre)) (fun f s6 post => ?_) (fun _ _ z => z.elim)
    cases f with
    | next =>
      obtain ⟨σ6, H6, inS6, q6⟩ := post
      obtain ⟨at6, fre6, _⟩ := inS6.pin (a, o2) (List.mem_append_left _ List.mem_cons_self)
      exact gone_ok (keep_caught (inS6.unsuite ok) at6 z2 dt2 fre6 nl n0 pinsNe) nd hi kn fun s7 i7 => ⟨_, _, i7, q6 fre6⟩
    | brk =>
      obtain ⟨_, _, _, z⟩ := post
      exact z.elim
    | cont =>
      obtain ⟨_, _, _, z⟩ := post
      exact z.elim
    | ret u =>
      obtain ⟨_, _, _, _, _, z⟩ := post
      exact z.elim
  · cases f with
    | next =>
      obtain ⟨σ1, H1, i1, q⟩ := post
      exact wpAny_execs_nil ⟨σ1, H1, i1.ofTry ok, q⟩
    | brk =>
      obtain ⟨σ1, H1, i1, q⟩ := post
      exact ⟨σ1, H1, i1.ofTry ok, q⟩
    | cont =>
      obtain ⟨σ1, H1, i1, q⟩ := post
      exact ⟨σ1, H1, i1.ofTry ok, q⟩
    | ret u =>
      obtain ⟨v, σ1, H1, i1, r, q⟩ := post
      exact ⟨v, σ1, H1, i1.ofTry ok, r, q⟩
end
end DL
/-! errors as data: one account of a def for all classes of errors -/
namespace DL
open PySem PySem.Spec PyProof.Rows L2
theorem PS.nox' {X : Cx} {st : Stmt} {t : TS} (h : PS X.nox st t) : PS X st t := ⟨fun pins s σ H D I hw =>
  wpAny_mono (h.run pins s σ H D (I.wish _) hw) (fun _ _ q => q.unwish) fun _ _ z => False.elim z⟩
theorem pss_or {X : Cx} {s : List Stmt} {t u : TS} (h : PSs X s t) (q : PSs X s u) : PSs X s (fun D σ H => t D σ H ∨ u D σ H) :=
  ⟨fun pins s0 σ H D I z => z.elim (h.run pins s0 σ H D I) (q.run pins s0 σ H D I)⟩
/-- an error that flies, and what it is as data -/
inductive ExcAt (K : PySem.W.Frag) (B : Bk) (H : Hp) : Value → Option Addr → PyData → Prop
  | bare {C : Addr} {c : Str} : PySem.W.nsIn K mainGlobals c = some (some (.ref C)) → ExcAt K B H (.ref C) none (.dict [(.str c, .none)])
  | fld {C dd : Addr} {c f : Str} {v : V} {p : PyData} : PySem.W.nsIn K mainGlobals c = some (some (.ref C)) → H dd = some (.xd [(f, v)]) → ¬ B dd → Rp K (hid B H) v p → ExcAt K B H (.ref C) (some dd) (.dict [(.str c, .none), (.str f, p)])
theorem ExcAt.sub {K : PySem.W.Frag} {B B' : Bk} {H : Hp} {cls : Value} {d : Option Addr} {e : PyData} (h : ∀ b, B b → B' b) (x : ExcAt K B' H cls d e) : ExcAt K B H cls d e := by
  cases x with
  | bare n => exact .bare n
  | fld n q nb rp => exact .fld n q (fun z => nb (h _ z)) (rp.mono (hid_sub h))
/-- what raises: the error, the slots at the place -/
abbrev XFn := Rho → Option (PyData × Rho)
def Sx (K : PySem.W.Frag) (t : WX → TS) (g : XFn) : Prop := ∀ (E : En) (B : Bk) (σ : L2.St) (H : Hp) (ρ : Rho) (e : PyData) (ρ' : Rho) (W : WX) (D : Ends), J K E B σ H ρ → g ρ = some (e, ρ') →
  (∀ B' σ' H' cls d, J K E B' σ' H' ρ' → Ext B H B' H' → ExcAt K B' H' cls d e → W cls d σ' H') → t W D σ H
structure SxD (X : Cx) (s : Stmt) (g : XFn) : Prop where
  run : ∃ t : WX → TS, (∀ W, Takes X W → PS X s (t W)) ∧ Sx X.K t g
structure SxsD (X : Cx) (s : List Stmt) (g : XFn) : Prop where
  run : ∃ t : WX → TS, (∀ W, Takes X W → PSs X s (t W)) ∧ Sx X.K t g
section
variable {X : Cx} {s : Stmt} {r : List Stmt} {g h : XFn} {pos : Pos}
def xNo : XFn := fun _ => none
theorem xs_no : SxsD X r xNo := ⟨fun _ => tNever, fun _ _ => pss_never, fun _ _ _ _ _ _ _ _ _ _ e _ => by cases e⟩
theorem xs_head (hs : SxD X s g) : SxsD X (s :: r) g := by
  obtain ⟨t, p, d⟩ := hs.run
  exact ⟨fun W => tSeq (t W) tNever, fun W tk => pss_cons (p W tk) pss_never, fun E B σ H ρ q ρ' W D j e k => d E B σ H ρ q ρ' W _ j e k⟩
def xNext (g : SF) (h : XFn) : XFn := fun ρ => (g ρ).bind fun oc => match oc with
  | .nx ρ' => h ρ'
  | _ => none
theorem xs_next {fr : Bool} {g : SF} (hs : SD X.nox fr s g) (hr : SxsD X r h) : SxsD X (s :: r) (xNext g h) := by
  obtain ⟨t, p, d⟩ := hs.run
  obtain ⟨u, p2, d2⟩ := hr.run
  refine ⟨fun W => tSeq t (u W), fun W tk => pss_cons (PS.nox' p) (p2 W tk), ?_⟩
  intro E B σ H ρ q ρ' W D j e k
  simp only [xNext, Option.bind_eq_some_iff] at e
  obtain ⟨oc, e1, e2⟩ := e
  cases oc with
  | nx ρ1 => exact d E B σ H ρ _ _ j e1 fun B1 σ1 H1 j1 x1 => d2 E B1 σ1 H1 ρ1 q ρ' W D j1 e2 fun B2 σ2 H2 cls dd j2 x2 y => k B2 σ2 H2 cls dd j2 (x1.trans x2) y
  | _ => cases e2
/-- either raises; the first first -/
def xOr (a b : XFn) : XFn := fun ρ => match a ρ with
  | some p => some p
  | none => b ρ
theorem xs_or (ha : SxsD X r g) (hb : SxsD X r h) : SxsD X r (xOr g h) := by
  obtain ⟨t, p, d⟩ := ha.run
  obtain ⟨u, p2, d2⟩ := hb.run
  refine ⟨fun W D σ H => t W D σ H ∨ u W D σ H, fun W tk => pss_or (p W tk) (p2 W tk), ?_⟩
  intro E B σ H ρ q ρ' W D j e k
  unfold xOr at e
  split at e
  · rename_i e1
    cases e
    exact .inl (d E B σ H ρ q ρ' W D j e1 k)
  · exact .inr (d2 E B σ H ρ q ρ' W D j e k)
def xIf (c : BF) (g : XFn) (h : XFn) : XFn := fun ρ => (c ρ).bind fun p => if p.1 = true then g p.2 else h p.2
theorem x_if {c : Expr} {a b : List Stmt} {gc : BF} (hc : PB X c gc) (ha : SxsD X a g) (hb : SxsD X b h) : SxD X (.If c a b pos) (xIf gc g h) := by
  obtain ⟨tc, p1, d1⟩ := hc.run
  obtain ⟨t, p2, d2⟩ := ha.run
  obtain ⟨u, p3, d3⟩ := hb.run
  refine ⟨fun W => tIfS tc (t W) (u W), fun W tk => ps_if p1 (p2 W tk) (p3 W tk), ?_⟩
  intro E B σ H ρ q ρ' W D j e k
  simp only [xIf, Option.bind_eq_some_iff] at e
  obtain ⟨⟨b, ρ1⟩, e1, e2⟩ := e
  refine d1 E B σ H ρ b ρ1 _ j e1 fun H1 j1 x1 s1 => ?_
  split at e2
  · rename_i hb
    rw [if_pos hb]
    exact d2 E B σ H1 ρ1 q ρ' W D j1 e2 fun B2 σ2 H2 cls dd j2 x2 y => k B2 σ2 H2 cls dd j2 (x1.trans x2) y
  · rename_i hb
    rw [if_neg hb]
    exact d3 E B σ H1 ρ1 q ρ' W D j1 e2 fun B2 σ2 H2 cls dd j2 x2 y => k B2 σ2 H2 cls dd j2 (x1.trans x2) y
/-- raise X(e) -/
def xRaise (c f : Str) (g : EF) : XFn := fun ρ => (g ρ).bind fun p => match p.1 with
  | .d d => some (.dict [(.str c, .none), (.str f, d)], p.2)
  | .s _ => none
theorem x_raise {C : Addr} {c f : Str} {call : Expr} {g : EF} (hc : X.calm = true) (aC : PySem.W.nsIn X.K mainGlobals c = some (some (.ref C)))
    (hm : ∃ te, Sd X.K te g ∧ PMk X call (fun σ H Q => tCons te tNil σ H fun vs H1 => ∃ v, vs = [v] ∧ ∀ d, H1 d = none → Q (.ref C) (some d) (upd H1 d (.xd [(f, v)])))) : SxD X (.Raise (some call) none pos) (xRaise c f g) := by
  obtain ⟨te, d, p⟩ := hm
  refine ⟨fun W => fun _ σ H => tCons te tNil σ H fun vs H1 => ∃ v, vs = [v] ∧ ∀ d, H1 d = none → W (.ref C) (some d) σ (upd H1 d (.xd [(f, v)])), fun W tk => ps_raise hc tk p, ?_⟩
  intro E B σ H ρ q ρ' W D j e k
  simp only [xRaise, Option.bind_eq_some_iff] at e
  obtain ⟨⟨a, ρ1⟩, e1, e2⟩ := e
  cases a with
  | s i => cases e2
  | d d' =>
    cases e2
    refine d E B σ H ρ _ ρ1 _ j e1 fun v H1 j1 x1 s1 o1 => ⟨v, rfl, fun dd hd => ?_⟩
    have nb : ¬ B dd := fun z => j1.bt dd z hd
    exact k B σ _ _ _ (j1.grow (same_new hd)) (x1.trans (Ext.grow (same_new hd))) (.fld aC upd_same nb (Rp.ext (Ext.grow (same_new hd)) o1))
/-- X(), X an own class of errors without an own __init__ -/
theorem pmk_own0 {C : Addr} {bmB : List Value} {B newId initId : String} {x : Str} {p : Pos} (F : ExcBaseFacts B newId initId bmB) (q : PySem.W.excIn X.K C bmB newId = true) (gC : X.mg x = some (.ref C)) (kC : PySem.W.keepIn X.K (.ref C) = true) (r : Raises X (.ref C)) (hg : Gl X x)
    (hdb : (x == ("__debug__" : Str)) = false := by decide) : PMk X (.Call (.Name x p) [] [] pos) (fun _ H Q => Q (.ref C) none H) := by
  intro pins s σ H Q I h
  refine wpAny_Call_Name_kw (ld_glob I hg gC ?_ hdb)
  refine PySem.W.callWith_K0 (K := X.K) I.kIn kC ?_
  show wpAny _ _ (call (.ref C) []) _ _ _
  obtain ⟨bm, N, nm, qn, bs, hdct, sn, sub, ab, col, dd, k0, k1, k2, k3, k5, mN, hC, hN, hni, T⟩ := exc_obj I.kIn q
  refine wpAny_call_exc_subT F T hC hN hni (fun h' e hm => ?_) (Nat.zero_le _)
  exact mk_of I hm r h (I.hok.gone hm.new)
def xRaise0 (c : Str) : XFn := fun ρ => some (.dict [(.str c, .none)], ρ)
theorem x_raise0 {C : Addr} {c : Str} {call : Expr} (hc : X.calm = true) (aC : PySem.W.nsIn X.K mainGlobals c = some (some (.ref C))) (hm : PMk X call (fun _ H Q => Q (.ref C) none H)) : SxD X (.Raise (some call) none pos) (xRaise0 c) := by
  refine ⟨fun W => fun _ σ H => W (.ref C) none σ H, fun W tk => ps_raise hc tk hm, ?_⟩
  intro E B σ H ρ q ρ' W D j e k
  cases e
  exact k B σ H _ _ j Ext.refl (.bare aC)
/-! ### a loop that raises in a turn -/
def xGo (t : TGf) (gx : XFn) (b : SF) : List PyData → XFn
  | [], _ => none
  | d :: ds, ρ => (t d ρ).bind fun ρ1 => match gx ρ1 with
    | some p => some p
    | none => (b ρ1).bind fun o => match o with
      | .nx ρ2 => xGo t gx b ds ρ2
      | .ct ρ2 => xGo t gx b ds ρ2
      | _ => none
def xFor (i : IFn) (t : TGf) (gx : XFn) (b : SF) : XFn := fun ρ => (i ρ).bind fun p => xGo t gx b p.1 p.2
theorem sx_for {K : PySem.W.Frag} {fr : Bool} {wi : TI} {tg : TG} {tx : WX → TS} {tb : TS} {i : IFn} {t : TGf} {ts : List Nat} {gx : XFn} {b : SF} (h1 : Si K wi i) (h2 : Sg K tg t ts) (hx : Sx K tx gx) (h3 : Ss K fr tb b) :
    Sx K (fun W => tFor wi tg (fun D σ H => tx W D σ H ∨ tb D σ H)) (xFor i t gx b) := by
  intro E B σ H ρ q ρ' W D j e k
  simp only [xFor, Option.bind_eq_some_iff] at e
  obtain ⟨⟨ds, ρ1⟩, e1, e2⟩ := e
  refine h1 E B σ H ρ ds ρ1 _ j e1 fun Jt H1 j1 x1 s1 wk => ?_
  refine ⟨fun i m σ' H' => ∃ B' ρ2, J K E B' σ' H' ρ2 ∧ Ext B H1 B' H' ∧ i ≤ ds.length ∧ m = ds.length - i ∧ xGo t gx b (ds.drop i) ρ2 = some (q, ρ'), ⟨_, B, ρ1, j1, Ext.refl, Nat.zero_le _, rfl, e2⟩, ?_⟩
  rintro i m σ' H' ⟨B', ρ2, j', x', hi, rfl, go⟩
  obtain ⟨turn, stop⟩ := wk B' H' x' j'.bt
  by_cases hlt : i < ds.length
  · have ed : ds[i]? = some ds[i] := List.getElem?_eq_getElem hlt
    obtain ⟨hgo, yl⟩ := turn i _ ed
    rw [List.drop_eq_getElem_cons hlt] at go
    simp only [xGo, Option.bind_eq_some_iff] at go
    obtain ⟨ρ3, g1, g2⟩ := go
    refine .inr ⟨hgo, fun σ3 H3 => ∃ B3 ρ3, J K E B3 σ3 H3 ρ3 ∧ Ext B H1 B3 H3 ∧ xGo t gx b (ds.drop (i + 1)) ρ3 = some (q, ρ'), ?_, fun x H2 y => ?_⟩
    · rintro σ3 H3 ⟨B3, ρ3, j3, x3, g⟩
      exact ⟨ds.length - (i + 1), by omega, B3, ρ3, j3, x3, hlt, rfl, g⟩
    · obtain ⟨sm, rp⟩ := yl x H2 y
      refine h2 E B' σ' H2 ρ2 x _ ρ3 _ (j'.grow sm) rp g1 fun σ4 j4 _ _ => ?_
      have x4 : Ext B H1 B' H2 := x'.trans (Ext.grow sm)
      split at g2
      · rename_i eg
        cases g2
        exact .inl (hx E B' σ4 H2 ρ3 q ρ' W _ j4 eg fun B5 σ5 H5 cls dd j5 x5 y => k B5 σ5 H5 cls dd j5 ((x1.trans x4).trans x5) y)
      · simp only [Option.bind_eq_some_iff] at g2
        obtain ⟨o, g2, g3⟩ := g2
        refine .inr (h3 E B' σ4 H2 ρ3 o _ j4 g2 ?_)
        cases o with
        | nx ρ5 => exact fun B5 σ5 H5 j5 x5 => ⟨B5, ρ5, j5, x4.trans x5, g3⟩
        | ct ρ5 => exact fun B5 σ5 H5 j5 x5 => ⟨B5, ρ5, j5, x4.trans x5, g3⟩
        | bk ρ5 => cases g3
        | rt d ρ5 => cases g3
  · have e : i = ds.length := by omega
    subst e
    rw [List.drop_eq_nil_of_le (Nat.le_refl _)] at go
    cases go
theorem x_for {fr : Bool} {tg iter : Expr} {body : List Stmt} {i : IFn} {t : TGf} {ts : List Nat} {gx : XFn} {b : SF} (hp : PassesOwn (model X.prog X.w) X.A X.env X.xe) (hc : X.calm = true) (hi : ID X tg iter i) (hg : GD X tg t ts) (hx : SxsD X body gx) (hb : SsD X.nox fr body b)
    (hs : ∀ x, foldedSetIterable iter X.env x = pure x := by intro _; rfl) : SxD X (.For tg iter body [] pos) (xFor i t gx b) := by
  obtain ⟨ti, p1, d1⟩ := hi.run
  obtain ⟨tg', p2, d2⟩ := hg.run
  obtain ⟨tx, p3, d3⟩ := hx.run
  obtain ⟨tb, p4, d4⟩ := hb.run
  exact ⟨fun W => tFor ti tg' (fun D σ H => tx W D σ H ∨ tb D σ H), fun W tk => ps_for hp hc p1 p2 (pss_or (p3 W tk) p4.nox) hs, sx_for d1 d2 d3 d4⟩
end
def vOnly : Rho → Bool
  | [] => true
  | .l _ _ :: _ => false
  | _ :: r => vOnly r
theorem vOnly_at : ∀ {as : Rho} {i : Nat} {k : Bool} {ds : List PyData}, vOnly as = true → as[i]? ≠ some (.l k ds)
  | [], _, _, _, _ => by simp
  | .l _ _ :: _, _, _, _, h => by cases h
  | .v _ :: r, 0, _, _, _ => by simp
  | .w _ :: r, 0, _, _, _ => by simp
  | .un :: r, 0, _, _, _ => by simp
  | .v _ :: r, i + 1, _, _, h => by simpa using vOnly_at (as := r) (i := i) h
  | .w _ :: r, i + 1, _, _, h => by simpa using vOnly_at (as := r) (i := i) h
  | .un :: r, i + 1, _, _, h => by simpa using vOnly_at (as := r) (i := i) h
/-- the promise of a def that raises -/
def spX (K : PySem.W.Frag) (n : Nat) (F : XFn) : Sp := fun vs H _ E => ∃ B as e ρ', vs.length = n ∧ ArgIn K B H vs as ∧ vOnly as = true ∧ F as = some (e, ρ') ∧
  ∀ cls d H', Same H H' → ExcAt K B H' cls d e → E cls d H'
def runX (n m : Nat) (g : XFn) : XFn := fun as => g (as ++ List.replicate (m - n) .un)
section
variable {P : Program} {w : World} {K : PySem.W.Frag} {mg : Str → Option Value} {base : Heap}
theorem fn_ruleX {x qual : Str} {st : Stmt} {f : Addr} {fd : FuncData} {N ps : List Str} {k n : Nat} {g : XFn} (F : Fun K x qual st f fd) (S : FnScope N ps (defScope st)) (hn : ps.length = n) (hN : n ≤ N.length)
    (body : ∀ (cdv : Value) (A : Around) (outer : List Env) (s : Shared) (H : Hp) (E : XK), Room k (A.deeper (envOfC qual (defScope st) s.heap.objs.size f cdv)) → SxsD (cxOf (L2.CX P w) P w K mg base N qual (defScope st) f cdv A outer s H E) (defBody st) g) :
    FnOk P w K mg base (L2.CX P w) (k + 1) f fd ps (spX K n (runX n N.length g)) := by
  refine F.okX S (fun vs H Q E h => ?_) (fun cdv A outer s H vs Q E hr h => ?_)
  · obtain ⟨B, as, p, ρ', h1, _⟩ := h
    rw [h1, hn]
  · obtain ⟨B, as, e, ρ', h1, h2, h3, h4, h5⟩ := h
    obtain ⟨t, p1, d1⟩ := (body cdv A outer s H E hr).run
    refine ⟨t fun cls d _ H => E cls d H, p1 _ (takes_of rfl rfl rfl rfl), ?_⟩
    have j := J.start (N := N) h2 (by rw [h1]; exact hN)
    rw [h1] at j
    refine d1 _ B _ H _ e ρ' _ _ j h4 fun B1 σ1 H1 cls d j1 x1 y => ?_
    exact h5 cls d H1 (fun b o q => j1.keep b o (fun ⟨i, k, ds, e1, _⟩ => vOnly_at h3 e1) q) (y.sub j1.b0)
theorem fn_ruleXD {x qual : Str} {st : Stmt} {f : Addr} {fd : FuncData} {N ps : List Str} {k n : Nat} {g : XFn} {dvs : List V} {kws : List (Str × V)} (F : FunD K x qual (defArgs st) (defBody st) (defScope st) dvs kws f fd) (S : FnScope N ps (defScope st)) (hn : ps.length = n) (hN : n ≤ N.length)
    (body : ∀ (cdv : Value) (A : Around) (outer : List Env) (s : Shared) (H : Hp) (E : XK), Room k (A.deeper (envOfC qual (defScope st) s.heap.objs.size f cdv)) → SxsD (cxOf (L2.CX P w) P w K mg base N qual (defScope st) f cdv A outer s H E) (defBody st) g) :
    FnOk P w K mg base (L2.CX P w) (k + 1) f fd ps (spX K n (runX n N.length g)) := by
  refine F.ok S (fun vs H Q E h => ?_) (fun cdv A outer s H vs Q E hr h => ?_)
  · obtain ⟨B, as, p, ρ', h1, _⟩ := h
    rw [h1, hn]
  · obtain ⟨B, as, e, ρ', h1, h2, h3, h4, h5⟩ := h
    obtain ⟨t, p1, d1⟩ := (body cdv A outer s H E hr).run
    refine ⟨t fun cls d _ H => E cls d H, p1 _ (takes_of rfl rfl rfl rfl), ?_⟩
    have j := J.start (N := N) h2 (by rw [h1]; exact hN)
    rw [h1] at j
    refine d1 _ B _ H _ e ρ' _ _ j h4 fun B1 σ1 H1 cls d j1 x1 y => ?_
    exact h5 cls d H1 (fun b o q => j1.keep b o (fun ⟨i, k, ds, e1, _⟩ => vOnly_at h3 e1) q) (y.sub j1.b0)
end
/-! ### a call of such a def -/
def xCall (F : XFn) (g : AF) : XFn := fun ρ => (g ρ).bind fun p => (toSls p.2 p.1).bind fun as => if (slotsOf p.1).Nodup ∧ vOnly as = true then (F as).map fun q => (q.1, p.2) else none
def xCallK (F : XFn) (gA : List Ar → List Ar → List Ar) (g gk : AF) : XFn := fun ρ => (g ρ).bind fun p => (gk p.2).bind fun p2 => (toSls p2.2 (gA p.1 p2.1)).bind fun as => if (slotsOf (gA p.1 p2.1)).Nodup ∧ vOnly as = true then (F as).map fun q => (q.1, p2.2) else none
/-- an expression that raises -/
def Sxe (K : PySem.W.Frag) (t : WX → TE) (g : XFn) : Prop := ∀ (E : En) (B : Bk) (σ : L2.St) (H : Hp) (ρ : Rho) (e : PyData) (ρ' : Rho) (W : WX) (Q : VK), J K E B σ H ρ → g ρ = some (e, ρ') →
  (∀ B' σ' H' cls d, J K E B' σ' H' ρ' → Ext B H B' H' → ExcAt K B' H' cls d e → W cls d σ' H') → t W σ H Q
structure XeD (X : Cx) (e : Expr) (g : XFn) : Prop where
  run : ∃ t : WX → TE, (∀ W, Takes X W → PE X e (t W)) ∧ Sxe X.K t g
theorem sxe_call {K : PySem.W.Frag} {ta : TA} {n : Nat} {F : XFn} {g : AF} (h : Sa K ta g) (hn : ∀ ρ as ρ', g ρ = some (as, ρ') → as.length = n) : Sxe K (fun W => tCallS (spX K n F) (WE W) ta) (xCall F g) := by
  intro E B σ H ρ q ρ' W Q j e k
  simp only [xCall, Option.bind_eq_some_iff] at e
  obtain ⟨⟨ars, ρ1⟩, e1, as, e2, e3⟩ := e
  split at e3
  · rename_i hv
    obtain ⟨⟨q', ρ2⟩, e4, e5⟩ := Option.map_eq_some_iff.mp e3
    cases e5
    refine h E B σ H ρ ars ρ1 _ j e1 fun vs H1 j1 x1 s1 o1 => ?_
    refine ⟨B, as, q', ρ2, ?_, j1.argIn o1 e2 hv.1, hv.2, e4, fun cls d H2 same y => ?_⟩
    · rw [ars_len o1]; exact hn _ _ _ e1
    · exact k B σ H2 cls d (j1.grow same) (x1.trans (Ext.grow same)) y
  · cases e3
section
variable {X : Cx} {k n m : Nat} {f : Addr} {fd : FuncData} {ps ks : List Str} {F : XFn} {x : Str} {p pos pos2 : Pos} {e : Expr} {es : List Expr} {g gk : AF} {kws : List Keyword}
theorem xe_call (G : FnOk X.prog X.w X.K X.mg X.base (L2.CX X.prog X.w) k f fd ps (spX X.K n F)) (hr : Room k X.A) (hg : Gl X x) (hm : X.mg x = some (.ref f)) (hk : PySem.W.keepIn X.K (.ref f) = true) (hb : Binds X.K fd ps [])
    (ha : PAD X (e :: es) g) (hn : ∀ ρ as ρ', g ρ = some (as, ρ') → as.length = n) (hdb : (x == ("__debug__" : Str)) = false := by decide) (he : starEach (e :: es) X.env = (false, eval e X.env) :: starEach es X.env := by rfl) (hpl : (backTo pos (starEach es X.env)).any (·.1) = false := by rfl) :
    XeD X (.Call (.Name x p) (e :: es) [] pos) (xCall F g) := by
  obtain ⟨ta, p1, d1⟩ := ha.run
  exact ⟨_, fun W tk => pe_callS G hr hg hm hk hb (fun σ => passAt tk σ) p1 hdb he hpl, sxe_call d1 hn⟩
theorem x_expr {c : Expr} {gx : XFn} (h : XeD X c gx) (hs : swapsWith c none pos2.line X.env = pure false := by rfl) : SxD X (.Expr c pos2) gx := by
  obtain ⟨t, p, d⟩ := h.run
  exact ⟨fun W => tDrop (t W), fun W tk => ps_expr (p W tk) hs, fun E B σ H ρ q ρ' W D j e k => d E B σ H ρ q ρ' W _ j e k⟩
theorem run_fnkS {CX : CXT} {sp : Sp} {E : L2.St → XK} {gl : List Value → List Value → List Value} {gV : List V → List V → List V} {pins : List (Addr × Obj)} {σ : L2.St} {H : Hp} {s : Shared} {Q : VK} {us ws : List Value} {vs zs : List V} (F : FnOk X.prog X.w X.K X.mg X.base CX k f fd ps sp) (hr : Room k X.A) (hb : KBinds X.K fd ps ks gl gV) (hx : PassesAt CX X σ (E σ))
    (I : Inv X pins σ H s) (r : Vals vs us) (rz : Vals zs ws) (h : sp (gV vs zs) H Q (E σ)) : wpAny (model X.prog X.w) X.A (call (.ref f) us (ks.zip ws)) (EP X pins σ Q) X.xe s := by
  have r2 := hb.rel r rz
  have hl : (gl us ws).length = ps.length := by rw [← r2.length]; exact F.len _ _ _ _ h
  refine wpAny_call (codeAny_mono (F.run X.A X.stack s H ⟨us, ks.zip ws⟩ (gl us ws) (gV vs zs) Q (E σ) hr I.env0 (hb.to s us ws I.kIn hl) r2 h) fun r s' hq => ?_)
  cases r with
  | error e => exact hx pins H s e s' I hq
  | ok fl =>
    cases fl with
    | ret u => exact I.after hq
    | next => exact False.elim hq
    | brk => exact False.elim hq
    | cont => exact False.elim hq
def tCallKS (sp : Sp) (gV : List V → List V → List V) (E : L2.St → XK) (t tk : TA) : TE := fun σ H Q => t σ H fun vs H1 => tk σ H1 fun zs H2 => sp (gV vs zs) H2 Q (E σ)
theorem pe_callKS {CX : CXT} {sp : Sp} {E : L2.St → XK} {gl : List Value → List Value → List Value} {gV : List V → List V → List V} {t tk : TA} (F : FnOk X.prog X.w X.K X.mg X.base CX k f fd ps sp) (hr : Room k X.A) (hg : Gl X x) (hm : X.mg x = some (.ref f)) (hk : PySem.W.keepIn X.K (.ref f) = true) (hb : KBinds X.K fd ps ks gl gV) (hx : ∀ σ, PassesAt CX X σ (E σ))
    (ha : PA X (e :: es) t) (hkw : PK X kws tk) (hall : (backToKw pos (keywordEach kws X.env)).all (·.1.isSome) = true := by rfl) (hks : (backToKw pos (keywordEach kws X.env)).filterMap (·.1) = ks := by rfl)
    (hdb : (x == ("__debug__" : Str)) = false := by decide) (he : starEach (e :: es) X.env = (false, eval e X.env) :: starEach es X.env := by rfl)
    (hpl : ((backTo pos (starEach (e :: es) X.env)).any (·.1) || (backToKw pos (keywordEach kws X.env)).any (·.1.isNone)) = false := by rfl) :
    PE X (.Call (.Name x p) (e :: es) kws pos) (tCallKS sp gV E t tk) := by
  refine ⟨fun pins s σ H Q I h => ?_⟩
  refine wpAny_Call_Name_kw (ld_glob I hg hm ?_ hdb)
  refine PySem.W.callWith_KW (h₀ := X.base) I.ok.mod.kin hk hall (thn (ha.run pos pins s σ H _ I h) fun us s1 ⟨vs, H1, I1, r, q⟩ => ?_) hpl he
  refine thn (hkw.run pos pins s1 σ H1 _ I1 q) fun ws s2 ⟨zs, H2, I2, rz, q2⟩ => ⟨I2.kIn, ?_⟩
  rw [hks]
  exact run_fnkS F hr hb (hx σ) I2 r rz q2
end
/-! ### try -/
structure TxeD (X : Cx) (e : Expr) (g : XFn) : Prop where
  run : ∃ t : WX → TE, (∀ (pn : List (Addr × Obj)) (xe : Value → Shared → Prop) W, Takes (X.tr pn xe) W → PE (X.tr pn xe) e (t W)) ∧ Sxe X.K t g
/-- a try's body in whatever wishes stand around it -/
structure TxD (X : Cx) (s : List Stmt) (g : XFn) : Prop where
  run : ∃ t : WX → TS, (∀ (pn : List (Addr × Obj)) (xe : Value → Shared → Prop) W, Takes (X.tr pn xe) W → PSs (X.tr pn xe) s (t W)) ∧ Sx X.K t g
structure TaD (X : Cx) (es : List Expr) (g : AF) : Prop where
  run : ∃ t, (∀ (pn : List (Addr × Obj)) (xe : Value → Shared → Prop), PA (X.tr pn xe) es t) ∧ Sa X.K t g
structure TkD (X : Cx) (kws : List Keyword) (g : AF) : Prop where
  run : ∃ t, (∀ (pn : List (Addr × Obj)) (xe : Value → Shared → Prop), PK (X.tr pn xe) kws t) ∧ Sa X.K t g
section
variable {X : Cx}
theorem ta_nil : TaD X [] gNil := by
  obtain ⟨t, p, d⟩ := (da_nil (X := X)).run
  exact ⟨_, fun _ _ => pa_nil, fun E B σ H ρ as ρ' Q j e q => by
    cases e
    exact q [] H j Ext.refl (Shp.refl _) .nil⟩
theorem ta_var (i : Nat) {x : Str} {pos : Pos} {es : List Expr} {r : AF} (hr : TaD X es r) (hN : X.N[i]? = some x := by rfl) (hv : Vis X.env.scope x := by first | exact Or.inl rfl | exact Or.inr (Or.inl rfl) | exact Or.inr (Or.inr rfl)) (hd : (x == ("__debug__" : Str)) = false := by decide)
    (hcd : (x == ("__classdict__" : Str)) = false := by decide) (he : starEach (.Name x pos :: es) X.env = (false, eval (.Name x pos) X.env) :: starEach es X.env := by rfl) : TaD X (.Name x pos :: es) (gCons (gVar i) r) := by
  obtain ⟨t, p, d⟩ := hr.run
  exact ⟨_, fun pn xe => pa_cons (X := X.tr pn xe) (pe_var hN hv hd hcd) (p pn xe) he, sa_cons sd_var d⟩
theorem ta_con {v : V} {c : PyData} {e : Expr} {es : List Expr} {r : AF} (hr : TaD X es r) (hc : ∀ Y : Cx, PE Y e (tC v)) (rp : ∀ (K : PySem.W.Frag) H, Rp K H v c) (he : starEach (e :: es) X.env = (false, eval e X.env) :: starEach es X.env := by rfl) : TaD X (e :: es) (gCons (gC c) r) := by
  obtain ⟨t, p, d⟩ := hr.run
  exact ⟨_, fun pn xe => pa_cons (X := X.tr pn xe) (hc _) (p pn xe) he, sa_cons (sd_c fun H => rp _ H) d⟩
end
/-- the handler's test takes errors of the class at C -/
def Hits (X : Cx) (tst : Expr) (C : Addr) : Prop := ∀ (a : Addr) (pn : List (Addr × Obj)) (σ : L2.St) (H : Hp) (s : Shared) (Q : Bool → Shared → Prop) (E : Value → Shared → Prop), Inv (X.suite a pn) [] σ H s → PySem.W.Looks (model X.prog X.w) s.heap (typeOf (.ref a)) (.ref C) →
  (∀ h', (∀ b o, s.heap.get? b = some o → h'.get? b = some o) → Q true { s with heap := h' }) →
  wpAny (model X.prog X.w) (X.A.mark (some (.ref a))) (eval tst X.env) (fun c s1 => wpAny (model X.prog X.w) (X.A.mark (some (.ref a))) (excMatches (.ref a) c) Q E s1) E s
section
variable {X : Cx} {x x1 x2 x3 : Str} {C C1 C2 C3 : Addr} {np p1 p2 p3 tpos : Pos} {kk : Nat}
theorem hits_name (g : Gl X x) (m : X.mg x = some (.ref C1)) (he : PySem.W.exmOne X.K (.ref C) (.ref C1) = some true) (hd : (x == ("__debug__" : Str)) = false := by decide) : Hits X (.Name x np) C := fun a pn σ H s Q E I LT q =>
  ld_glob (X := X.suite a pn) I g m ((PySem.W.exm_one (M := model X.prog X.w) I.kIn LT he).here (q s.heap fun _ _ z => z)) hd
theorem exmAny2 {K : PySem.W.Frag} {cls c1 c2 : Value} {b1 b2 : Bool} (h1 : PySem.W.exmOne K cls c1 = some b1) (h2 : PySem.W.exmOne K cls c2 = some b2) (h : (b1 || (b2 || false)) = true) : PySem.W.exmAny K cls [c1, c2] = some true := by
  simp only [PySem.W.exmAny, h1, h2, h]
theorem exmAny3 {K : PySem.W.Frag} {cls c1 c2 c3 : Value} {b1 b2 b3 : Bool} (h1 : PySem.W.exmOne K cls c1 = some b1) (h2 : PySem.W.exmOne K cls c2 = some b2) (h3 : PySem.W.exmOne K cls c3 = some b3) (h : (b1 || (b2 || (b3 || false))) = true) : PySem.W.exmAny K cls [c1, c2, c3] = some true := by
  simp only [PySem.W.exmAny, h1, h2, h3, h]
theorem hits_tup2 (g1 : Gl X x1) (m1 : X.mg x1 = some (.ref C1)) (g2 : Gl X x2) (m2 : X.mg x2 = some (.ref C2)) (he : PySem.W.exmAny X.K (.ref C) [.ref C1, .ref C2] = some true)
    (d1 : (x1 == ("__debug__" : Str)) = false := by decide) (d2 : (x2 == ("__debug__" : Str)) = false := by decide)
    (s1 : starEach [.Name x1 p1, .Name x2 p2] X.env = (false, eval (.Name x1 p1) X.env) :: starEach [.Name x2 p2] X.env := by rfl) (s2 : starEach [.Name x2 p2] X.env = (false, eval (.Name x2 p2) X.env) :: starEach [] X.env := by rfl) : Hits X (.Tuple [.Name x1 p1, .Name x2 p2] kk tpos) C := fun a pn σ H s Q E I LT q => by
  refine wpAny_Tuple ?_
  refine wpAny_items_cons (ld_glob (X := X.suite a pn) I g1 m1 ?_ d1) s1
  refine wpAny_items_cons (ld_glob (X := X.suite a pn) I g2 m2 ?_ d2) s2
  refine wpAny_items_nil ⟨by size_fits, ?_⟩
  have kp : ∀ q o, s.heap.get? q = some o → (s.heap.push { cls := .type "tuple", data := .seq [.ref C1, .ref C2].toArray }).get? q = some o := fun _ _ z => Heap.get?_push_of_some _ z
  exact (PySem.W.exm_tup2 (I.kIn.keeps kp) (LT.keeps kp) (Heap.get?_push_size s.heap rfl) he).here (q _ kp)
theorem hits_tup3 (g1 : Gl X x1) (m1 : X.mg x1 = some (.ref C1)) (g2 : Gl X x2) (m2 : X.mg x2 = some (.ref C2)) (g3 : Gl X x3) (m3 : X.mg x3 = some (.ref C3)) (he : PySem.W.exmAny X.K (.ref C) [.ref C1, .ref C2, .ref C3] = some true)
    (d1 : (x1 == ("__debug__" : Str)) = false := by decide) (d2 : (x2 == ("__debug__" : Str)) = false := by decide) (d3 : (x3 == ("__debug__" : Str)) = false := by decide)
    (s1 : starEach [.Name x1 p1, .Name x2 p2, .Name x3 p3] X.env = (false, eval (.Name x1 p1) X.env) :: starEach [.Name x2 p2, .Name x3 p3] X.env := by rfl) (s2 : starEach [.Name x2 p2, .Name x3 p3] X.env = (false, eval (.Name x2 p2) X.env) :: starEach [.Name x3 p3] X.env := by rfl)
    (s3 : starEach [.Name x3 p3] X.env = (false, eval (.Name x3 p3) X.env) :: starEach [] X.env := by rfl) : Hits X (.Tuple [.Name x1 p1, .Name x2 p2, .Name x3 p3] kk tpos) C := fun a pn σ H s Q E I LT q => by
  refine wpAny_Tuple ?_
  refine wpAny_items_cons (ld_glob (X := X.suite a pn) I g1 m1 ?_ d1) s1
  refine wpAny_items_cons (ld_glob (X := X.suite a pn) I g2 m2 ?_ d2) s2
  refine wpAny_items_cons (ld_glob (X := X.suite a pn) I g3 m3 ?_ d3) s3
  refine wpAny_items_nil ⟨by size_fits, ?_⟩
  have kp : ∀ q o, s.heap.get? q = some o → (s.heap.push { cls := .type "tuple", data := .seq [.ref C1, .ref C2, .ref C3].toArray }).get? q = some o := fun _ _ z => Heap.get?_push_of_some _ z
  exact (PySem.W.exm_tup3 (I.kIn.keeps kp) (LT.keeps kp) (Heap.get?_push_size s.heap rfl) he).here (q _ kp)
end
section
variable {X : Cx} {pins : List (Addr × Obj)} {σ : L2.St} {H : Hp} {s : Shared} {a : Addr} {G : Heap} {Z : Obj → Prop}
theorem Lands.keeps (l : Lands X pins σ H G a Z s) {h' : Heap} (k : ∀ b o, s.heap.get? b = some o → h'.get? b = some o) : Lands X pins σ H G a Z { s with heap := h' } := by
  obtain ⟨sG, i, gr, up, os, ag⟩ := l.src
  obtain ⟨f1, f2, f3, f4⟩ := l.fly
  obtain ⟨oe, vs, T, oT, ts, q1, q2, q3, q4, q5, q6, q7, q8, q9⟩ := f4
  exact ⟨⟨sG, i, gr, up.trans (Heap.UpToSlots.of_keeps k), os, ag⟩, ⟨fun b o e => k _ _ (f1 b o e), f2, Heap.FunFrames.of_keeps (fun b o e _ => ⟨o, k b o e, rfl⟩) f3, oe, vs, T, oT, ts, k _ _ q1, q2, q3, q4, q5, q6, k _ _ q7, q8, q9⟩, l.fre⟩
end
def wKeptH (X : Cx) (tst : Expr) (i : Nat) (ts : Addr → TS) (D : Ends) : WX := fun cls d σ H => ∃ C, cls = .ref C ∧ Hits X tst C ∧ ∀ a, H a = none →
  ts a { nx := fun σ' H' => H' a = none → D.nx (σ'.set i none) (upd H' a (Caught C d a)), rt := fun _ _ => False, bk := fun _ _ => False, ct := fun _ _ => False } (σ.set i (some (.ref a))) H
section
variable {X : Cx} {n : Str} {tst : Expr} {i : Nat} {body suite : List Stmt} {b0 : Stmt} {pos pos' : Pos} {tb : WX → TS} {ts : Addr → TS}
theorem ps_try_keptH (st : X.stack = X.env :: X.outer) (fr : X.env.frame = some X.env.locals) (nex : X.ex = []) (nd : X.N.Nodup) (hi : X.N[i]? = some n) (kn : X.env.kindOf n = some .local)
    (hb : ∀ (W : WX) (pn : List (Addr × Obj)) (xe : Value → Shared → Prop), Takes (X.tr pn xe) W → PSs (X.tr pn xe) body (tb W))
    (hsu : ∀ (a : Addr) (pn : List (Addr × Obj)), PSs (X.suite a pn) (b0 :: suite) (ts a)) :
    PS X (.Try body [.ExceptHandler (some tst) (some n) (b0 :: suite) pos'] [] [] pos) (fun D σ H => tb (wKeptH X tst i ts D) D σ H) := by
  refine ⟨fun pins s σ H D inv rd => wpAny_Try_except ?_⟩
  have ok := inv.ok
  have run := (hb (wKeptH X tst i ts D) (X.pn ++ pins) (fun e s1 => wpAny (model X.prog X.w) X.A (noteFrame e X.env) (fun _ s2 => wpAny (model X.prog X.w) X.A (setFlight e none) (fun _ s3 =>
    wpAny (model X.prog X.w) X.A (handleBy e X.env [.ExceptHandler (some tst) (some n) (b0 :: suite) pos']) (SP X pins D) X.xe s3) X.xe s2) X.xe s1) (fun u s1 air => ?_)).run [] s σ H D (inv.toTry _) rd
  refine wpAny_mono run (fun f s1 post => ?_) (fun _ _ air => air)
  rotate_left
  · obtain ⟨a, σ1, H1, cls, d, G, rfl, ⟨C, rfl, hits, go⟩, land⟩ := air_lands ok st fr air
    refine land fun h1 l1 => ?_
    obtain ⟨nl, nf⟩ := l1.nin st fr
    obtain ⟨o1, v1, at1, z1, dt1⟩ := l1.fly.there
    have inS := l1.inv.suite at1 dt1 l1.fre nl nf
    have tyA : PySem.W.Looks (model X.prog X.w) h1 (typeOf (.ref a)) (.ref C) := fun A Q E s2 k q => wpAny_typeOf_ref (k _ _ at1) (by rw [z1.1]; exact q)
    refine wpAny_handleBy_cons (codeAny_handlers_test (hits a _ _ _ _ _ _ inS tyA fun h3 k3 => codeAny_handlers_suite_as ((l1.keeps k3).again fun h2 l2 => ?_))) (fun z => by cases z)
    obtain ⟨o2, v2, at2, z2, dt2⟩ := l2.fly.there
    have inS2 := l2.inv.suite at2 dt2 l2.fre nl nf
    have pinsNe : ∀ p ∈ X.pn ++ pins, p.1 ≠ a := fun p hp => l2.new (o := p.2) fun t it => (it.pin p hp).1
    have n0 := l2.old nex
    refine store_ok (X := X.suite a ((a, o2) :: (X.pn ++ pins))) (v := .ref a) inS2 nd hi (.inl kn) rfl (fun s5 inS5 => ?_) (.inr kn)
    refine wpAny_mono ((hsu a ((a, o2) :: (X.pn ++ pins))).run [] s5 _ H1 _ inS5 (go a l2.fre)) (fun f s6 post => ?_) (fun _ _ z => z.elim)
    cases f with
    | next =>
      obtain ⟨σ6, H6, inS6, q6⟩ := post
      obtain ⟨at6, fre6, _⟩ := inS6.pin (a, o2) (List.mem_append_left _ List.mem_cons_self)
      exact gone_ok (keep_caught (inS6.unsuite ok) at6 z2 dt2 fre6 nl n0 pinsNe) nd hi kn fun s7 i7 => ⟨_, _, i7, q6 fre6⟩
    | brk =>
      obtain ⟨_, _, _, z⟩ := post
      exact z.elim
    | cont =>
      obtain ⟨_, _, _, z⟩ := post
      exact z.elim
    | ret u =>
      obtain ⟨_, _, _, _, _, z⟩ := post
      exact z.elim
  · cases f with
    | next =>
      obtain ⟨σ1, H1, i1, q⟩ := post
      exact wpAny_execs_nil ⟨σ1, H1, i1.ofTry ok, q⟩
    | brk =>
      obtain ⟨σ1, H1, i1, q⟩ := post
      exact ⟨σ1, H1, i1.ofTry ok, q⟩
    | cont =>
      obtain ⟨σ1, H1, i1, q⟩ := post
      exact ⟨σ1, H1, i1.ofTry ok, q⟩
    | ret u =>
      obtain ⟨v, σ1, H1, i1, r, q⟩ := post
      exact ⟨v, σ1, H1, i1.ofTry ok, r, q⟩
end
section
variable {X : Cx} {k n : Nat} {f : Addr} {fd : FuncData} {ps : List Str} {F : XFn} {x : Str} {p pos pos2 : Pos} {e : Expr} {es : List Expr} {g : AF}
theorem txe_call (G : FnOk X.prog X.w X.K X.mg X.base (L2.CX X.prog X.w) k f fd ps (spX X.K n F)) (hr : Room k X.A) (hg : Gl X x) (hm : X.mg x = some (.ref f)) (hk : PySem.W.keepIn X.K (.ref f) = true) (hb : Binds X.K fd ps [])
    (ha : TaD X (e :: es) g) (hn : ∀ ρ as ρ', g ρ = some (as, ρ') → as.length = n) (hdb : (x == ("__debug__" : Str)) = false := by decide) (he : starEach (e :: es) X.env = (false, eval e X.env) :: starEach es X.env := by rfl) (hpl : (backTo pos (starEach es X.env)).any (·.1) = false := by rfl) :
    TxeD X (.Call (.Name x p) (e :: es) [] pos) (xCall F g) := by
  obtain ⟨ta, p1, d1⟩ := ha.run
  exact ⟨fun W => tCallS (spX X.K n F) (WE W) ta, fun pn xe W tk => pe_callS (X := X.tr pn xe) G hr hg hm hk hb (fun σ => passAt tk σ) (p1 pn xe) hdb he hpl, sxe_call d1 hn⟩
theorem tx_expr {c : Expr} {gx : XFn} (h : TxeD X c gx) (hs : swapsWith c none pos2.line X.env = pure false := by rfl) : TxD X [.Expr c pos2] gx := by
  obtain ⟨t, p, d⟩ := h.run
  exact ⟨fun W => tDrop (t W), fun pn xe W tk => pss_one (ps_expr (X := X.tr pn xe) (p pn xe W tk) hs), fun E B σ H ρ q ρ' W D j e k => d E B σ H ρ q ρ' W _ j e k⟩
theorem tx_set (i : Nat) {c : Expr} {gx : XFn} {kn : Str} {p1 p3 : Pos} (nd : X.N.Nodup) (h : TxeD X c gx) (hm : X.N[i]? = some kn := by rfl) (kl : X.env.scope.names.lookup kn = some .local := by rfl)
    (sw1 : swapsWithSole [.Name kn p1] c p3.line X.env = pure false := by rfl) (sw2 : swappedStores [.Name kn p1] c X.env = pure none := by rfl) (as1 : (assignEach [.Name kn p1] X.env).map (·.2) = [assign (.Name kn p1) X.env] := by rfl) :
    TxD X [.Assign [.Name kn p1] c p3] gx := by
  obtain ⟨t, p, d⟩ := h.run
  exact ⟨fun W => tAsg (t W) (gName i), fun pn xe W tk => pss_one (ps_asg (X := X.tr pn xe) (p pn xe W tk) (pg_name nd hm (.inl kl) (.inr kl)) sw1 sw2 as1), fun E B σ H ρ q ρ' W D j e k => d E B σ H ρ q ρ' W _ j e k⟩
end
theorem J.drop {K : PySem.W.Frag} {E : En} {B : Bk} {σ : L2.St} {H : Hp} {ρ : Rho} {y : Option V} (i : Nat) (j : J K E B σ H ρ) : J K E B (σ.set i y) H (ρ.set i .un) := by
  have σn : ∀ {n : Nat}, n ≠ i → (σ.set i y)[n]? = σ[n]? := fun {n} h => List.getElem?_set_ne (Ne.symm h)
  refine ⟨j.keep, j.b0, j.bn, j.b0t, j.bt, j.ioB, by rw [List.length_set, List.length_set]; exact j.len, fun n d' q => ?_, fun n k ds q => ?_, fun n n' k ds k' ds' p q q' a a' => ?_, fun n ds q => ?_⟩
  · rcases set_get q with ⟨_, e1, _⟩ | ⟨hn, q'⟩
    · cases e1
    · rw [σn hn]; exact j.val n d' q'
  · rcases set_get q with ⟨_, e1, _⟩ | ⟨hn, q'⟩
    · cases e1
    · rw [σn hn]; exact j.own n k ds q'
  · rcases set_get q with ⟨_, e1, _⟩ | ⟨hn, r1⟩
    · cases e1
    · rcases set_get q' with ⟨_, e1, _⟩ | ⟨hn', r2⟩
      · cases e1
      · rw [σn hn] at a
        rw [σn hn'] at a'
        exact j.inj n n' _ _ _ _ p r1 r2 a a'
  · rcases set_get q with ⟨_, e1, _⟩ | ⟨hn, q'⟩
    · cases e1
    · rw [σn hn]; exact j.wr n ds q'
/-- the class of an error -/
def clsOf : PyData → Option Str
  | .dict ((.str c, _) :: _) => some c
  | _ => none
/-- try: body; except (classes cs) as n (slot i): kept (slot m) = n -/
def sTry (cs : List Str) (i m : Nat) (gx : XFn) (gn : SF) : SF := fun ρ => match gx ρ with
  | some (e, ρ') => if i < ρ'.length ∧ (∃ c, clsOf e = some c ∧ c ∈ cs) then some (.nx (((ρ'.set i .un).set m (.v e)).set i .un)) else none
  | none => gn ρ
section
variable {X : Cx} {n kn : Str} {tst : Expr} {cs : List Str} {body : List Stmt} {gx : XFn} {gn : SF} {fr : Bool} {p1 p2 p3 pos pos' : Pos}
theorem z_try (i m : Nat) (st : X.stack = X.env :: X.outer) (frm : X.env.frame = some X.env.locals) (nex : X.ex = []) (nd : X.N.Nodup) (kd : X.env.kindOf n = some .local) (hits : ∀ c ∈ cs, ∀ C, PySem.W.nsIn X.K mainGlobals c = some (some (.ref C)) → Hits X tst C)
    (hx : TxD X body gx) (hn : SsD X.nox fr body gn) (hi : X.N[i]? = some n := by rfl) (hm : X.N[m]? = some kn := by rfl) (him : i ≠ m := by decide) (kl : X.env.scope.names.lookup kn = some .local := by rfl) (vn : Vis X.env.scope n := by exact Or.inl rfl)
    (hdn : (n == ("__debug__" : Str)) = false := by decide) (hcn : (n == ("__classdict__" : Str)) = false := by decide)
    (sw1 : swapsWithSole [.Name kn p1] (.Name n p2) p3.line X.env = pure false := by rfl) (sw2 : swappedStores [.Name kn p1] (.Name n p2) X.env = pure none := by rfl) (as1 : (assignEach [.Name kn p1] X.env).map (·.2) = [assign (.Name kn p1) X.env] := by rfl) :
    SD X fr (.Try body [.ExceptHandler (some tst) (some n) [.Assign [.Name kn p1] (.Name n p2) p3] pos'] [] [] pos) (sTry cs i m gx gn) := by
  obtain ⟨t, pt, dt⟩ := hx.run
  obtain ⟨u, pu, du⟩ := hn.run
  have suite : ∀ (a : Addr) (pn : List (Addr × Obj)), PSs (X.suite a pn) [.Assign [.Name kn p1] (.Name n p2) p3] (tAsg (tVar i) (gName m)) := fun a pn =>
    pss_one (ps_asg (X := X.suite a pn) (pe_var hi vn hdn hcn) (pg_name nd hm (.inl kl) (.inr kl)) sw1 sw2 as1)
  refine ⟨_, ps_or (ps_try_keptH (ts := fun _ => tAsg (tVar i) (gName m)) (i := i) st frm nex nd hi kd (fun W pn xe tk => pt pn xe W tk) suite) (ps_try_thru0 pu), ?_⟩
  intro E B σ H ρ oc D j e q
  unfold sTry at e
  split at e
  · rename_i ee ρ' eg
    split at e
    · rename_i hl
      obtain ⟨hl, c, hc, hcs⟩ := hl
      cases e
      refine .inl (dt E B σ H ρ ee ρ' _ D j eg fun B1 σ1 H1 cls d j1 x1 y => ?_)
      have main : ∀ C c', cls = .ref C → clsOf ee = some c' → PySem.W.nsIn X.K mainGlobals c' = some (some (.ref C)) → (∀ a, H1 a = none → Rp X.K (hid B1 (upd H1 a (Caught C d a))) (.ref a) ee) → wKeptH X tst i (fun _ => tAsg (tVar i) (gName m)) D cls d σ1 H1 := by
        rintro C c' rfl hc' nC rp
        rw [hc] at hc'
        cases hc'
        refine ⟨C, rfl, hits c hcs C nC, fun a ha => ?_⟩
        refine ⟨.ref a, by rw [List.getElem?_set_self (by rw [j1.len]; exact hl)], fun _ => ?_⟩
        have sn := same_new (o := Caught C d a) ha
        exact q B1 _ _ ((((j1.grow sn).drop i).set m (rp a ha)).drop i) (x1.trans (Ext.grow sn))
      cases y with
      | bare nC => exact main _ _ rfl rfl nC fun a ha => .exc nC (hid_some.mpr ⟨fun z => j1.bt a z ha, upd_same⟩)
      | fld nC hdd nb rp => exact main _ _ rfl rfl nC fun a ha => .exf nC (hid_some.mpr ⟨fun z => j1.bt a z ha, upd_same⟩) (hid_some.mpr ⟨nb, by rw [upd_ne (ne_of_none hdd ha)]; exact hdd⟩) (rp.ext (Ext.grow (same_new ha)))
    · cases e
  · exact .inr (du E B σ H ρ oc D j e q)
end
end DL
/-! a caught error looked at: its field, isinstance; repr of any data -/
namespace DL
open PySem PySem.Spec PyProof.Rows L2
/-- what a class of errors must say, so that its instances' own fields are read -/
structure FldOk (K : PySem.W.Frag) (C : Addr) (f : Str) : Prop where
  ga : PySem.W.findIn K (.ref C) "__getattribute__" = some (some (.builtin "BaseException.__getattribute__"))
  gg : PySem.W.findIn K (.ref C) "__getattr__" = some none
  exC : PySem.W.subIn K (.ref C) (.type "BaseException") = some true
  hdC : PySem.W.hasDictIn K C = true
  no : PySem.W.findIn K (.ref C) f = some none
def tFldE (K : PySem.W.Frag) (f : Str) (te : TE) : TE := fun σ H Q => te σ H fun x H1 => ∃ (a C dd : Addr) (v : V), x = .ref a ∧ FldOk K C f ∧ H1 a = some (Caught C (some dd) a) ∧ H1 dd = some (.xd [(f, v)]) ∧ Q v H1
theorem caught_at {P : Program} {w : World} {H : Hp} {h : Heap} {a C : Addr} {d : Option Addr} (ok : HOk P w H h) (q : H a = some (Caught C d a)) : ∃ (o : Obj) (vs : Array Value), h.get? a = some o ∧ Zc (.ref C) d o ∧ o.data = .fields vs := by
  have := ok a _ q
  exact this.1
theorem caught_inst {P : Program} {w : World} {H : Hp} {h : Heap} {a C dd : Addr} {f : Str} {v : V} (ok : HOk P w H h) (q : H a = some (Caught C (some dd) a)) (q2 : H dd = some (.xd [(f, v)])) :
    ∃ (o : Obj) (od : Obj) (u : Value), PySem.W.InstAt h a o C (some od) ∧ PySem.W.lookIn f od = some (some u) ∧ RelV v u := by
  obtain ⟨o, vs, at_, z, dt⟩ := caught_at ok q
  have hx : ObjOk P w H h dd (.xd [(f, v)]) := ok dd _ q2
  obtain ⟨mA, ns, r⟩ := hx
  obtain ⟨od, ho, hl⟩ := lookIn_ns ns
  have l : List.lookup f [(f, v)] = some v := by simp [List.lookup]
  obtain ⟨u, hu, ru⟩ := RelO.some_of (v := v) (o := mA f) (by rw [← l]; exact r f)
  exact ⟨o, od, u, ⟨at_, z.1, by unfold PySem.W.notCls; rw [dt] <;> rfl, by rw [z.2]; exact ho⟩, by rw [hl, hu], ru⟩
section
variable {X : Cx}
theorem pe_fldE {e : Expr} {te : TE} {f : Str} {pos : Pos} (he : PE X e te) (hb : attributeBase e f X.env (eval e X.env) = eval e X.env := by rfl) : PE X (.Attribute e f pos) (tFldE X.K f te) := by
  refine ⟨fun pins s σ H Q I h => ?_⟩
  refine attr_of hb (thn (he.run pins s σ H _ I h) fun u s1 hh => ?_)
  obtain ⟨x, H1, I1, rx, a, C, dd, v, ex, fo, q1, q2, q⟩ := hh
  subst ex
  obtain rfl : u = Value.ref a := rx
  obtain ⟨o, od, u, inst, hl, ru⟩ := caught_inst I1.hok q1 q2
  exact HandSPX.exc_get I1.kIn inst fo.ga fo.gg fo.exC (PySem.W.findObj_own fo.hdC fo.no rfl hl) (handed_of ru) ⟨v, H1, I1.tok _, ru, q⟩
/-- which classes of errors have the field -/
def gFld (f : Str) (tab : List Str) (g : EF) : EF := fun ρ => (g ρ).bind fun p => match p.1 with
  | .d (.dict [(.str c, .none), (.str f', d)]) => if f' = f ∧ c ∈ tab then some (.d d, p.2) else none
  | _ => none
theorem d_fld {e : Expr} {g : EF} {f : Str} {tab : List Str} {pos : Pos} (he : PD X e g) (ht : ∀ c ∈ tab, ∀ C, PySem.W.nsIn X.K mainGlobals c = some (some (.ref C)) → FldOk X.K C f) (hb : attributeBase e f X.env (eval e X.env) = eval e X.env := by rfl) :
    PD X (.Attribute e f pos) (gFld f tab g) := by
  obtain ⟨te, p, d⟩ := he.run
  refine ⟨_, pe_fldE p hb, ?_⟩
  intro E B σ H ρ a ρ' Q j e q
  simp only [gFld, Option.bind_eq_some_iff] at e
  obtain ⟨⟨a1, ρ1⟩, e1, e2⟩ := e
  split at e2
  · rename_i c f' d' ha
    simp only at ha
    subst ha
    split at e2
    · rename_i hf
      obtain ⟨rfl, hc⟩ := hf
      cases e2
      refine d E B σ H ρ _ ρ1 _ j e1 fun v H1 j1 x1 s1 o1 => ?_
      have o1 : Rp X.K (hid B H1) v (.dict [(.str c, .none), (.str f', d')]) := o1
      match v, o1 with
      | _, .exf (a := a) (C := C) (dd := dd) (v := v') n1 n2 n3 n4 => exact ⟨a, C, dd, v', rfl, ht c hc C n1, hid_le _ _ n2, hid_le _ _ n3, q v' H1 j1 x1 s1 n4⟩
    · cases e2
  · cases e2
/-- what a class of errors must say, so that isinstance is asked rightly -/
structure IsOkE (K : PySem.W.Frag) (C : Addr) : Prop where
  cl : (PySem.W.clsIn K C).isSome = true
  ga : PySem.W.findIn K (.ref C) "__getattribute__" = some (some (.builtin "BaseException.__getattribute__"))
  gg : PySem.W.findIn K (.ref C) "__getattr__" = some none
  exC : PySem.W.subIn K (.ref C) (.type "BaseException") = some true
  ha : PySem.W.findIn K (.ref C) "__class__" = some (some (.builtin "object.__class__"))
  hn : PySem.W.specialIn K (.builtin "object.__class__") "__get__" = some (some (.builtin "getset_descriptor.__get__"))
  ht : PySem.W.takesIn K (.builtin "object.__class__") = some true
  hm : PySem.W.mroIn K C (.type "object") = some true
/-- a caught error as it lies -/
def ErrAt (H : Hp) (a C : Addr) : Prop := ∃ d, H a = some (Caught C d a) ∧ (d = none ∨ ∃ dd f v, d = some dd ∧ H dd = some (.xd [(f, v)]))
theorem err_inst {P : Program} {w : World} {H : Hp} {h : Heap} {a C : Addr} (ok : HOk P w H h) (q : ErrAt H a C) : ∃ (o : Obj) (od : Option Obj), PySem.W.InstAt h a o C od := by
  obtain ⟨d, q, rfl | ⟨dd, f, v, rfl, q2⟩⟩ := q
  · obtain ⟨o, vs, at_, z, dt⟩ := caught_at ok q
    exact ⟨o, none, at_, z.1, by unfold PySem.W.notCls; rw [dt] <;> rfl, by rw [z.2]; trivial⟩
  · obtain ⟨o, od, u, inst, _⟩ := caught_inst ok q q2
    exact ⟨o, some od, inst⟩
theorem err_of {K : PySem.W.Frag} {B : Bk} {H : Hp} {v : V} {c : Str} {p : PyData} {r : List (PyData × PyData)} (h : Rp K (hid B H) v (.dict ((.str c, p) :: r))) : ∃ a C, v = .ref a ∧ PySem.W.nsIn K mainGlobals c = some (some (.ref C)) ∧ ErrAt H a C := by
  match v, r, p, h with
  | _, _, _, .exc n q => exact ⟨_, _, rfl, n, _, hid_le _ _ q, .inl rfl⟩
  | _, _, _, .exf n q q2 rp => exact ⟨_, _, rfl, n, _, hid_le _ _ q, .inr ⟨_, _, _, rfl, hid_le _ _ q2⟩⟩
def rIsX (K : PySem.W.Frag) : List V → Hp → VK → Prop := fun xs H Q => ∃ (a C : Addr) (c : V) (cv : Value) (b : Bool), xs = [.ref a, c] ∧ ErrAt H a C ∧ IsOkE K C ∧ (∀ u, RelV c u → u = cv) ∧ PySem.W.kitOne K (.ref C) cv = some b ∧ Q (.bl b) H
theorem call_isX : CallR X (.builtin "isinstance") (rIsX X.K) := by
  intro pins s σ H xs us Q I r h
  obtain ⟨a, C, c, cv, b, rfl, q1, ok, hcv, e, q⟩ := h
  cases r with
  | cons rx rr =>
    cases rr with
    | cons rt rr =>
      cases rr
      cases rx
      have ec := hcv _ rt
      subst ec
      obtain ⟨o, od, inst⟩ := err_inst I.hok q1
      exact PySem.W.kia_one (PySem.W.kitx_exc (od := od) ok.cl ok.ga ok.gg ok.exC ok.ha ok.hn ok.ht ok.hm) I.kIn inst e (fun z => nomatch z) fun tk => ⟨.bl b, H, I.kept (t' := tk) fun _ _ z => z, rfl, q⟩
/-- isinstance(e, T), e a caught error: for each class the answer -/
def gIsE (tab : List (Str × Bool)) (g : EF) : EF := fun ρ => (g ρ).bind fun p => match p.1 with
  | .d (.dict ((.str c, _) :: _)) => (tab.lookup c).map fun b => (.d (.bool b), p.2)
  | _ => none
theorem mem_of_lookup {tab : List (Str × Bool)} {c : Str} {b : Bool} (h : tab.lookup c = some b) : (c, b) ∈ tab := by
  induction tab with
  | nil => cases h
  | cons x r ih =>
    obtain ⟨k, v⟩ := x
    simp only [List.lookup_cons] at h
    split at h
    · rename_i hk
      cases h
      have : c = k := by simpa using hk
      subst this
      exact List.mem_cons_self
    · exact List.mem_cons_of_mem _ (ih h)
theorem sd_isE {te : TE} {g : EF} {tab : List (Str × Bool)} {c : V} {cv : Value} (d1 : Sd X.K te g) (hcv : ∀ u, RelV c u → u = cv) (ht : ∀ x b, (x, b) ∈ tab → ∀ C, PySem.W.nsIn X.K mainGlobals x = some (some (.ref C)) → IsOkE X.K C ∧ PySem.W.kitOne X.K (.ref C) cv = some b) :
    ∀ (E : En) (B : Bk) (σ : L2.St) (H : Hp) (ρ : Rho) (a : Ar) (ρ' : Rho) (Q : VK), J X.K E B σ H ρ → gIsE tab g ρ = some (a, ρ') → (∀ x H', J X.K E B σ H' ρ' → Ext B H B H' → Shp ρ ρ' → ArOk X.K B σ H' ρ' x a → Q x H') →
      te σ H fun x H1 => rIsX X.K [x, c] H1 Q := by
  intro E B σ H ρ a ρ' Q j e q
  simp only [gIsE, Option.bind_eq_some_iff] at e
  obtain ⟨⟨a1, ρ1⟩, e1, e2⟩ := e
  split at e2
  · rename_i x p r ha
    simp only at ha
    subst ha
    obtain ⟨b, e3, e4⟩ := Option.map_eq_some_iff.mp e2
    cases e4
    refine d1 E B σ H ρ _ ρ1 _ j e1 fun v H1 j1 x1 s1 o1 => ?_
    have o1 : Rp X.K (hid B H1) v (.dict ((.str x, p) :: r)) := o1
    obtain ⟨a, C, rfl, n, er⟩ := err_of o1
    obtain ⟨ok, kit⟩ := ht x b (mem_of_lookup e3) C n
    exact ⟨a, C, c, cv, b, rfl, er, ok, hcv, kit, q _ H1 j1 x1 s1 (Rp.bl _)⟩
  · cases e2
theorem d_isE {e : Expr} {g : EF} {T : String} {x : Str} {tab : List (Str × Bool)} {p p2 pos : Pos} (hg : Gl X "isinstance") (hm : X.mg "isinstance" = none) (hv : bootBuiltins "isinstance" = some (.builtin "isinstance")) (hg2 : Gl X x) (hm2 : X.mg x = none) (hv2 : bootBuiltins x = some (.type T)) (he : PD X e g)
    (ht : ∀ c b, (c, b) ∈ tab → ∀ C, PySem.W.nsIn X.K mainGlobals c = some (some (.ref C)) → IsOkE X.K C ∧ PySem.W.kitOne X.K (.ref C) (.type T) = some b)
    (h1 : starEach [e, .Name x p2] X.env = (false, eval e X.env) :: starEach [.Name x p2] X.env := by rfl) (h2 : starEach [.Name x p2] X.env = (false, eval (.Name x p2) X.env) :: starEach [] X.env := by rfl)
    (hn : x ≠ "__name__" := by decide) (hdb : (x == ("__debug__" : Str)) = false := by decide) (hpl : (backTo pos (starEach [.Name x p2] X.env)).any (·.1) = false := by rfl) :
    PD X (.Call (.Name "isinstance" p) [e, .Name x p2] [] pos) (gIsE tab g) := by
  obtain ⟨t, p1, d1⟩ := he.run
  exact ⟨_, pe_callB call_isX hg hm hv (pa_cons p1 (pa_cons (pe_bltn (v := .ty T) hg2 hm2 hv2 rfl hn hdb) pa_nil h2) h1) (by decide) (by decide) h1 hpl, sd_isE d1 (fun u r => by cases r; rfl) ht⟩
theorem d_isC {e : Expr} {g : EF} {C1 : Addr} {x : Str} {tab : List (Str × Bool)} {p p2 pos : Pos} (hg : Gl X "isinstance") (hm : X.mg "isinstance" = none) (hv : bootBuiltins "isinstance" = some (.builtin "isinstance")) (hg2 : Gl X x) (hm2 : X.mg x = some (.ref C1)) (he : PD X e g)
    (ht : ∀ c b, (c, b) ∈ tab → ∀ C, PySem.W.nsIn X.K mainGlobals c = some (some (.ref C)) → IsOkE X.K C ∧ PySem.W.kitOne X.K (.ref C) (.ref C1) = some b)
    (h1 : starEach [e, .Name x p2] X.env = (false, eval e X.env) :: starEach [.Name x p2] X.env := by rfl) (h2 : starEach [.Name x p2] X.env = (false, eval (.Name x p2) X.env) :: starEach [] X.env := by rfl)
    (hdb : (x == ("__debug__" : Str)) = false := by decide) (hpl : (backTo pos (starEach [.Name x p2] X.env)).any (·.1) = false := by rfl) :
    PD X (.Call (.Name "isinstance" p) [e, .Name x p2] [] pos) (gIsE tab g) := by
  obtain ⟨t, p1, d1⟩ := he.run
  exact ⟨_, pe_callB call_isX hg hm hv (pa_cons p1 (pa_cons (pe_glob (v := .ref C1) hg2 hm2 rfl hdb) pa_nil h2) h1) (by decide) (by decide) h1 hpl, sd_isE d1 (fun u r => r) ht⟩
end
/-! ### repr of any data -/
def cRepA : List PyData → Option PyData
  | [d] => if d.showable = true ∧ d.hasDict = false ∧ d.depth ≤ 60 ∧ d.shown.length ≤ 1000000 then some (.str d.shown) else none
  | _ => none
def rRepA (K : PySem.W.Frag) : List V → Hp → VK → Prop := fun xs H Q => ∃ v d, xs = [v] ∧ Dp K H v d ∧ d.showable = true ∧ d.hasDict = false ∧ d.depth ≤ 60 ∧ d.shown.length ≤ 1000000 ∧ Q (.str d.shown) H
theorem call_reprA {X : Cx} {k : Nat} (h0 : X.A.guards = some []) (hr : Room k X.A) : CallR X (.builtin "repr") (rRepA X.K) := by
  rintro pins s σ H xs us Q I r ⟨v, d, rfl, hd, h2, h3, h4, h5, q⟩
  obtain ⟨u, rfl, rv⟩ := vals1 r
  obtain ⟨as, rd⟩ := Dp.reads I d v u hd rv
  have hu := hr.un
  have line : d.shown.length ≤ sizeLine := Nat.le_trans h5 (by rw [sizeLine_eq]; decide)
  have onref : ∀ {a : Addr}, Reads s.heap (.ref a) d as → wpAny (model X.prog X.w) X.A (call (.builtin "repr") [.ref a]) (EP X pins σ Q) X.xe s := fun rd =>
    repr_of_reads' rd h2 (PyData.noDict_hsm h3) h0 (by omega) (fun _ _ e => e) (fun h' t tk hk => ⟨.str _, H, I.kept hk, ⟨_, rfl⟩, q⟩) line
  cases rd with
  | list a1 a2 a3 a4 => exact onref (.list a1 a2 a3 a4)
  | tuple a1 a2 a3 a4 => exact onref (.tuple a1 a2 a3 a4)
  | dict => simp [PyData.hasDict] at h3
  | none => exact PySem.P.repr_of_none (by rw [PyData.shown] at q; exact ⟨.str _, H, I.tok _, ⟨_, rfl⟩, q⟩)
  | bool b => exact PySem.P.repr_of_bool (by rw [PyData.shown] at q; exact ⟨.str _, H, I.tok _, ⟨_, rfl⟩, q⟩)
  | int i t =>
    refine PySem.P.repr_of_int (by simpa only [PyData.showable, decide_eq_true_eq] using h2) ?_
    rw [PyData.shown] at q
    exact ⟨.str _, H, I.tok _, ⟨_, rfl⟩, q⟩
  | str x t =>
    rw [PyData.shown] at q line
    exact PySem.P.repr_of_str ⟨.str _, H, I.tok _, ⟨_, rfl⟩, q⟩ line
theorem cs_reprA {K : PySem.W.Frag} : CallS K (rRepA K) cRepA := by
  intro B H xs ds d Q tr hb e q
  unfold cRepA at e
  split at e
  · split at e
    · rename_i h
      cases e
      obtain ⟨x, rfl, h'⟩ := hb.one
      exact ⟨_, _, rfl, BD.dp h.2.1 h', h.1, h.2.1, h.2.2.1, h.2.2.2, q _ H (Same.refl _) (.str _)⟩
    · cases e
  · cases e
/-! ### a call by keywords in a try -/
theorem tk_nil {X : Cx} : TkD X [] gNil := ⟨_, fun _ _ => pk_nil, fun E B σ H ρ as ρ' Q j e q => by
  cases e
  exact q [] H j Ext.refl (Shp.refl _) .nil⟩
theorem tk_var {X : Cx} (i : Nat) {x : Str} {pos kpos : Pos} {nm : Option Str} {kws : List Keyword} {r : AF} (hr : TkD X kws r) (hN : X.N[i]? = some x := by rfl) (hv : Vis X.env.scope x := by first | exact Or.inl rfl | exact Or.inr (Or.inl rfl) | exact Or.inr (Or.inr rfl)) (hd : (x == ("__debug__" : Str)) = false := by decide)
    (hcd : (x == ("__classdict__" : Str)) = false := by decide) : TkD X (⟨nm, .Name x pos, kpos⟩ :: kws) (gCons (gVar i) r) := by
  obtain ⟨t, p, d⟩ := hr.run
  exact ⟨_, fun pn xe => pk_cons (X := X.tr pn xe) (pe_var hN hv hd hcd) (p pn xe), sa_cons sd_var d⟩
theorem sxe_callK {K : PySem.W.Frag} {n m : Nat} {F : XFn} {gV : List V → List V → List V} {gA : List Ar → List Ar → List Ar} {t tk : TA} {g gk : AF} (o : Ord n m gV gA) (h : Sa K t g) (hk : Sa K tk gk) (hn : ∀ ρ as ρ', g ρ = some (as, ρ') → as.length = n) (hm : ∀ ρ as ρ', gk ρ = some (as, ρ') → as.length = m) :
    Sxe K (fun W => tCallKS (spX K (n + m) F) gV (WE W) t tk) (xCallK F gA g gk) := by
  intro E B σ H ρ q ρ' W Q j e k
  simp only [xCallK, Option.bind_eq_some_iff] at e
  obtain ⟨⟨ars, ρ1⟩, e1, ⟨brs, ρ2⟩, e1', as, e2, e3⟩ := e
  split at e3
  · rename_i hv
    obtain ⟨⟨q', ρ3⟩, e4, e5⟩ := Option.map_eq_some_iff.mp e3
    cases e5
    refine h E B σ H ρ ars ρ1 _ j e1 fun vs H1 j1 x1 s1 o1 => ?_
    refine hk E B σ H1 ρ1 brs ρ2 _ j1 e1' fun zs H2 j2 x2 s2 o2 => ?_
    have oo := o.ok (o1.later x2 s2) o2 (hn _ _ _ e1) (hm _ _ _ e1')
    refine ⟨B, as, q', ρ3, ?_, j2.argIn oo e2 hv.1, hv.2, e4, fun cls d H3 same y => ?_⟩
    · rw [ars_len oo]; exact o.len (hn _ _ _ e1) (hm _ _ _ e1')
    · exact k B σ H3 cls d (j2.grow same) ((x1.trans x2).trans (Ext.grow same)) y
  · cases e3
section
variable {X : Cx} {k n m : Nat} {f : Addr} {fd : FuncData} {ps ks : List Str} {F : XFn} {x : Str} {p pos pos2 : Pos} {e : Expr} {es : List Expr} {g gk : AF} {kws : List Keyword} {gl : List Value → List Value → List Value} {gV : List V → List V → List V} {gA : List Ar → List Ar → List Ar}
theorem txe_callK (G : FnOk X.prog X.w X.K X.mg X.base (L2.CX X.prog X.w) k f fd ps (spX X.K (n + m) F)) (hr : Room k X.A) (hg : Gl X x) (hm : X.mg x = some (.ref f)) (hk : PySem.W.keepIn X.K (.ref f) = true) (hb : KBinds X.K fd ps ks gl gV) (o : Ord n m gV gA)
    (ha : TaD X (e :: es) g) (hkw : TkD X kws gk) (hn : ∀ ρ as ρ', g ρ = some (as, ρ') → as.length = n) (hmm : ∀ ρ as ρ', gk ρ = some (as, ρ') → as.length = m)
    (hall : (backToKw pos (keywordEach kws X.env)).all (·.1.isSome) = true := by rfl) (hks : (backToKw pos (keywordEach kws X.env)).filterMap (·.1) = ks := by rfl)
    (hdb : (x == ("__debug__" : Str)) = false := by decide) (he : starEach (e :: es) X.env = (false, eval e X.env) :: starEach es X.env := by rfl)
    (hpl : ((backTo pos (starEach (e :: es) X.env)).any (·.1) || (backToKw pos (keywordEach kws X.env)).any (·.1.isNone)) = false := by rfl) :
    TxeD X (.Call (.Name x p) (e :: es) kws pos) (xCallK F gA g gk) := by
  obtain ⟨t, p1, d1⟩ := ha.run
  obtain ⟨tk, p2, d2⟩ := hkw.run
  exact ⟨_, fun pn xe W tw => pe_callKS (X := X.tr pn xe) G hr hg hm hk hb (fun σ => passAt tw σ) (p1 pn xe) (p2 pn xe) hall hks hdb he hpl, sxe_callK o d1 d2 hn hmm⟩
end
/-! ### str(n) -/
def cStr : List PyData → Option PyData
  | [.int i] => if i.natAbs < 2 ^ 150 then some (.str (toString i)) else none
  | _ => none
def rStrI : List V → Hp → VK → Prop := fun xs H Q => ∃ i, xs = [.int i] ∧ i.natAbs.log2 < 1920 ∧ Q (.str (toString i)) H
theorem cs_str {K : PySem.W.Frag} : CallS K rStrI cStr := by
  intro B H xs ds d Q tr hb e q
  unfold cStr at e
  split at e
  · split at e
    · rename_i h
      cases e
      obtain ⟨x, rfl, h'⟩ := hb.one
      obtain rfl := h'.int
      refine ⟨_, rfl, ?_, q _ H (Same.refl _) (.str _)⟩
      rename_i i
      by_cases z : i.natAbs = 0
      · rw [z]; decide
      · have := (Nat.log2_lt z).mpr (show i.natAbs < 2 ^ 1920 from Nat.lt_of_lt_of_le h (Nat.pow_le_pow_right (by decide) (by decide)))
        exact this
    · cases e
  · cases e
end DL
namespace DL
open PySem PySem.Spec PyProof.Rows L2
theorem tab_nil {α : Type} {P : α → Prop} : ∀ c ∈ ([] : List α), P c := fun _ h => nomatch h
theorem tab_cons {α : Type} {P : α → Prop} {a : α} {l : List α} (h : P a) (r : ∀ c ∈ l, P c) : ∀ c ∈ a :: l, P c := fun c q => by
  rcases List.mem_cons.mp q with e | e
  · rw [e]; exact h
  · exact r c e
theorem tab2_nil {P : Str → Bool → Prop} : ∀ c b, (c, b) ∈ ([] : List (Str × Bool)) → P c b := fun _ _ h => nomatch h
theorem tab2_cons {P : Str → Bool → Prop} {a : Str} {v : Bool} {l : List (Str × Bool)} (h : P a v) (r : ∀ c b, (c, b) ∈ l → P c b) : ∀ c b, (c, b) ∈ (a, v) :: l → P c b := fun c b q => by
  rcases List.mem_cons.mp q with e | e
  · cases e; exact h
  · exact r c b e
theorem kit_sub {K : PySem.W.Frag} {C : Addr} {T : String} {b : Bool} (h : PySem.W.subIn K (.ref C) (.type T) = some b) (m : PySem.W.kitMeta T = true) : PySem.W.kitOne K (.ref C) (.type T) = some b := by
  unfold PySem.W.kitOne
  rw [if_neg (by simp)]
  show (if PySem.W.kitMeta T = true then _ else _) = _
  rw [if_pos m]
  exact h
/-- a class is what an except clause of its own name means -/
theorem exm_mine {K : PySem.W.Frag} {S : Addr} (h1 : PySem.W.subIn K (.ref S) (.type "BaseException") = some true) (h2 : PySem.W.isClsIn K S = true) (h3 : PySem.W.typeIn K (.ref S) = some (.type "type")) (h4 : PySem.W.subIn K (.ref S) (.ref S) = some true) :
    PySem.W.exmOne K (.ref S) (.ref S) = some true := by
  have e1 : (PySem.W.subIn K (.ref S) (.type "BaseException") == some true) = true := by rw [h1] <;> rfl
  have e2 : ((PySem.W.clsIn K S).isSome && PySem.W.typeIn K (.ref S) == some (.type "type")) = true := by
    have h2' : (PySem.W.clsIn K S).isSome = true := h2
    rw [h2', h3] <;> rfl
  show (if (PySem.W.subIn K (.ref S) (.type "BaseException") == some true) = true then (if ((PySem.W.clsIn K S).isSome && PySem.W.typeIn K (.ref S) == some (.type "type")) = true then PySem.W.subIn K (.ref S) (.ref S) else none) else none) = some true
  rw [if_pos e1, if_pos e2]
  exact h4

def minI : List Int → Option Int
  | [] => none
  | n :: r => some (r.foldl (fun a b => if b < a then b else a) n)
theorem minI_spec : ∀ (r : List Int) (n : Int), r.foldl (fun a b => if b < a then b else a) n ∈ n :: r ∧ ∀ x ∈ n :: r, r.foldl (fun a b => if b < a then b else a) n ≤ x
  | [], n => ⟨List.mem_cons_self, fun x h => by rw [List.mem_singleton.mp h]; exact Int.le_refl _⟩
  | b :: r, n => by
    rw [List.foldl_cons]
    obtain ⟨h1, h2⟩ := minI_spec r (if b < n then b else n)
    refine ⟨?_, fun x hx => ?_⟩
    · rcases List.mem_cons.mp h1 with h | h
      · rw [h]
        split
        · exact List.mem_cons_of_mem _ List.mem_cons_self
        · exact List.mem_cons_self
      · exact List.mem_cons_of_mem _ (List.mem_cons_of_mem _ h)
    · have h3 := h2 _ List.mem_cons_self
      rcases List.mem_cons.mp hx with h | h
      · rw [h]
        refine Int.le_trans h3 ?_
        split <;> omega
      · rcases List.mem_cons.mp h with h | h
        · rw [h]
          refine Int.le_trans h3 ?_
          split <;> omega
        · exact h2 x (List.mem_cons_of_mem _ h)
def cMin : List PyData → Option PyData
  | [.list ds] => (ints? ds).bind fun ns => (minI ns).map .int
  | _ => none
theorem cs_min {K : PySem.W.Frag} : CallS K (rMin K) cMin := by
  intro B H xs ds d Q tr hb e q
  unfold cMin at e
  split at e
  · obtain ⟨ns, e1, e2⟩ := Option.bind_eq_some_iff.mp e
    obtain ⟨m, e3, e4⟩ := Option.map_eq_some_iff.mp e2
    cases e4
    obtain ⟨x, rfl, h⟩ := hb.one
    rw [ints_of e1] at h
    obtain ⟨p, rfl, h1⟩ := h.ints
    cases ns with
    | nil => cases e3
    | cons n r =>
      cases e3
      obtain ⟨m1, m2⟩ := minI_spec r n
      refine ⟨p, n :: r, rfl, h1, Nat.succ_pos _, fun m' h2 h3 => ?_⟩
      have : m' = r.foldl (fun a b => if b < a then b else a) n := Int.le_antisymm (h3 _ m1) (m2 _ h2)
      rw [this]
      exact q _ H (Same.refl _) (.int _)
  · cases e
namespace ExNode
section
variable {X : Cx} {C : Addr} {qual : Str} {newId B initId : String} {bmB : List Value} {nm : Str}
theorem d_mk {a : Expr} {g : EF} {p pos : Pos} {k : Nat} (F : ExcBaseFacts B newId initId bmB) (SF : StoreFacts B bmB "object.__setattr__" "object") (T : ∃ fI, Txt X.K X.mg qual newId bmB nm C fI) (hr : Room k X.A) (hk : 2 ≤ k) (ha : PD X a g) (hg : Gl X nm)
    (hdb : (nm == ("__debug__" : Str)) = false := by decide) (he : starEach (a :: []) X.env = (false, eval a X.env) :: starEach [] X.env := by rfl) (hpl : (backTo pos (starEach [] X.env)).any (·.1) = false := by rfl) :
    ∃ te, Sd X.K te g ∧ PMk X (.Call (.Name nm p) [a] [] pos) (fun σ H Q => tCons te tNil σ H fun vs H1 => ∃ v, vs = [v] ∧ ∀ d, H1 d = none → Q (.ref C) (some d) (upd H1 d (.xd [(("node" : Str), v)]))) := by
  obtain ⟨te, p1, d1⟩ := ha.run
  obtain ⟨fI, T⟩ := T
  exact ⟨te, d1, pmk F SF T hr hk (pa_cons p1 pa_nil he) hg hdb he hpl⟩
end
section
variable {K : PySem.W.Frag} {mg : Str → Option Value} {C : Addr} {qual : Str} {newId : String} {bmB : List Value} {nm : Str}
theorem e_gC (T : ∃ fI, Txt K mg qual newId bmB nm C fI) : mg nm = some (.ref C) := T.elim fun _ t => t.gC
theorem e_aC (T : ∃ fI, Txt K mg qual newId bmB nm C fI) : PySem.W.nsIn K mainGlobals nm = some (some (.ref C)) := T.elim fun _ t => t.aC
theorem e_te (T : ∃ fI, Txt K mg qual newId bmB nm C fI) : PySem.W.exmOne K (.ref C) (.ref C) = some true := T.elim fun _ t => t.te
theorem e_fld (T : ∃ fI, Txt K mg qual newId bmB nm C fI) : ∀ C', PySem.W.nsIn K mainGlobals nm = some (some (.ref C')) → FldOk K C' "node" := fun C' h => by
  obtain ⟨_, t⟩ := T
  rw [t.aC] at h
  cases h
  exact ⟨t.ga, t.gg, t.exC, t.hdC, t.no⟩
theorem e_is {cv : Value} {b : Bool} (T : ∃ fI, Txt K mg qual newId bmB nm C fI) (ok : IsOkE K C) (kit : PySem.W.kitOne K (.ref C) cv = some b) : ∀ C', PySem.W.nsIn K mainGlobals nm = some (some (.ref C')) → IsOkE K C' ∧ PySem.W.kitOne K (.ref C') cv = some b := fun C' h => by
  obtain ⟨_, t⟩ := T
  rw [t.aC] at h
  cases h
  exact ⟨ok, kit⟩
end
end ExNode

namespace ExName
section
variable {X : Cx} {C : Addr} {qual : Str} {newId B initId : String} {bmB : List Value} {nm : Str}
theorem d_mk {a : Expr} {g : EF} {p pos : Pos} {k : Nat} (F : ExcBaseFacts B newId initId bmB) (SF : StoreFacts B bmB "object.__setattr__" "object") (T : ∃ fI, Txt X.K X.mg qual newId bmB nm C fI) (hr : Room k X.A) (hk : 2 ≤ k) (ha : PD X a g) (hg : Gl X nm)
    (hdb : (nm == ("__debug__" : Str)) = false := by decide) (he : starEach (a :: []) X.env = (false, eval a X.env) :: starEach [] X.env := by rfl) (hpl : (backTo pos (starEach [] X.env)).any (·.1) = false := by rfl) :
    ∃ te, Sd X.K te g ∧ PMk X (.Call (.Name nm p) [a] [] pos) (fun σ H Q => tCons te tNil σ H fun vs H1 => ∃ v, vs = [v] ∧ ∀ d, H1 d = none → Q (.ref C) (some d) (upd H1 d (.xd [(("name" : Str), v)]))) := by
  obtain ⟨te, p1, d1⟩ := ha.run
  obtain ⟨fI, T⟩ := T
  exact ⟨te, d1, pmk F SF T hr hk (pa_cons p1 pa_nil he) hg hdb he hpl⟩
end
section
variable {K : PySem.W.Frag} {mg : Str → Option Value} {C : Addr} {qual : Str} {newId : String} {bmB : List Value} {nm : Str}
theorem e_gC (T : ∃ fI, Txt K mg qual newId bmB nm C fI) : mg nm = some (.ref C) := T.elim fun _ t => t.gC
theorem e_aC (T : ∃ fI, Txt K mg qual newId bmB nm C fI) : PySem.W.nsIn K mainGlobals nm = some (some (.ref C)) := T.elim fun _ t => t.aC
theorem e_te (T : ∃ fI, Txt K mg qual newId bmB nm C fI) : PySem.W.exmOne K (.ref C) (.ref C) = some true := T.elim fun _ t => t.te
theorem e_fld (T : ∃ fI, Txt K mg qual newId bmB nm C fI) : ∀ C', PySem.W.nsIn K mainGlobals nm = some (some (.ref C')) → FldOk K C' "name" := fun C' h => by
  obtain ⟨_, t⟩ := T
  rw [t.aC] at h
  cases h
  exact ⟨t.ga, t.gg, t.exC, t.hdC, t.no⟩
theorem e_is {cv : Value} {b : Bool} (T : ∃ fI, Txt K mg qual newId bmB nm C fI) (ok : IsOkE K C) (kit : PySem.W.kitOne K (.ref C) cv = some b) : ∀ C', PySem.W.nsIn K mainGlobals nm = some (some (.ref C')) → IsOkE K C' ∧ PySem.W.kitOne K (.ref C') cv = some b := fun C' h => by
  obtain ⟨_, t⟩ := T
  rw [t.aC] at h
  cases h
  exact ⟨ok, kit⟩
end
end ExName
end DL
namespace DL
open PySem PySem.Spec PyProof.Rows L2
/-! ### [f(..), g(..)]: a new list of two new lists -/
def fLst2 (ga gb : FF) : FFF := fun ρ => (ga ρ).bind fun p => (gb p.2).bind fun q => some ([p.1, q.1], q.2)
theorem sf_lst2 {K : PySem.W.Frag} {ta tb : TE} {ga gb : FF} (d1 : Sf K ta ga) (d2 : Sf K tb gb) : SfL K (tLst (tCons ta (tCons tb tNil))) (fLst2 ga gb) := by
  intro E B σ H ρ dss ρ' Q j e k
  simp only [fLst2, Option.bind_eq_some_iff] at e
  obtain ⟨⟨da, ρ1⟩, e1, ⟨db, ρ2⟩, e2, e3⟩ := e
  cases e3
  refine d1 E B σ H ρ da ρ1 _ j e1 fun p vs H1 hp j1 x1 s1 l1 r1 => ?_
  have no1 : ∀ (i : Nat) k ds, ρ1[i]? = some (.l k ds) → σ[i]? ≠ some (some (.ref p)) := fun i k ds q1 q2 => by
    obtain ⟨ds0, q3⟩ := s1.symm.lst q1
    obtain ⟨p', ws', g1, _, g3, _⟩ := j.own i k ds0 q3
    rw [q2] at g1
    cases g1
    rw [hp] at g3
    cases g3
  have hEp := (j.fresh hp).1
  have jp := j1.pin (o := .lst vs) (.inr rfl) hEp l1 no1
  refine d2 _ _ σ H1 ρ1 db ρ2 _ jp e2 fun q ws H2 hq j2 x2 s2 l2 r2 => ?_
  have pq : p ≠ q := fun z => by rw [z, hq] at l1; cases l1
  have hEq : (pinE E p (.lst vs)).H0 q = none := (jp.fresh hq).1
  have no2 : ∀ (i : Nat) k ds, ρ2[i]? = some (.l k ds) → σ[i]? ≠ some (some (.ref q)) := fun i k ds q1 q2 => by
    obtain ⟨ds0, q3⟩ := s2.symm.lst q1
    obtain ⟨p', ws', g1, _, g3, _⟩ := jp.own i k ds0 q3
    rw [q2] at g1
    cases g1
    rw [hq] at g3
    cases g3
  have jq := j2.pin (o := .lst ws) (.inr rfl) hEq l2 no2
  have nio : ¬ E.io p := fun z => j.b0t p (j.ioB p z) hEp
  have l1' : H2 p = some (.lst vs) := j2.keep p _ nio upd_same
  have hEq' : E.H0 q = none := by
    have z : upd E.H0 p (.lst vs) q = none := hEq
    rw [upd_ne (Ne.symm pq)] at z
    exact z
  let S : Hp := upd (upd (fun _ => none) p (.lst vs)) q (.lst ws)
  have eS : pinE (pinE E p (.lst vs)) q (.lst ws) = pinS E S := by
    show _ = pinS E (upd (upd (fun _ => none) p (.lst vs)) q (.lst ws))
    rw [← pinS_add, ← pinS_add, pinS_none]
  rw [eS] at jq
  refine ⟨by rw [sizeLine_eq]; exact (by decide : 2 ≤ 16777216), fun D hD => ?_⟩
  have pD : p ≠ D := fun z => by rw [z, hD] at l1'; cases l1'
  have qD : q ≠ D := fun z => by rw [z, hD] at l2; cases l2
  have xb := ext_block (B := fun b => (B b ∨ b = p) ∨ b = q) (o := .lst [V.ref p, .ref q]) hD
  have jD := jq.block (o := .lst [V.ref p, .ref q]) hD
  have SD : S D = none := by
    show upd (upd (fun _ => none) p (.lst vs)) q (.lst ws) D = none
    rw [upd_ne (Ne.symm qD), upd_ne (Ne.symm pD)]
  have hED : E.H0 D = none := by
    have z := (jq.fresh hD).1
    have z : (S D).or (E.H0 D) = none := z
    rw [SD] at z
    exact z
  refine k D [p, q] S _ _ (fun b z => ?_) jD ((x1.trans x2).trans xb) upd_same (.inr rfl) SD hED ⟨rfl, fun n a d h1 h2 => ?_⟩ (by simp [pq]) (fun b z => ?_) (fun i k ds q1 q2 => ?_)
  · rcases z with ((z | z) | z) | z
    · exact .inl (.inl z)
    · refine .inr ?_
      show upd (upd (fun _ => none) p (.lst vs)) q (.lst ws) b ≠ none
      rw [z, upd_ne pq, upd_same]
      simp
    · refine .inr ?_
      show upd (upd (fun _ => none) p (.lst vs)) q (.lst ws) b ≠ none
      rw [z, upd_same]
      simp
    · exact .inl (.inr z)
  · match n, h1, h2 with
    | 0, h1, h2 =>
      simp at h1 h2
      subst h1 h2
      refine ⟨vs, ?_, (r1.mono x2).mono xb⟩
      show upd (upd (fun _ => none) p (.lst vs)) q (.lst ws) p = _
      rw [upd_ne pq, upd_same]
    | 1, h1, h2 =>
      simp at h1 h2
      subst h1 h2
      exact ⟨ws, upd_same, r2.mono xb⟩
    | n + 2, h1, h2 => simp at h1
  · have z : upd (upd (fun _ => none) p (.lst vs)) q (.lst ws) b ≠ none := z
    by_cases c : b = q
    · subst c
      exact ⟨hEq', .inl (.inr rfl)⟩
    · rw [upd_ne c] at z
      by_cases c' : b = p
      · subst c'
        exact ⟨hEp, .inl (.inl (.inr rfl))⟩
      · rw [upd_ne c'] at z
        exact absurd rfl z
  · obtain ⟨p', ws', g1, _, g3, _⟩ := jq.own i k ds q1
    rw [q2] at g1
    cases g1
    rw [hD] at g3
    cases g3
theorem l_lst2 {X : Cx} {a b : Expr} {ga gb : FF} {pos : Pos} (ha : PF X a ga) (hb : PF X b gb) (h1 : starEach [a, b] X.env = (false, eval a X.env) :: starEach [b] X.env := by rfl) (h2 : starEach [b] X.env = (false, eval b X.env) :: starEach [] X.env := by rfl) : PFL X (.List [a, b] pos) (fLst2 ga gb) := by
  obtain ⟨ta, p1, d1⟩ := ha.run
  obtain ⟨tb, p2, d2⟩ := hb.run
  exact ⟨_, pe_lst (pa_cons p1 (pa_cons p2 pa_nil h2) h1), sf_lst2 d1 d2⟩
/-! ### a held list lent to a test -/
mutual
def flatD : PyData → Bool
  | .list _ => false
  | .dict _ => false
  | .tuple ds => flatL ds
  | _ => true
def flatL : List PyData → Bool
  | [] => true
  | d :: r => flatD d && flatL r
end
theorem hid_back {B : Bk} {H : Hp} {p a : Addr} {o : HO} (h : hid (fun b => B b ∧ b ≠ p) H a = some o) (n : a ≠ p) : hid B H a = some o := by
  obtain ⟨h1, h2⟩ := hid_some.mp h
  exact hid_some.mpr ⟨fun z => h1 ⟨z, n⟩, h2⟩
mutual
theorem Rp.flat {K : PySem.W.Frag} {B : Bk} {H : Hp} {p : Addr} {us : List V} (hp : H p = some (.lst us)) : ∀ (d : PyData) {v : V}, flatD d = true → Rp K (hid (fun b => B b ∧ b ≠ p) H) v d → Rp K (hid B H) v d
  | .none, _, _, h => by cases h; exact .non
  | .bool b, _, _, h => by cases h; exact .bl b
  | .int i, _, _, h => by cases h; exact .int i
  | .str x, _, _, h => by cases h; exact .str x
  | .list ds, _, f, h => by simp [flatD] at f
  | .dict ds, _, f, h => by simp [flatD] at f
  | .tuple ds, _, f, h => by
    cases h with
    | tup h1 h2 =>
      refine .tup ?_ (RpA.flat hp ds (by simpa only [flatD] using f) h2)
      have ne : ∀ {a : Addr} {o : HO}, hid (fun b => B b ∧ b ≠ p) H a = some o → (∀ xs, o ≠ .lst xs) → a ≠ p := fun e no z => by
        have q := (hid_some.mp e).2
        rw [z, hp] at q
        cases q
        exact no _ rfl
      rcases h1 with (h1 | ⟨o, h1⟩) | h1
      · exact .inl (.inl (hid_back h1 (ne h1 fun _ z => by cases z)))
      · exact .inl (.inr ⟨o, hid_back h1 (ne h1 fun _ z => by cases z)⟩)
      · exact .inr h1
theorem RpA.flat {K : PySem.W.Frag} {B : Bk} {H : Hp} {p : Addr} {us : List V} (hp : H p = some (.lst us)) : ∀ (ds : List PyData) {vs : List V}, flatL ds = true → RpA K (hid (fun b => B b ∧ b ≠ p) H) vs ds → RpA K (hid B H) vs ds
  | [], _, _, h => by cases h; exact .nil
  | d :: ds, _, f, h => by
    simp only [flatL, Bool.and_eq_true] at f
    cases h with
    | cons h1 h2 => exact .cons (Rp.flat hp d f.1 h1) (RpA.flat hp ds f.2 h2)
end
/-- what the held lists hold is flat -/
def flatR : Rho → Bool
  | [] => true
  | .l _ ds :: r => flatL ds && flatR r
  | _ :: r => flatR r
theorem flatR_at : ∀ {ρ : Rho} {i : Nat} {k : Bool} {ds : List PyData}, flatR ρ = true → ρ[i]? = some (.l k ds) → flatL ds = true
  | [], _, _, _, _, e => by simp at e
  | .l k' ds' :: r, 0, _, _, h, e => by
    simp only [flatR, Bool.and_eq_true] at h
    simp at e
    rw [← e.2]
    exact h.1
  | .l k' ds' :: r, i + 1, _, _, h, e => by
    simp only [flatR, Bool.and_eq_true] at h
    exact flatR_at (ρ := r) (i := i) h.2 (by simpa using e)
  | .un :: r, 0, _, _, _, e => by simp at e
  | .v _ :: r, 0, _, _, _, e => by simp at e
  | .w _ :: r, 0, _, _, _, e => by simp at e
  | .un :: r, i + 1, _, _, h, e => flatR_at (ρ := r) (i := i) (by simpa only [flatR] using h) (by simpa using e)
  | .v _ :: r, i + 1, _, _, h, e => flatR_at (ρ := r) (i := i) (by simpa only [flatR] using h) (by simpa using e)
  | .w _ :: r, i + 1, _, _, h, e => flatR_at (ρ := r) (i := i) (by simpa only [flatR] using h) (by simpa using e)
/-- the test sees the held list of slot i as a value -/
def bLend (i : Nat) (c : BF) : BF := fun ρ => match ρ[i]? with
  | some (.l false ds) => (c (ρ.set i (.v (.list ds)))).bind fun p => if flatR p.2 = true then some (p.1, p.2.set i (.l false ds)) else none
  | _ => none
theorem sb_lend {K : PySem.W.Frag} {t : TT} {c : BF} {i : Nat} (d : Sb K t c) : Sb K t (bLend i c) := by
  intro E B σ H ρ b ρ' Q j e q
  unfold bLend at e
  split at e
  case h_2 => cases e
  rename_i ds hi
  simp only [Option.bind_eq_some_iff] at e
  obtain ⟨⟨b1, ρ1⟩, e1, e2⟩ := e
  split at e2
  case isFalse => cases e2
  rename_i fl
  cases e2
  obtain ⟨p, vs, g1, g2, g3, g4, g5⟩ := j.own i _ _ hi
  rw [if_neg Bool.false_ne_true] at g5
  have il : i < ρ.length := (List.getElem?_eq_some_iff.mp hi).1
  have sub : Same (hid B H) (hid (fun b => B b ∧ b ≠ p) H) := hid_sub fun b z => z.1
  have j' : J K E (fun b => B b ∧ b ≠ p) σ H (ρ.set i (.v (.list ds))) := by
    refine ⟨j.keep, fun b z => ⟨j.b0 b z, fun q => j.b0t b z (by rw [q]; exact g5)⟩, fun b z => j.bn b z.1, j.b0t, fun b z => j.bt b z.1, j.ioB, by rw [List.length_set]; exact j.len, fun n d q => ?_, fun n k ds' q => ?_, fun n n' k ds1 k' ds2 p' q q' r r' => ?_, fun n ds' q => ?_⟩
    · rcases set_get q with ⟨rfl, e1, _⟩ | ⟨hn, q⟩
      · cases e1
        exact ⟨_, g1, .lst (hid_some.mpr ⟨fun z => z.2 rfl, g3⟩) (g4.mono sub)⟩
      · obtain ⟨x, h1, h2⟩ := j.val n d q
        exact ⟨x, h1, h2.mono sub⟩
    · rcases set_get q with ⟨_, e1, _⟩ | ⟨hn, q⟩
      · cases e1
      · obtain ⟨p', ws', k1, k2, k3, k4, k5⟩ := j.own n k ds' q
        refine ⟨p', ws', k1, ⟨k2, fun z => hn ?_⟩, k3, k4.mono sub, k5⟩
        rw [z] at k1
        exact j.inj n i _ _ _ _ p q hi k1 g1
    · rcases set_get q with ⟨_, e1, _⟩ | ⟨hn, q⟩
      · cases e1
      · rcases set_get q' with ⟨_, e1, _⟩ | ⟨hn', q'⟩
        · cases e1
        · exact j.inj n n' _ _ _ _ p' q q' r r'
    · rcases set_get q with ⟨_, e1, _⟩ | ⟨hn, q⟩
      · cases e1
      · obtain ⟨p', ws', h1, h2, h3⟩ := j.wr n ds' q
        exact ⟨p', ws', h1, Same.seq sub h2, h3.mono sub⟩
  refine d E _ σ H _ b1 ρ1 _ j' e1 fun H' j1 x1 s1 => ?_
  have hp' : H' p = some (.lst vs) := (hid_some.mp (x1 p _ (hid_some.mpr ⟨fun z => z.2 rfl, g3⟩))).2
  have xB : Ext B H B H' := fun b o z => by
    obtain ⟨nb, z⟩ := hid_some.mp z
    exact hid_some.mpr ⟨nb, (hid_some.mp (x1 b o (hid_some.mpr ⟨fun w => nb w.1, z⟩))).2⟩
  have back : ∀ {n : Nat} {s : Sl}, n ≠ i → (ρ1.set i (.l false ds))[n]? = some s → ρ1[n]? = some s := fun hn q => by rw [List.getElem?_set_ne (Ne.symm hn)] at q; exact q
  have fore : ∀ {n : Nat}, n ≠ i → (ρ.set i (.v (.list ds)))[n]? = ρ[n]? := fun hn => List.getElem?_set_ne (Ne.symm hn)
  have len1 : ρ1.length = ρ.length := by rw [← s1.len, List.length_set]
  have noP : ∀ (n : Nat) k ds', n ≠ i → ρ1[n]? = some (.l k ds') → σ[n]? ≠ some (some (.ref p)) := fun n k ds' hn q1 q2 => by
    obtain ⟨p', ws', k1, k2, _⟩ := j1.own n k ds' q1
    rw [q2] at k1
    cases k1
    exact k2.2 rfl
  refine q H' ⟨j1.keep, j.b0, j.bn, j.b0t, fun b z => ?_, j.ioB, by rw [List.length_set, len1]; exact j.len, fun n d' z => ?_, fun n k ds' z => ?_, fun n n' k ds1 k' ds2 p' z z' r r' => ?_, fun n ds' z => ?_⟩ xB ?_
  · by_cases w : b = p
    · rw [w, hp']; simp
    · exact j1.bt b ⟨z, w⟩
  · rcases set_get z with ⟨_, e1, _⟩ | ⟨hn, z⟩
    · cases e1
    · have z0 := s1.symm.val z
      rw [fore hn] at z0
      obtain ⟨x, h1, h2⟩ := j.val n d' z0
      exact ⟨x, h1, h2.ext xB⟩
  · rcases set_get z with ⟨rfl, e1, _⟩ | ⟨hn, z⟩
    · cases e1
      exact ⟨p, vs, g1, g2, hp', g4.mono xB, by rw [if_neg Bool.false_ne_true]; exact g5⟩
    · obtain ⟨p', ws', k1, k2, k3, k4, k5⟩ := j1.own n k ds' z
      exact ⟨p', ws', k1, k2.1, k3, RpA.flat hp' ds' (flatR_at fl z) k4, k5⟩
  · rcases set_get z with ⟨hn1, e1, _⟩ | ⟨hn, z⟩
    · rcases set_get z' with ⟨hn2, e2, _⟩ | ⟨hn', z'⟩
      · rw [hn1, hn2]
      · rw [hn1, g1] at r
        cases r
        exact absurd r' (noP n' _ _ hn' z')
    · rcases set_get z' with ⟨hn2, e2, _⟩ | ⟨hn', z'⟩
      · rw [hn2, g1] at r'
        cases r'
        exact absurd r (noP n _ _ hn z)
      · exact j1.inj n n' _ _ _ _ p' z z' r r'
  · rcases set_get z with ⟨_, e1, _⟩ | ⟨hn, z⟩
    · cases e1
    · have z0 := s1.symm.wr z
      rw [fore hn] at z0
      obtain ⟨p', ws', h1, h2, h3⟩ := j.wr n ds' z0
      exact ⟨p', ws', h1, Same.seq xB h2, h3.mono xB⟩
  · refine Shp.of_at (by rw [List.length_set, len1]) fun n => ?_
    by_cases hn : n = i
    · subst hn
      rw [hi, List.getElem?_set_self (by rw [len1]; exact il)]
    · rw [List.getElem?_set_ne (Ne.symm hn), ← fore hn]
      exact s1.at n
theorem b_lend {X : Cx} {e : Expr} {c : BF} (i : Nat) (h : PB X e c) : PB X e (bLend i c) := by
  obtain ⟨t, p, d⟩ := h.run
  exact ⟨t, p, sb_lend d⟩
end DL
namespace DL
open PySem PySem.Spec PyProof.Rows L2
/-! ### {"a": x, ..}[e], the dict used at once -/
def dVals : List (Str × EF) → Rho → Option (List (Str × PyData) × Rho)
  | [], ρ => some ([], ρ)
  | (k, g) :: r, ρ => (g ρ).bind fun p => match p.1 with
    | .d d => (dVals r p.2).map fun q => ((k, d) :: q.1, q.2)
    | .s _ => none
def DvOk (K : PySem.W.Frag) (H : Hp) : List (Str × PyData) → List (V × V) → Prop
  | [], [] => True
  | (k, d) :: r, (x, y) :: s => x = .str k ∧ Rp K H y d ∧ DvOk K H r s
  | _, _ => False
theorem DvOk.mono {K : PySem.W.Frag} {H H' : Hp} (e : Same H H') : ∀ {kds : List (Str × PyData)} {ps : List (V × V)}, DvOk K H kds ps → DvOk K H' kds ps
  | [], [], _ => trivial
  | (k, d) :: r, (x, y) :: s, h => ⟨h.1, h.2.1.mono e, DvOk.mono e h.2.2⟩
  | [], _ :: _, h => h.elim
  | _ :: _, [], h => h.elim
def Sv (K : PySem.W.Frag) (trs : List (TE × TE)) (kgs : List (Str × EF)) : Prop := ∀ (E : En) (B : Bk) (σ : L2.St) (H : Hp) (ρ : Rho) (kds : List (Str × PyData)) (ρ' : Rho) (Q : List (V × V) → Hp → Prop), J K E B σ H ρ → dVals kgs ρ = some (kds, ρ') →
  (∀ ps H', J K E B σ H' ρ' → Ext B H B H' → Shp ρ ρ' → DvOk K (hid B H') kds ps → Q ps H') → tPairs trs σ H Q
structure PPD (X : Cx) (pos : Pos) (keys : List (Option Expr)) (values : List Expr) (kgs : List (Str × EF)) : Prop where
  run : ∃ trs, PPs X pos keys values trs ∧ Sv X.K trs kgs
section
variable {X : Cx} {pos p1 p2 : Pos} {ks : List (Option Expr)} {vs : List Expr} {kgs : List (Str × EF)}
theorem pd_nil : PPD X pos [] [] [] := ⟨[], pps_nil, fun E B σ H ρ kds ρ' Q j e q => by
  cases e
  exact q [] H j Ext.refl (Shp.refl _) trivial⟩
theorem pd_cons {k : Str} {n : Nat} {v : Expr} {g : EF} (hv : PD X v g) (hr : PPD X pos ks vs kgs) : PPD X pos (some (.Constant (.str k) n p1) :: ks) (v :: vs) ((k, g) :: kgs) := by
  obtain ⟨tv, pv, dv⟩ := hv.run
  obtain ⟨trs, pr, dr⟩ := hr.run
  refine ⟨(tC (.str k), tv) :: trs, pps_cons pe_str pv pr, ?_⟩
  intro E B σ H ρ kds ρ' Q j e q
  simp only [dVals, Option.bind_eq_some_iff] at e
  obtain ⟨⟨a, ρ1⟩, e1, e2⟩ := e
  cases a with
  | s i => cases e2
  | d d =>
    obtain ⟨⟨rest, ρ2⟩, e3, e4⟩ := Option.map_eq_some_iff.mp e2
    cases e4
    exact dv E B σ H ρ _ ρ1 _ j e1 fun y H1 j1 x1 s1 o1 => dr E B σ H1 ρ1 rest ρ2 _ j1 e3 fun ps H2 j2 x2 s2 ok => q _ H2 j2 (x1.trans x2) (s1.trans s2) ⟨rfl, Rp.ext x2 o1, ok⟩
end
theorem dv_keys {K : PySem.W.Frag} {H : Hp} : ∀ {kds : List (Str × PyData)} {ps : List (V × V)}, DvOk K H kds ps → ∃ kvs : List (Key × V), ps = kvs.map (fun kv => (kV kv.1, kv.2)) ∧ kvs.length = kds.length ∧ kvs.map (·.1) = kds.map (fun p => Sum.inr p.1) ∧
    ∀ k d, kds.lookup k = some d → ∃ y, valV kvs (Sum.inr k) = some y ∧ Rp K H y d
  | [], [], _ => ⟨[], rfl, rfl, rfl, fun k d h => by cases h⟩
  | (k, d) :: r, (x, y) :: s, h => by
    obtain ⟨rfl, h2, h3⟩ := h
    obtain ⟨kvs, e1, e2, e3, e4⟩ := dv_keys h3
    refine ⟨(Sum.inr k, y) :: kvs, by rw [e1]; rfl, by rw [List.length_cons, List.length_cons, e2], by rw [List.map_cons, List.map_cons, e3], fun k' d' hl => ?_⟩
    simp only [List.lookup_cons] at hl
    by_cases hk : k' = k
    · subst hk
      rw [beq_self_eq_true] at hl
      cases hl
      exact ⟨y, valV_pos rfl, h2⟩
    · have hk' : (k' == k) = false := by simpa using hk
      rw [hk'] at hl
      obtain ⟨y', q1, q2⟩ := e4 k' d' hl
      exact ⟨y', by rw [valV_neg (fun z => hk (by cases z; rfl))]; exact q1, q2⟩
  | [], _ :: _, h => h.elim
  | _ :: _, [], h => h.elim
theorem merge_new : ∀ (more acc : List (Key × V)), ((acc ++ more).map (·.1)).Nodup → mergeK acc more = acc ++ more
  | [], acc, _ => by simp [mergeK]
  | p :: r, acc, h => by
    have hn : (acc.any fun kv => decide (kv.1 = p.1)) = false := by
      rw [List.any_eq_false]
      intro kv hkv z
      have z : kv.1 = p.1 := by simpa using z
      rw [List.map_append, List.nodup_append] at h
      exact h.2.2 kv.1 (List.mem_map.mpr ⟨kv, hkv, rfl⟩) p.1 (by simp) z
    have e : putK acc p.1 p.2 = acc ++ [p] := by
      unfold putK
      rw [if_neg (by rw [hn]; exact Bool.false_ne_true)]
    show mergeK (putK acc p.1 p.2) r = _
    rw [e, merge_new r (acc ++ [p]) (by rw [List.append_assoc]; exact h), List.append_assoc]
    rfl
def gDix (kgs : List (Str × EF)) (gi : EF) : EF := fun ρ => (dVals kgs ρ).bind fun p => (gi p.2).bind fun q => match q.1 with
  | .d (.str k) => (p.1.lookup k).map fun d => (.d d, q.2)
  | _ => none
theorem dv_fst : ∀ {kgs : List (Str × EF)} {ρ ρ' : Rho} {kds : List (Str × PyData)}, dVals kgs ρ = some (kds, ρ') → kds.map (·.1) = kgs.map (·.1)
  | [], _, _, _, h => by cases h; rfl
  | (k, g) :: r, ρ, ρ', kds, h => by
    simp only [dVals, Option.bind_eq_some_iff] at h
    obtain ⟨⟨a, ρ1⟩, e1, e2⟩ := h
    cases a with
    | s i => cases e2
    | d d =>
      obtain ⟨⟨rest, ρ2⟩, e3, e4⟩ := Option.map_eq_some_iff.mp e2
      cases e4
      rw [List.map_cons, List.map_cons, dv_fst e3]
theorem d_dix {X : Cx} {pos pos2 : Pos} {keys : List (Option Expr)} {values : List Expr} {kgs : List (Str × EF)} {i : Expr} {gi : EF} {k : Nat} (hr : Room k X.A) (hd : PPD X pos keys values kgs) (hi : PD X i gi) (nd : (kgs.map (·.1)).Nodup) (l15 : kgs.length ≤ 15)
    (hall : keys.all (·.isSome) = true := by rfl) (hl : keys.length = values.length := by rfl) (h0 : keys ≠ [] := by exact fun z => nomatch z) (h15 : keys.length ≤ 15 := by decide) (hs : NoSl i := by exact fun _ _ => rfl) : PD X (.Subscript (.Dict keys values pos) i pos2) (gDix kgs gi) := by
  obtain ⟨trs, pp, sv⟩ := hd.run
  obtain ⟨ti, p2, d2⟩ := hi.run
  refine ⟨_, pe_dget (hu_of hr) (pe_disp pp hall hl h0 h15) p2 hs, ?_⟩
  intro E B σ H ρ a ρ' Q j e q
  simp only [gDix, Option.bind_eq_some_iff] at e
  obtain ⟨⟨kds, ρ1⟩, e1, ⟨a2, ρ2⟩, e2, e3⟩ := e
  split at e3
  case h_2 => cases e3
  rename_i key ha
  simp only at ha
  subst ha
  obtain ⟨dd, e4, e5⟩ := Option.map_eq_some_iff.mp e3
  cases e5
  intro p hp
  have hE := (j.fresh hp).1
  have bnp : ∀ b, (B b ∨ b = p) → E.B0 b ∨ E.H0 b = none := fun b z => z.elim (j.bn b) fun z => .inr (by rw [z]; exact hE)
  have noAt : ∀ {H1 : Hp} {ρ1 : Rho}, Shp ρ ρ1 → ∀ (n : Nat) k ds, ρ1[n]? = some (.l k ds) → σ[n]? ≠ some (some (.ref p)) := fun s n k ds q1 q2 => by
    obtain ⟨ds0, q3⟩ := s.symm.lst q1
    obtain ⟨p', ws', g1, _, g3, _⟩ := j.own n k ds0 q3
    rw [q2] at g1
    cases g1
    rw [hp] at g3
    cases g3
  have jp := (j.block (o := .dK []) hp).pin (.inr rfl) hE upd_same (noAt (H1 := H) (Shp.refl ρ))
  refine sv _ _ σ _ ρ kds ρ1 _ jp e1 fun ps H2 j2 x2 s2 ok => ?_
  obtain ⟨j2', l2, no2⟩ := j2.unpin hE j.b0t j.ioB bnp
  obtain ⟨kvs, k1, k2, k3, k4⟩ := dv_keys ok
  have nk : (kvs.map (·.1)).Nodup := by
    rw [k3]
    have f := dv_fst e1
    have : (kds.map (·.1)).Nodup := by rw [f]; exact nd
    have g : kds.map (fun p => (Sum.inr p.1 : Key)) = (kds.map (·.1)).map Sum.inr := by rw [List.map_map]; rfl
    rw [g]
    exact List.Pairwise.map _ (fun x y h z => h (Sum.inr.inj z)) this
  have mk : mergeK [] kvs = kvs := merge_new kvs [] nk
  have kl : kvs.length ≤ 15 := by
    have f := congrArg List.length (dv_fst e1)
    rw [List.length_map, List.length_map] at f
    omega
  refine ⟨l2, kvs, k1, kl, ?_⟩
  rw [mk]
  obtain ⟨j3, x3⟩ := j2'.behind (o := .dK kvs) (.inr rfl) hE no2
  have jp3 := j3.pin (.inr rfl) hE upd_same no2
  refine d2 _ _ σ _ ρ1 _ ρ2 _ jp3 e2 fun y H4 j4 x4 s4 o4 => ?_
  obtain ⟨j4', l4, no4⟩ := j4.unpin hE j.b0t j.ioB bnp
  have ey : y = .str key := by
    have o4 : Rp X.K _ y (.str key) := o4
    cases o4
    rfl
  subst ey
  obtain ⟨v, q1, q2⟩ := k4 key dd e4
  have g := DGet.k (k := Sum.inr key) l4
  rw [q1] at g
  have xx : Ext B H B H4 := (((ext_block hp).trans x2).trans (x3.trans x4)).trans (hid_sub fun b z => .inl z)
  have ss := s2.trans s4
  refine ⟨p, v, rfl, g, q v H4 (j.unblock hp ss j4') xx ss ?_⟩
  exact (q2.mono (x3.trans x4)).mono (hid_sub fun b z => .inl z)
/-! ### a + b of lists, as a new list -/
def fAddF (ga gb : EF) : FF := fun ρ => (ga ρ).bind fun p => (gb p.2).bind fun q => (res q.2 p.1).bind fun x => (res q.2 q.1).bind fun y => match x, y with
  | .list xs, .list ys => if xs.length + ys.length ≤ 1000000 then some (xs ++ ys, q.2) else none
  | _, _ => none
theorem f_add {X : Cx} {pos : Pos} {a b : Expr} {ga gb : EF} (ha : PD X a ga) (hb : PD X b gb) : PF X (.BinOp a .Add b pos) (fAddF ga gb) := by
  obtain ⟨ta, p1, d1⟩ := ha.run
  obtain ⟨tb, p2, d2⟩ := hb.run
  refine ⟨_, pe_op op_catS p1 p2, ?_⟩
  intro E B σ H ρ ds ρ' Q j e k
  simp only [fAddF, Option.bind_eq_some_iff] at e
  obtain ⟨⟨a1, ρ1⟩, e1, ⟨a2, ρ2⟩, e2, x, e3, y, e4, e5⟩ := e
  split at e5
  case h_2 => cases e5
  rename_i xs ys
  split at e5
  case isFalse => cases e5
  rename_i hz
  cases e5
  refine d1 E B σ H ρ a1 ρ1 _ j e1 fun u H1 j1 x1 s1 o1 => ?_
  refine d2 E B σ H1 ρ1 a2 ρ2 _ j1 e2 fun w H2 j2 x2 s2 o2 => ?_
  obtain ⟨p, us, rfl, l1, r1⟩ := ((o1.later x2 s2).bd j2 e3).list
  obtain ⟨q, ws, rfl, l2, r2⟩ := (o2.bd j2 e4).list
  have cat : ∀ z, H2 z = none → Q (.ref z) (upd H2 z (.lst (us ++ ws))) := fun z hz0 => by
    have h0 : H z = none := free_back j1 x1 (free_back j2 x2 hz0)
    exact k z _ _ h0 (j2.block hz0) ((x1.trans x2).trans (ext_block hz0)) (s1.trans s2) upd_same ((r1.app r2).mono (ext_block hz0))
  have hlen : us.length + ws.length ≤ sizeLine := by rw [r1.length, r2.length]; exact Nat.le_trans hz (by rw [sizeLine_eq]; decide)
  exact ⟨p, q, us, ws, rfl, rfl, l1, l2, hlen, cat⟩
/-! ### a call by keywords, of a new list -/
def fCallK (F : FnF) (gA : List Ar → List Ar → List Ar) (g gk : AF) : FF := fun ρ => (g ρ).bind fun p => (gk p.2).bind fun q => (toSls q.2 (gA p.1 q.1)).bind fun as => if (slotsOf (gA p.1 q.1)).Nodup then (F as).bind fun r => if sameKind as r.2 = true then (match r.1 with
  | .list ds => some (ds, put q.2 (gA p.1 q.1) r.2)
  | _ => none) else none else none
theorem sf_callK {K : PySem.W.Frag} {n m : Nat} {F : FnF} {gV : List V → List V → List V} {gA : List Ar → List Ar → List Ar} {t tk : TA} {g gk : AF} (o : Ord n m gV gA) (h : Sa K t g) (hk : Sa K tk gk) (hn : ∀ ρ as ρ', g ρ = some (as, ρ') → as.length = n) (hm : ∀ ρ as ρ', gk ρ = some (as, ρ') → as.length = m) :
    Sf K (tCallK (spF K (n + m) F) gV E0 t tk) (fCallK F gA g gk) := by
  intro E B σ H ρ a ρ' Q j e q
  simp only [fCallK, Option.bind_eq_some_iff] at e
  obtain ⟨⟨ars, ρ1⟩, e1, ⟨brs, ρ2⟩, e1', as, e2, e3⟩ := e
  split at e3
  · rename_i nd
    simp only [Option.bind_eq_some_iff] at e3
    obtain ⟨⟨d, outs⟩, e4, e5⟩ := e3
    split at e5
    · rename_i sk
      split at e5
      · rename_i ds hd
        simp only at hd
        subst hd
        cases e5
        refine h E B σ H ρ ars ρ1 _ j e1 fun vs H1 j1 x1 s1 o1 => ?_
        refine hk E B σ H1 ρ1 brs ρ2 _ j1 e1' fun zs H2 j2 x2 s2 o2 => ?_
        have oo := o.ok (o1.later x2 s2) o2 (hn _ _ _ e1) (hm _ _ _ e1')
        refine ⟨B, as, _, outs, ?_, j2.argIn oo e2 nd, e4, fun p ws H3 hp pa hl rp => ?_⟩
        · rw [ars_len oo]; exact o.len (hn _ _ _ e1) (hm _ _ _ e1')
        · obtain ⟨j3, x3⟩ := j2.called (B' := fun b => B b ∨ b = p) oo e2 nd sk pa (fun _ z => .inl z) (fun b z => z.elim .inl fun z => .inr (by rw [z]; exact hp)) (fun b z nz => by
            rcases z with z | z
            · exact absurd z nz
            · rw [z, hl]; simp)
          exact q p ws H3 (free_back j1 x1 (free_back j2 x2 hp)) j3 ((x1.trans x2).trans x3) ((s1.trans s2).trans (put_shp _ _ _)) hl rp
      · cases e5
    · cases e5
  · cases e3
theorem fcallK0 {X : Cx} {k m : Nat} {f : Addr} {fd : FuncData} {ps ks : List Str} {x : Str} {p pos : Pos} {kws : List Keyword} {gk : AF} {F : FnF} {gl : List Value → List Value → List Value} {gV : List V → List V → List V} {gA : List Ar → List Ar → List Ar}
    (G : FnOk X.prog X.w X.K X.mg X.base CX0 k f fd ps (spF X.K (0 + m) F)) (hr : Room k X.A) (hg : Gl X x) (hm : X.mg x = some (.ref f)) (hk : PySem.W.keepIn X.K (.ref f) = true) (hb : KBinds X.K fd ps ks gl gV) (o : Ord 0 m gV gA)
    (hkw : PKD X kws gk) (hmm : ∀ ρ as ρ', gk ρ = some (as, ρ') → as.length = m)
    (hall : (backToKw pos (keywordEach kws X.env)).all (·.1.isSome) = true := by rfl) (hks : (backToKw pos (keywordEach kws X.env)).filterMap (·.1) = ks := by rfl)
    (hdb : (x == ("__debug__" : Str)) = false := by decide)
    (hpl : ((backTo pos (starEach [] X.env)).any (·.1) || (backToKw pos (keywordEach kws X.env)).any (·.1.isNone)) = false := by rfl) :
    PF X (.Call (.Name x p) [] kws pos) (fCallK F gA gNil gk) := by
  obtain ⟨tk, p2, d2⟩ := hkw.run
  refine ⟨_, pe_callK0 G hr hg hm hk hb p2 hall hks hdb hpl, sf_callK o (fun E B σ H ρ as ρ' Q j e q => by
    cases e
    exact q [] H j Ext.refl (Shp.refl _) .nil) d2 len_nil hmm⟩
end DL
namespace DL
open PySem PySem.Spec PyProof.Rows L2
/-- what the module says of an own class of errors that has no __init__ -/
structure BareTxt (K : PySem.W.Frag) (newId : String) (bmB : List Value) (C : Addr) : Prop where
  q : PySem.W.excIn K C bmB newId = true
  kC : PySem.W.keepIn K (.ref C) = true
  exC : PySem.W.subIn K (.ref C) (.type "BaseException") = some true
  tyC : PySem.W.typeIn K (.ref C) = some (.type "type")
theorem hits_of {X : Cx} {K : PySem.W.Frag} {tst : Expr} {c : Str} {C0 : Addr} (a : PySem.W.nsIn K mainGlobals c = some (some (.ref C0))) (h : Hits X tst C0) : ∀ C, PySem.W.nsIn K mainGlobals c = some (some (.ref C)) → Hits X tst C := fun C e => by
  rw [a] at e
  cases e
  exact h
theorem e_is2 {K : PySem.W.Frag} {c : Str} {C0 : Addr} {cv : Value} {b : Bool} (a : PySem.W.nsIn K mainGlobals c = some (some (.ref C0))) (ok : IsOkE K C0) (kit : PySem.W.kitOne K (.ref C0) cv = some b) : ∀ C, PySem.W.nsIn K mainGlobals c = some (some (.ref C)) → IsOkE K C ∧ PySem.W.kitOne K (.ref C) cv = some b := fun C e => by
  rw [a] at e
  cases e
  exact ⟨ok, kit⟩
/-- class S asked of errors of class T -/
theorem exm_of {K : PySem.W.Frag} {S : Addr} {t : Value} {b : Bool} (h1 : PySem.W.subIn K (.ref S) (.type "BaseException") = some true) (h2 : PySem.W.isClsIn K S = true) (h3 : PySem.W.typeIn K (.ref S) = some (.type "type")) (h4 : PySem.W.subIn K t (.ref S) = some b) :
    PySem.W.exmOne K t (.ref S) = some b := by
  have e1 : (PySem.W.subIn K (.ref S) (.type "BaseException") == some true) = true := by rw [h1] <;> rfl
  have e2 : ((PySem.W.clsIn K S).isSome && PySem.W.typeIn K (.ref S) == some (.type "type")) = true := by
    have h2' : (PySem.W.clsIn K S).isSome = true := h2
    rw [h2', h3] <;> rfl
  show (if (PySem.W.subIn K (.ref S) (.type "BaseException") == some true) = true then (if ((PySem.W.clsIn K S).isSome && PySem.W.typeIn K (.ref S) == some (.type "type")) = true then PySem.W.subIn K t (.ref S) else none) else none) = some b
  rw [if_pos e1, if_pos e2]
  exact h4
theorem kit_same {K : PySem.W.Frag} {S : Addr} : PySem.W.kitOne K (.ref S) (.ref S) = some true := by
  unfold PySem.W.kitOne
  rw [if_pos (by simp)]
theorem kit_cls_of {K : PySem.W.Frag} {S T : Addr} {b : Bool} (hn : ((Value.ref T) == (Value.ref S)) = false) (h2 : PySem.W.isClsIn K S = true) (h3 : PySem.W.typeIn K (.ref S) = some (.type "type")) (h4 : PySem.W.subIn K (.ref T) (.ref S) = some b) :
    PySem.W.kitOne K (.ref T) (.ref S) = some b := by
  have e2 : ((PySem.W.clsIn K S).isSome && PySem.W.typeIn K (.ref S) == some (.type "type")) = true := by
    have h2' : (PySem.W.clsIn K S).isSome = true := h2
    rw [h2', h3] <;> rfl
  unfold PySem.W.kitOne
  rw [if_neg (by rw [hn]; simp)]
  show (if ((PySem.W.clsIn K S).isSome && PySem.W.typeIn K (.ref S) == some (.type "type")) = true then PySem.W.subIn K (.ref T) (.ref S) else none) = some b
  rw [if_pos e2]
  exact h4
/-! ### calls by keywords that leave a default out -/
structure OrdD (n m l : Nat) (gV : List V → List V → List V) (gA : List Ar → List Ar → List Ar) : Prop where
  ok : ∀ {K B σ H ρ vs zs as bs}, ArsOk K B σ H ρ vs as → ArsOk K B σ H ρ zs bs → as.length = n → bs.length = m → ArsOk K B σ H ρ (gV vs zs) (gA as bs)
  len : ∀ {as bs}, as.length = n → bs.length = m → (gA as bs).length = l
theorem sd_callKD {K : PySem.W.Frag} {n m l : Nat} {F : FnF} {gV : List V → List V → List V} {gA : List Ar → List Ar → List Ar} {t tk : TA} {g gk : AF} (o : OrdD n m l gV gA) (h : Sa K t g) (hk : Sa K tk gk) (hn : ∀ ρ as ρ', g ρ = some (as, ρ') → as.length = n) (hm : ∀ ρ as ρ', gk ρ = some (as, ρ') → as.length = m) :
    Sd K (tCallK (spD K l F) gV E0 t tk) (gCallK F gA g gk) := by
  intro E B σ H ρ a ρ' Q j e q
  simp only [gCallK, Option.bind_eq_some_iff] at e
  obtain ⟨⟨ars, ρ1⟩, e1, ⟨brs, ρ2⟩, e1', as, e2, e3⟩ := e
  split at e3
  · rename_i nd
    simp only [Option.bind_eq_some_iff] at e3
    obtain ⟨⟨d, outs⟩, e4, e5⟩ := e3
    split at e5
    · rename_i sk
      cases e5
      refine h E B σ H ρ ars ρ1 _ j e1 fun vs H1 j1 x1 s1 o1 => ?_
      refine hk E B σ H1 ρ1 brs ρ2 _ j1 e1' fun zs H2 j2 x2 s2 o2 => ?_
      have oo := o.ok (o1.later x2 s2) o2 (hn _ _ _ e1) (hm _ _ _ e1')
      refine ⟨B, as, d, outs, ?_, j2.argIn oo e2 nd, e4, fun v H3 pa rp => ?_⟩
      · rw [ars_len oo]; exact o.len (hn _ _ _ e1) (hm _ _ _ e1')
      · obtain ⟨j3, x3⟩ := j2.called oo e2 nd sk pa (fun _ z => z) (fun _ z => .inl z) (fun _ z nz => absurd z nz)
        exact q v H3 j3 ((x1.trans x2).trans x3) ((s1.trans s2).trans (put_shp _ _ _)) rp
    · cases e5
  · cases e3
section
variable {X : Cx} {k n m l : Nat} {f : Addr} {fd : FuncData} {ps ks : List Str} {x : Str} {p pos : Pos} {e : Expr} {es : List Expr} {kws : List Keyword} {g gk : AF} {F : FnF} {gV : List V → List V → List V} {gA : List Ar → List Ar → List Ar}
theorem dcallKD (G : FnOk X.prog X.w X.K X.mg X.base CX0 k f fd ps (spD X.K l F)) (hr : Room k X.A) (hg : Gl X x) (hm : X.mg x = some (.ref f)) (hk : PySem.W.keepIn X.K (.ref f) = true) (hb : ∃ gl, KBinds X.K fd ps ks gl gV) (o : OrdD n m l gV gA)
    (ha : PAD X (e :: es) g) (hkw : PKD X kws gk) (hn : ∀ ρ as ρ', g ρ = some (as, ρ') → as.length = n) (hmm : ∀ ρ as ρ', gk ρ = some (as, ρ') → as.length = m)
    (hall : (backToKw pos (keywordEach kws X.env)).all (·.1.isSome) = true := by rfl) (hks : (backToKw pos (keywordEach kws X.env)).filterMap (·.1) = ks := by rfl)
    (hdb : (x == ("__debug__" : Str)) = false := by decide) (he : starEach (e :: es) X.env = (false, eval e X.env) :: starEach es X.env := by rfl)
    (hpl : ((backTo pos (starEach (e :: es) X.env)).any (·.1) || (backToKw pos (keywordEach kws X.env)).any (·.1.isNone)) = false := by rfl) :
    PD X (.Call (.Name x p) (e :: es) kws pos) (gCallK F gA g gk) := by
  obtain ⟨t, p1, d1⟩ := ha.run
  obtain ⟨tk, p2, d2⟩ := hkw.run
  obtain ⟨gl, hb⟩ := hb
  exact ⟨_, pe_callK G hr hg hm hk hb pass0 p1 p2 hall hks hdb he hpl, sd_callKD o d1 d2 hn hmm⟩
theorem dcallKD0 (G : FnOk X.prog X.w X.K X.mg X.base CX0 k f fd ps (spD X.K l F)) (hr : Room k X.A) (hg : Gl X x) (hm : X.mg x = some (.ref f)) (hk : PySem.W.keepIn X.K (.ref f) = true) (hb : ∃ gl, KBinds X.K fd ps ks gl gV) (o : OrdD 0 m l gV gA)
    (hkw : PKD X kws gk) (hmm : ∀ ρ as ρ', gk ρ = some (as, ρ') → as.length = m)
    (hall : (backToKw pos (keywordEach kws X.env)).all (·.1.isSome) = true := by rfl) (hks : (backToKw pos (keywordEach kws X.env)).filterMap (·.1) = ks := by rfl)
    (hdb : (x == ("__debug__" : Str)) = false := by decide)
    (hpl : ((backTo pos (starEach [] X.env)).any (·.1) || (backToKw pos (keywordEach kws X.env)).any (·.1.isNone)) = false := by rfl) :
    PD X (.Call (.Name x p) [] kws pos) (gCallK F gA gNil gk) := by
  obtain ⟨tk, p2, d2⟩ := hkw.run
  obtain ⟨gl, hb⟩ := hb
  refine ⟨_, pe_callK0 G hr hg hm hk hb p2 hall hks hdb hpl, sd_callKD o (fun E B σ H ρ as ρ' Q j e q => by
    cases e
    exact q [] H j Ext.refl (Shp.refl _) .nil) d2 len_nil hmm⟩
end
/-- the one keyword-only parameter, of a text as default, is left out -/
theorem kb_mkDD {K : PySem.W.Frag} {x qual : Str} {pa : Arguments} {bd : List Stmt} {sc : Scope} {q y : Str} {f : Addr} {fd : FuncData} {ps ks : List Str} {g : {α : Type} → α → List α → List α → List α} {n m : Nat} (F : FunD K x qual pa bd sc [] [(q, .str y)] f fd)
    (h : ∀ (D : Addr) (doc pm : Value) (an : Option Addr) (cdv ct v : Value) (us ws : List Value), us.length = n → ws.length = m → KwChain D [(q, v)] (bindArgs (PySem.W.fnOf x qual pa bd sc .none (.ref D) doc pm an cdv ct) ⟨us, ks.zip ws⟩) (ps.zip (g v us ws)))
    (hl : ∀ (v : Value) (us ws : List Value), (g v us ws).length = ps.length → us.length = n ∧ ws.length = m)
    (hr : ∀ {vs us zs ws v}, RelV (.str y) v → Vals vs us → Vals zs ws → Vals (g (V.str y) vs zs) (g v us ws)) : ∃ gl, KBinds K fd ps ks gl (g (V.str y)) := by
  obtain ⟨oc, od, dV, kV, doc, pm, an, cdv, ct, osl, rfl, lk, hcd, hD, hK⟩ := F.ex
  rcases hD with ⟨_, rfl⟩ | ⟨e, _⟩
  · rcases hK with e | ⟨D, rfl, hq⟩
    · cases e
    · obtain ⟨v, hv, rv⟩ := hq _ List.mem_cons_self
      refine ⟨g v, fun s us ws X l => ?_, fun r1 r2 => hr rv r1 r2⟩
      obtain ⟨l1, l2⟩ := hl v us ws l
      exact BindsTo.of_looks fun M => KwChain.looks X (fun p hp => by rw [List.mem_singleton.mp hp]; exact hv) (h D doc pm an cdv ct v us ws l1 l2)
  · exact absurd rfl e
end DL
/-! {}, xs[::-1], tuple(xs) -/
namespace DL
open PySem PySem.Spec PyProof.Rows L2
section
variable {X : Cx} {pos : Pos}
theorem d_dct : PD X (.Dict [] [] pos) (gC (.dict [])) := by
  refine ⟨_, pe_dnewK, ?_⟩
  intro E B σ H ρ a ρ' Q j e q p hp
  cases e
  have nb : ¬ B p := fun z => j.bt p z hp
  exact q (.ref p) _ (j.grow (same_new hp)) (Ext.grow (same_new hp)) (Shp.refl _) (.dct (hid_some.mpr ⟨nb, upd_same⟩))
end
theorem RpA.rev {K : PySem.W.Frag} {H : Hp} : ∀ {ds : List PyData} {vs : List V}, RpA K H vs ds → RpA K H vs.reverse ds.reverse
  | [], _, h => by cases h; exact .nil
  | d :: ds, _, h => by
    cases h with
    | cons h1 h2 =>
      rw [List.reverse_cons, List.reverse_cons]
      exact (RpA.rev h2).app (.cons h1 .nil)
def fRev (g : EF) : FF := fun ρ => (g ρ).bind fun p => (res p.2 p.1).bind fun d => match d with
  | .list ds => some (ds.reverse, p.2)
  | _ => none
theorem f_rev {X : Cx} {e : Expr} {g : EF} {k : Nat} {p1 p2 p3 pos : Pos} (he : PD X e g) : PF X (.Subscript e (.Slice none none (some (.UnaryOp .USub (.Constant (.int 1) k p1) p2)) p3) pos) (fRev g) := by
  obtain ⟨te, p, d⟩ := he.run
  refine ⟨_, pe_revL p, ?_⟩
  intro E B σ H ρ ds ρ' Q j e q
  simp only [fRev, Option.bind_eq_some_iff] at e
  obtain ⟨⟨a, ρ1⟩, e1, dd, e2, e3⟩ := e
  split at e3
  · rename_i xs
    cases e3
    refine d E B σ H ρ a ρ1 _ j e1 fun v H1 j1 x1 s1 o1 => ?_
    obtain ⟨l, vs, rfl, h1, h2⟩ := (o1.bd j1 e2).list
    refine ⟨l, vs, rfl, h1, fun p hp => ?_⟩
    exact q p _ _ (free_back j1 x1 hp) (j1.block hp) (x1.trans (ext_block hp)) s1 upd_same (h2.rev.mono (ext_block hp))
  · cases e3
def cTup : List PyData → Option PyData
  | [.list ds] => some (.tuple ds)
  | _ => none
theorem cs_tup {K : PySem.W.Frag} : CallS K (fun xs H Q => ∃ p ys, xs = [.ref p] ∧ ((SqL K H p ys ∧ ∀ l, H l = none → Q (.ref l) (upd H l (.tup ys))) ∨ (SqT K H p ys ∧ Q (.ref p) H))) cTup := by
  intro B H xs ds d Q tr hb e q
  unfold cTup at e
  split at e
  · cases e
    obtain ⟨x, rfl, h⟩ := hb.one
    obtain ⟨p, vs, rfl, h1, h2⟩ := h.list
    refine ⟨p, vs, rfl, .inl ⟨h1, fun l hl => ?_⟩⟩
    exact q (.ref l) _ (same_new hl) (rp_tup tr hl h2)
  · cases e
/-! ### a displayed dict with texts as keys, kept as a value -/
theorem dv_rpa {K : PySem.W.Frag} {H : Hp} : ∀ {kds : List (Str × PyData)} {kvs : List (Key × V)}, DvOk K H kds (kvs.map fun kv => (kV kv.1, kv.2)) → RpA K H (kvs.map (·.2)) (kds.map (·.2))
  | [], [], _ => .nil
  | (k, d) :: r, kv :: s, h => .cons h.2.1 (dv_rpa h.2.2)
  | [], _ :: _, h => h.elim
  | _ :: _, [], h => h.elim
def gDd (kgs : List (Str × EF)) : EF := fun ρ => (dVals kgs ρ).map fun p => (.d (.dict [(.list ((p.1.map (·.1)).map .str), .list (p.1.map (·.2)))]), p.2)
theorem d_dks {X : Cx} {pos : Pos} {keys : List (Option Expr)} {values : List Expr} {kgs : List (Str × EF)} (hd : PPD X pos keys values kgs) (nd : (kgs.map (·.1)).Nodup) (l15 : kgs.length ≤ 15)
    (hall : keys.all (·.isSome) = true := by rfl) (hl : keys.length = values.length := by rfl) (h0 : keys ≠ [] := by exact fun z => nomatch z) (h15 : keys.length ≤ 15 := by decide) : PD X (.Dict keys values pos) (gDd kgs) := by
  obtain ⟨trs, pp, sv⟩ := hd.run
  refine ⟨_, pe_disp pp hall hl h0 h15, ?_⟩
  intro E B σ H ρ a ρ' Q j e q
  obtain ⟨⟨kds, ρ1⟩, e1, e2⟩ := Option.map_eq_some_iff.mp e
  cases e2
  intro p hp
  have hE := (j.fresh hp).1
  have nb : ¬ B p := (j.fresh hp).2.1
  have bnp : ∀ b, (B b ∨ b = p) → E.B0 b ∨ E.H0 b = none := fun b z => z.elim (j.bn b) fun z => .inr (by rw [z]; exact hE)
  have noAt : ∀ {H1 : Hp} {ρ1 : Rho}, Shp ρ ρ1 → ∀ (n : Nat) k ds, ρ1[n]? = some (.l k ds) → σ[n]? ≠ some (some (.ref p)) := fun s n k ds q1 q2 => by
    obtain ⟨ds0, q3⟩ := s.symm.lst q1
    obtain ⟨p', ws', g1, _, g3, _⟩ := j.own n k ds0 q3
    rw [q2] at g1
    cases g1
    rw [hp] at g3
    cases g3
  have jp := (j.block (o := .dK []) hp).pin (.inr rfl) hE upd_same (noAt (H1 := H) (Shp.refl ρ))
  refine sv _ _ σ _ ρ kds ρ1 _ jp e1 fun ps H2 j2 x2 s2 ok => ?_
  obtain ⟨j2', l2, no2⟩ := j2.unpin hE j.b0t j.ioB bnp
  obtain ⟨kvs, k1, k2, k3, k4⟩ := dv_keys ok
  have nk : (kvs.map (·.1)).Nodup := by
    rw [k3]
    have f := dv_fst e1
    have : (kds.map (·.1)).Nodup := by rw [f]; exact nd
    have g : kds.map (fun p => (Sum.inr p.1 : Key)) = (kds.map (·.1)).map Sum.inr := by rw [List.map_map]; rfl
    rw [g]
    exact List.Pairwise.map _ (fun x y h z => h (Sum.inr.inj z)) this
  have mk : mergeK [] kvs = kvs := merge_new kvs [] nk
  have kl : kvs.length ≤ 15 := by
    have f := congrArg List.length (dv_fst e1)
    rw [List.length_map, List.length_map] at f
    omega
  refine ⟨l2, kvs, k1, kl, ?_⟩
  rw [mk]
  obtain ⟨j3, x3⟩ := j2'.behind (o := .dK kvs) (.inr rfl) hE no2
  have xx : Ext B H B _ := ((ext_block hp).trans x2).trans (x3.trans (hid_sub fun b z => .inl z))
  refine q (.ref p) _ (j.unblock hp s2 j3) xx s2 (.dks (kvs := kvs) (hid_some.mpr ⟨nb, upd_same⟩) (by rw [k3, List.map_map]; rfl) ?_)
  rw [k1] at ok
  exact ((dv_rpa ok).mono x3).mono (hid_sub fun b z => .inl z)
def dkGet : List PyData → List PyData → Str → Option PyData
  | .str k :: ks, d :: ds, x => if x = k then some d else dkGet ks ds x
  | _, _, _ => none
def gDkx (g gi : EF) : EF := fun ρ => (g ρ).bind fun p => match p.1 with
  | .d (.dict [(.list kd, .list ds)]) => (gi p.2).bind fun q => match q.1 with
    | .d (.str x) => (dkGet kd ds x).map fun d => (.d d, q.2)
    | _ => none
  | _ => none
theorem dk_get {K : PySem.W.Frag} {H : Hp} {x : Str} {d : PyData} : ∀ {ks : List Str} {kvs : List (Key × V)} {ds : List PyData}, kvs.map (·.1) = ks.map Sum.inr → RpA K H (kvs.map (·.2)) ds → dkGet (ks.map .str) ds x = some d → ∃ v, valV kvs (Sum.inr x) = some v ∧ Rp K H v d
  | [], _, _, _, _, e => by simp [dkGet] at e
  | k :: ks, [], _, h, _, _ => by cases h
  | k :: ks, kv :: kvs, [], _, h, _ => by cases h
  | k :: ks, kv :: kvs, d0 :: ds, h, r, e => by
    rw [List.map_cons, List.map_cons, List.cons.injEq] at h
    cases r with
    | cons r1 r2 =>
      simp only [List.map_cons, dkGet] at e
      by_cases c : x = k
      · rw [if_pos c] at e
        cases e
        exact ⟨kv.2, valV_pos (by rw [h.1, c]), r1⟩
      · rw [if_neg c] at e
        obtain ⟨v, q1, q2⟩ := dk_get h.2 r2 e
        exact ⟨v, by rw [valV_neg (fun z => c (by rw [h.1] at z; exact (Sum.inr.inj z).symm))]; exact q1, q2⟩
theorem d_dkx {X : Cx} {pos2 : Pos} {o i : Expr} {g gi : EF} {k : Nat} (hr : Room k X.A) (ho : PD X o g) (hi : PD X i gi) (hs : NoSl i := by exact fun _ _ => rfl) : PD X (.Subscript o i pos2) (gDkx g gi) := by
  obtain ⟨td, p1, d1⟩ := ho.run
  obtain ⟨ti, p2, d2⟩ := hi.run
  refine ⟨_, pe_dget (hu_of hr) p1 p2 hs, ?_⟩
  intro E B σ H ρ a ρ' Q j e q
  simp only [gDkx, Option.bind_eq_some_iff] at e
  obtain ⟨⟨a1, ρ1⟩, e1, e2⟩ := e
  split at e2
  case h_2 => cases e2
  rename_i kd ds ha
  simp only at ha
  subst ha
  simp only [Option.bind_eq_some_iff] at e2
  obtain ⟨⟨a2, ρ2⟩, e3, e4⟩ := e2
  split at e4
  case h_2 => cases e4
  rename_i x ha
  simp only at ha
  subst ha
  obtain ⟨d, e5, e6⟩ := Option.map_eq_some_iff.mp e4
  cases e6
  refine d1 E B σ H ρ _ ρ1 _ j e1 fun v H1 j1 x1 s1 o1 => ?_
  refine d2 E B σ H1 ρ1 _ ρ2 _ j1 e3 fun y H2 j2 x2 s2 o2 => ?_
  have o1 : Rp X.K (hid B H1) v (.dict [(.list kd, .list ds)]) := o1
  have o2 : Rp X.K (hid B H2) y (.str x) := o2
  match v, kd, ds, o1, e5 with
  | _, _, _, .dks (a := p) (kvs := kvs) (ks := ks) (ds := ds) n1 n2 n3, e5 =>
    cases o2
    obtain ⟨v, q1, q2⟩ := dk_get n2 n3 e5
    have g := DGet.k (k := Sum.inr x) (hid_some.mp (x2 _ _ n1)).2
    rw [q1] at g
    exact ⟨p, v, rfl, g, q v H2 j2 (x1.trans x2) (s1.trans s2) (Rp.ext x2 q2)⟩
end DL
namespace DL
open PySem PySem.Spec PyProof.Rows L2
/-! ### a new list of two new lists, read as a value once, then taken apart -/
def flD : PyData → Bool
  | .none => true
  | .bool _ => true
  | .int _ => true
  | .str _ => true
  | _ => false
theorem rp_flat {K : PySem.W.Frag} {H H' : Hp} {v : V} {d : PyData} (h : Rp K H v d) (f : flD d = true) : Rp K H' v d := by
  cases h with
  | non => exact .non
  | bl b => exact .bl b
  | int i => exact .int i
  | str x => exact .str x
  | _ => cases f
theorem rpa_flat {K : PySem.W.Frag} {H H' : Hp} : ∀ {ds : List PyData} {vs : List V}, RpA K H vs ds → ds.all flD = true → RpA K H' vs ds
  | [], _, h, _ => by cases h; exact .nil
  | d :: ds, _, h, f => by
    cases h with
    | cons h1 h2 =>
      rw [List.all_cons, Bool.and_eq_true] at f
      exact .cons (rp_flat h1 f.1) (rpa_flat h2 f.2)
def flS : Sl → Bool
  | .l _ ds => ds.all flD
  | _ => true
def flL (ρ : Rho) : Bool := ρ.all flS
theorem flL_at {ρ : Rho} (h : flL ρ = true) {i : Nat} {k : Bool} {ds : List PyData} (e : ρ[i]? = some (.l k ds)) : ds.all flD = true :=
  List.all_eq_true.mp h _ (List.mem_of_getElem? e)
/-- as if the lists had stood at the entry, unblocked -/
def frE (E : En) (S : Hp) : En := ⟨E.B0, fun b => (S b).or (E.H0 b), E.io, E.ad⟩
theorem frE_none {E : En} {S : Hp} {b : Addr} (h : (frE E S).H0 b = none) : S b = none ∧ E.H0 b = none := by
  have h : (S b).or (E.H0 b) = none := h
  cases q : S b with
  | none => rw [q] at h; exact ⟨rfl, h⟩
  | some o => rw [q] at h; cases h
theorem J.toFr {K : PySem.W.Frag} {E : En} {B : Bk} {σ : L2.St} {H : Hp} {ρ : Rho} {S : Hp} (j : J K (pinS E S) B σ H ρ) (hS : ∀ b, S b ≠ none → E.H0 b = none) (b0t : ∀ b, E.B0 b → E.H0 b ≠ none) (io : ∀ b, E.io b → E.B0 b) :
    J K (frE E S) (fun b => B b ∧ S b = none) σ H ρ := by
  have b0s : ∀ b, E.B0 b → S b = none := fun b z => by
    cases q : S b with
    | none => rfl
    | some o => exact absurd (hS b (by rw [q]; simp)) (b0t b z)
  have sub : Same (hid B H) (hid (fun b => B b ∧ S b = none) H) := hid_sub fun b z => z.1
  refine ⟨fun b o ni q => j.keep b o ni q, fun b z => ⟨j.b0 b (.inl z), b0s b z⟩, fun b z => ?_, fun b z => j.b0t b (.inl z), fun b z => j.bt b z.1, io, j.len, fun i d e => ?_, fun i k ds e => ?_, j.inj, fun i ds e => ?_⟩
  · rcases j.bn b z.1 with (w | w) | w
    · exact .inl w
    · exact absurd z.2 w
    · exact .inr w
  · obtain ⟨x, h1, h2⟩ := j.val i d e
    exact ⟨x, h1, h2.mono sub⟩
  · obtain ⟨p, vs, h1, h2, h3, h4, h5⟩ := j.own i k ds e
    refine ⟨p, vs, h1, ⟨h2, ?_⟩, h3, h4.mono sub, h5⟩
    cases k with
    | true =>
      rw [if_pos rfl] at h5
      exact b0s p (io p h5.1)
    | false =>
      rw [if_neg Bool.false_ne_true] at h5
      exact (pinS_none_of h5).1
  · obtain ⟨p, vs, h1, h2, h3⟩ := j.wr i ds e
    exact ⟨p, vs, h1, Same.seq sub h2, h3.mono sub⟩
theorem J.ofFr {K : PySem.W.Frag} {E : En} {B : Bk} {σ : L2.St} {H : Hp} {ρ : Rho} {S : Hp} (j : J K (frE E S) B σ H ρ) (hS : ∀ b, S b ≠ none → E.H0 b = none) (b0t : ∀ b, E.B0 b → E.H0 b ≠ none) : J K E B σ H ρ := by
  refine ⟨fun b o ni q => j.keep b o ni ?_, j.b0, fun b z => ?_, b0t, j.bt, j.ioB, j.len, j.val, fun i k ds e => ?_, j.inj, j.wr⟩
  · show (S b).or (E.H0 b) = some o
    cases w : S b with
    | none => exact q
    | some u =>
      have := hS b (by rw [w]; simp)
      rw [q] at this
      cases this
  · exact (j.bn b z).imp id fun w => (frE_none w).2
  · obtain ⟨p, vs, h1, h2, h3, h4, h5⟩ := j.own i k ds e
    refine ⟨p, vs, h1, h2, h3, h4, ?_⟩
    cases k with
    | true => exact h5
    | false =>
      rw [if_neg Bool.false_ne_true] at h5 ⊢
      exact (frE_none h5).2
theorem RetJ.ofFr {K : PySem.W.Frag} {E : En} {fr : Bool} {d : PyData} {ρ : Rho} {v : V} {H : Hp} {S : Hp} (h : RetJ K (frE E S) fr d ρ v H) (hS : ∀ b, S b ≠ none → E.H0 b = none) (b0t : ∀ b, E.B0 b → E.H0 b ≠ none) : RetJ K E fr d ρ v H := by
  obtain ⟨B, σ, j, h⟩ := h
  refine ⟨B, σ, j.ofFr hS b0t, ?_⟩
  cases fr with
  | false => exact h
  | true =>
    rcases h with ⟨p, ws, ds, h1, h2, h3, h4, h5, h6⟩ | ⟨t, p, xs, ws, ds, rest, h1, h2, h2', h3, h4, h5, h6⟩ | ⟨t, p, x0, ws, ds, d0, h1, h2, h2', h3, h4, h5, h6⟩
    · exact .inl ⟨p, ws, ds, h1, h2, (frE_none h3).2, h4, h5, h6⟩
    · exact .inr (.inl ⟨t, p, xs, ws, ds, rest, h1, h2, h2', (frE_none h3).2, h4, h5, h6⟩)
    · exact .inr (.inr ⟨t, p, x0, ws, ds, d0, h1, h2, h2', (frE_none h3).2, h4, h5, h6⟩)
/-- the slot of the list is forgotten, the lists are the def's own again -/
theorem J.unFr {K : PySem.W.Frag} {E : En} {B : Bk} {σ σ' : L2.St} {H H' : Hp} {ρ ρ' : Rho} {S : Hp} {i : Nat} {dd : PyData} (j : J K (pinS E S) B σ H ρ) (j' : J K (frE E S) (fun b => B b ∧ S b = none) σ' H' ρ')
    (x : Ext (fun b => B b ∧ S b = none) H (fun b => B b ∧ S b = none) H') (sh : Shp (ρ.set i (.v dd)) ρ') (fl : flL ρ' = true) (hσ : ∀ n, n ≠ i → σ'[n]? = σ[n]?)
    (hS : ∀ b, S b ≠ none → E.H0 b = none ∧ B b) (b0t : ∀ b, E.B0 b → E.H0 b ≠ none) : J K E B σ' H' (ρ'.set i .un) := by
  have je := j'.ofFr (fun b z => (hS b z).1) b0t
  have xx : Ext B H B H' := fun b o h => by
    obtain ⟨h1, h2⟩ := hid_some.mp h
    have := x b o (hid_some.mpr ⟨fun z => h1 z.1, h2⟩)
    exact hid_some.mpr ⟨h1, (hid_some.mp this).2⟩
  have back : ∀ {n : Nat} {s : Sl}, (ρ'.set i .un)[n]? = some s → s ≠ .un → n ≠ i ∧ ρ'[n]? = some s := fun {n s} e hs => by
    rcases set_get e with ⟨_, e1, _⟩ | h
    · exact absurd e1 hs
    · exact h
  refine ⟨je.keep, fun b z => (je.b0 b z).1, fun b z => ?_, b0t, fun b z => ?_, je.ioB, by rw [List.length_set]; exact je.len, fun n d e => ?_, fun n k ds e => ?_, fun n n' k ds k' ds' p e e' q q' => ?_, fun n ds e => ?_⟩
  · by_cases w : S b = none
    · exact je.bn b ⟨z, w⟩
    · exact .inr (hS b w).1
  · cases w : S b with
    | none => exact je.bt b ⟨z, w⟩
    | some o =>
      have nio : ¬ E.io b := fun v => b0t b (je.ioB b v) (hS b (by rw [w]; simp)).1
      have := j'.keep b o nio (by show (S b).or _ = _; rw [w]; rfl)
      rw [this]
      simp
  · obtain ⟨hn, e⟩ := back e (fun z => by cases z)
    have e0 := sh.symm.val e
    rw [List.getElem?_set_ne (Ne.symm hn)] at e0
    obtain ⟨v, h1, h2⟩ := j.val n d e0
    exact ⟨v, by rw [hσ n hn]; exact h1, h2.ext xx⟩
  · obtain ⟨hn, e⟩ := back e (fun z => by cases z)
    obtain ⟨p, vs, h1, h2, h3, h4, h5⟩ := je.own n k ds e
    exact ⟨p, vs, h1, h2.1, h3, rpa_flat h4 (flL_at fl e), h5⟩
  · obtain ⟨_, e⟩ := back e (fun z => by cases z)
    obtain ⟨_, e'⟩ := back e' (fun z => by cases z)
    exact je.inj n n' _ _ _ _ p e e' q q'
  · obtain ⟨hn, e⟩ := back e (fun z => by cases z)
    have e0 := sh.symm.wr e
    rw [List.getElem?_set_ne (Ne.symm hn)] at e0
    obtain ⟨p, vs, h1, h2, h3⟩ := j.wr n ds e0
    exact ⟨p, vs, by rw [hσ n hn]; exact h1, Same.seq xx h2, h3.mono xx⟩
/-- x = [new list, new list]; if test: return; y, z = x[0], x[1] -/
def sTake2 (i j k : Nat) (gl : FFF) (c : BF) (r h : SF) : SF := fun ρ => (gl ρ).bind fun p => match p.1 with
  | [a, b] => (c (p.2.set i (.v (.list [.list a, .list b])))).bind fun q => if q.1 = true then (match r q.2 with
      | some (.rt d ρ') => some (.rt d ρ')
      | _ => none)
    else if flL q.2 = true ∧ i < q.2.length then h (((q.2.set i .un).set j (.l false a)).set k (.l false b)) else none
  | _ => none
theorem ss_take2 {K : PySem.W.Frag} {fr : Bool} {te : TE} {tc : TT} {ta tr : TS} {gl : FFF} {c : BF} {r h : SF} {i j k : Nat} (hjk : j ≠ k) (h1 : SfL K te gl) (h2 : Sb K tc c) (h3 : Ss K fr ta r) (h4 : Ss K fr tr h) :
    Ss K fr (tSeq (tAsg te (gName i)) (tSeq (tIfS tc ta tNext) (tSeq (tPar j k (tCons (tOp (rIx K) (tVar i) (tC (.int 0))) (tCons (tOp (rIx K) (tVar i) (tC (.int 1))) tNil))) tr))) (sTake2 i j k gl c r h) := by
  intro E B σ H ρ oc D jj e q
  simp only [sTake2, Option.bind_eq_some_iff] at e
  obtain ⟨⟨dss, ρ1⟩, e1, e2⟩ := e
  match dss, e1, e2 with
  | [a, b], e1, e2 =>
  obtain ⟨⟨kk, ρ2⟩, e3, e4⟩ := Option.bind_eq_some_iff.mp e2
  refine h1 E B σ H ρ [a, b] ρ1 _ jj e1 fun Dl ps S H1 B1 hB1 j1 x1 hl hBD hSD hD0 gd nd hS no => ?_
  obtain ⟨p1, p2, rfl⟩ : ∃ p1 p2, ps = [p1, p2] := by
    have l := gd.1
    match ps, l with
    | [p1, p2], _ => exact ⟨p1, p2, rfl⟩
  obtain ⟨va, w1, r1⟩ := gd.2 0 p1 a rfl rfl
  obtain ⟨vb, w2, r2⟩ := gd.2 1 p2 b rfl rfl
  have p12 : p1 ≠ p2 := fun z => by
    subst z
    simp at nd
  have pD1 : p1 ≠ Dl := fun z => by rw [z, hSD] at w1; cases w1
  have pD2 : p2 ≠ Dl := fun z => by rw [z, hSD] at w2; cases w2
  have jp := j1.pin hBD (pinS_H0 hSD hD0) hl no
  rw [pinS_add] at jp
  have hS' : ∀ b, upd S Dl (.lst ([p1, p2].map V.ref)) b ≠ none → E.H0 b = none ∧ B1 b := fun b z => by
    by_cases e : b = Dl
    · rw [e]; exact ⟨hD0, hBD⟩
    · rw [upd_ne e] at z
      exact hS b z
  have s1 : upd S Dl (.lst ([p1, p2].map V.ref)) p1 = some (.lst va) := by rw [upd_ne pD1]; exact w1
  have s2 : upd S Dl (.lst ([p1, p2].map V.ref)) p2 = some (.lst vb) := by rw [upd_ne pD2]; exact w2
  have sD : upd S Dl (.lst ([p1, p2].map V.ref)) Dl = some (.lst ([p1, p2].map V.ref)) := upd_same
  generalize upd S Dl (.lst ([p1, p2].map V.ref)) = S' at *
  have nio : ∀ b, S' b ≠ none → ¬ E.io b := fun b z w => jj.b0t b (jj.ioB b w) (hS' b z).1
  have jf := jp.toFr (fun b z => (hS' b z).1) jj.b0t jj.ioB
  have sub : Same (hid B1 H1) (hid (fun b => B1 b ∧ S' b = none) H1) := hid_sub fun b z => z.1
  have at1 : ∀ {p : Addr} {o : HO}, S' p = some o → hid (fun b => B1 b ∧ S' b = none) H1 p = some o := fun {p o} z =>
    hid_some.mpr ⟨fun w => by (rw [z] at w; cases w.2), jp.keep p o (nio p (by rw [z]; simp)) (by show (S' p).or _ = _; rw [z]; rfl)⟩
  have rp : Rp K (hid (fun b => B1 b ∧ S' b = none) H1) (.ref Dl) (.list [.list a, .list b]) :=
    .lst (at1 sD) (.cons (.lst (at1 s1) (r1.mono sub)) (.cons (.lst (at1 s2) (r2.mono sub)) .nil))
  have js := jf.set i rp
  show tc (σ.set i (some (.ref Dl))) H1 _
  refine h2 (frE E S') _ _ H1 _ kk ρ2 _ js e3 fun H2 j2 x2 sh2 => ?_
  cases kk with
  | true =>
    rw [if_pos rfl] at e4 ⊢
    cases hr : r ρ2 with
    | none => rw [hr] at e4; cases e4
    | some o =>
      rw [hr] at e4
      cases o with
      | rt d ρ3 =>
        cases e4
        exact h3 (frE E S') _ _ H2 ρ2 (.rt d ρ3) _ j2 hr fun v H' rj => q v H' (rj.ofFr (fun b z => (hS' b z).1) jj.b0t)
      | nx _ => cases e4
      | bk _ => cases e4
      | ct _ => cases e4
  | false =>
    rw [if_neg Bool.false_ne_true] at e4 ⊢
    dsimp only at e4
    split at e4
    case isFalse => cases e4
    rename_i fl
    obtain ⟨fl, hi⟩ := fl
    have hi : i < σ.length := by
      have := j2.len
      rw [List.length_set] at this
      omega
    have hget : (σ.set i (some (V.ref Dl)))[i]? = some (some (.ref Dl)) := List.getElem?_set_self hi
    have hk2 : ∀ {p : Addr} {o : HO}, S' p = some o → H2 p = some o := fun {p o} z => j2.keep p o (nio p (by rw [z]; simp)) (by show (S' p).or _ = _; rw [z]; rfl)
    have ju := jp.unFr j2 x2 sh2 fl (fun n hn => List.getElem?_set_ne (Ne.symm hn)) hS' jj.b0t
    have xx : Ext B1 H1 B1 H2 := fun b o hb => by
      obtain ⟨q1, q2⟩ := hid_some.mp hb
      have := x2 b o (hid_some.mpr ⟨fun z => q1 z.1, q2⟩)
      exact hid_some.mpr ⟨q1, (hid_some.mp this).2⟩
    have free : ∀ {p : Addr} {o : HO}, S' p = some o → ∀ (n : Nat) kk ds', (ρ2.set i .un)[n]? = some (.l kk ds') → (σ.set i (some (.ref Dl)))[n]? ≠ some (some (.ref p)) := fun {p o} z n kk ds' e1 e2 => by
      rcases set_get e1 with ⟨_, e, _⟩ | ⟨hn, e⟩
      · cases e
      · obtain ⟨p', ws, g1, g2, _⟩ := j2.own n kk ds' e
        rw [e2] at g1
        cases g1
        rw [z] at g2
        cases g2.2
    have ja := ju.setO j (hS' p1 (by rw [s1]; exact fun z => by cases z)).2 (hS' p1 (by rw [s1]; simp)).1 (hk2 s1) (r1.mono xx) (free s1)
    have jb := ja.setO k (hS' p2 (by rw [s2]; simp)).2 (hS' p2 (by rw [s2]; simp)).1 (hk2 s2) (r2.mono xx) fun n kk ds' e1 e2 => by
      rcases set_get e1 with ⟨rfl, e, hn⟩ | ⟨hn, e⟩
      · rw [List.getElem?_set_self (by rw [ju.len]; exact hn)] at e2
        cases e2
        exact p12 rfl
      · rw [List.getElem?_set_ne (Ne.symm hn)] at e2
        exact free s2 n kk ds' e e2
    exact ⟨.ref Dl, hget, .inl ⟨Dl, _, 0, .ref p1, rfl, rfl, .inl (.inl (hk2 sD)), rfl, ⟨.ref Dl, hget, .inl ⟨Dl, _, 1, .ref p2, rfl, rfl, .inl (.inl (hk2 sD)), rfl, ⟨_, _, rfl, h4 E B1 _ H2 _ oc D jb e4 (q.later (x1.trans xx))⟩⟩⟩⟩⟩
theorem pe_at {X : Cx} {p p2 p3 : Pos} {n : Int} {kk : Nat} (i : Nat) {x : Str} (hN : X.N[i]? = some x := by rfl) (hv : Vis X.env.scope x := by first | exact Or.inl rfl | exact Or.inr (Or.inl rfl) | exact Or.inr (Or.inr rfl)) (hd : (x == ("__debug__" : Str)) = false := by decide)
    (hcd : (x == ("__classdict__" : Str)) = false := by decide) : PE X (.Subscript (.Name x p) (.Constant (.int n) kk p2) p3) (tOp (rIx X.K) (tVar i) (tC (.int n))) :=
  pe_ix ix_seq (pe_var hN hv hd hcd) pe_int (fun _ _ => rfl)
theorem zs_take2 {X : Cx} {fr : Bool} (i j k : Nat) {x y z : Str} {e c a0 a1 : Expr} {ra rest : List Stmt} {gl : FFF} {gc : BF} {r h : SF} {px py pz pt p1 p2 p3 : Pos} {kt k2 pt2}
    (hc : X.calm = true) (hN : X.N.Nodup) (he : PFL X e gl) (hcn : PB X c gc) (hr : SsD X fr ra r) (hh : SsD X fr rest h)
    (h0 : PE X a0 (tOp (rIx X.K) (tVar i) (tC (.int 0)))) (h1 : PE X a1 (tOp (rIx X.K) (tVar i) (tC (.int 1))))
    (hi : X.N[i]? = some x := by rfl) (hj : X.N[j]? = some y := by rfl) (hk : X.N[k]? = some z := by rfl) (hjk : j ≠ k := by decide)
    (hx : Loc X.env.scope x := by first | exact Or.inl rfl | exact Or.inr rfl) (hs : swapsWith e (some (.Name x px)) p1.line X.env = pure false := by rfl) (hf : X.fn x = true ∨ X.env.scope.names.lookup x = some .local := by first | exact .inl rfl | exact .inr rfl | assumption)
    (hy : X.env.scope.names.lookup y = some .local := by rfl) (hz : X.env.scope.names.lookup z = some .local := by rfl)
    (st0 : starEach [a0, a1] X.env = (false, eval a0 X.env) :: starEach [a1] X.env := by rfl) (st1 : starEach [a1] X.env = (false, eval a1 X.env) :: starEach [] X.env := by rfl)
    (hw : swappedStores [.Tuple [.Name y py, .Name z pz] kt pt] (.Tuple [a0, a1] k2 pt2) X.env = pure (some [y, z]) := by rfl)
    (hs2 : swapsWithSole [.Tuple [.Name y py, .Name z pz] kt pt] (.Tuple [a0, a1] k2 pt2) p3.line X.env = pure false := by rfl) :
    SsD X fr (.Assign [.Name x px] e p1 :: .If c ra [] p2 :: .Assign [.Tuple [.Name y py, .Name z pz] kt pt] (.Tuple [a0, a1] k2 pt2) p3 :: rest) (sTake2 i j k gl gc r h) := by
  obtain ⟨te, q1, d1⟩ := he.run
  obtain ⟨tc, q2, d2⟩ := hcn.run
  obtain ⟨ta, q3, d3⟩ := hr.run
  obtain ⟨tr, q4, d4⟩ := hh.run
  exact ⟨_, pss_cons (ps_set hN hi hx q1 hs hf) (pss_cons (ps_if q2 q3 pss_nil) (pss_cons (ps_par hc hN hj hk hjk hy hz (pa_cons h0 (pa_cons h1 pa_nil st1) st0) hw hs2) q4)), ss_take2 hjk d1 d2 d3 d4⟩
end DL
/-! xs[1::2] -/
namespace DL
open PySem PySem.Spec PyProof.Rows L2
def odds {α : Type} : List α → List α
  | _ :: b :: r => b :: odds r
  | _ => []
theorem odds_len {α : Type} : ∀ l : List α, (odds l).length = l.length / 2
  | [] => by simp [odds]
  | [_] => by simp [odds]
  | _ :: b :: r => by
    rw [odds, List.length_cons, odds_len r, List.length_cons, List.length_cons]
    omega
theorem odds_pick {α : Type} : ∀ l : List α, ((List.range (l.length / 2)).map fun k => 2 * k + 1).filterMap (fun i => l[i]?) = odds l
  | [] => by simp [odds]
  | [_] => by simp [odds]
  | a :: b :: r => by
    have ih := odds_pick r
    have e : (a :: b :: r).length / 2 = r.length / 2 + 1 := by
      rw [List.length_cons, List.length_cons]
      omega
    rw [e, List.range_succ_eq_map, List.map_cons, List.map_map, List.filterMap_cons, odds, ← ih, List.filterMap_map, List.filterMap_map]
    simp only [Nat.mul_zero, Nat.zero_add, List.getElem?_cons_succ, List.getElem?_cons_zero]
    congr 1
theorem odds_bounds (n : Nat) : sliceBounds (some 1) none (some 2) n = (((min 1 n : Nat) : Int), (n : Int), 2) := by
  simp only [sliceBounds, Option.getD_some, show (2 : Int) > 0 by decide, if_true, show ¬ (1 : Int) < 0 by decide, if_false, Prod.mk.injEq, and_true, true_and]
  omega
theorem odds_range (n : Nat) : sliceRange ((min 1 n : Nat) : Int) (n : Int) 2 = (List.range (n / 2)).map fun k => 2 * k + 1 := by
  unfold sliceRange
  simp only [show (2 : Int) > 0 by decide, if_true]
  by_cases h : ((min 1 n : Nat) : Int) < (n : Int)
  · rw [if_pos h]
    have e1 : min 1 n = 1 := by omega
    rw [e1]
    have e : ((n : Int) - ((1 : Nat) : Int) + 2 - 1) / 2 = ((n / 2 : Nat) : Int) := by omega
    rw [e, Int.toNat_natCast]
    refine List.map_congr_left fun k _ => ?_
    omega
  · rw [if_neg h]
    have e : n / 2 = 0 := by omega
    rw [e]
    rfl
theorem odds_slice (its : List Value) : slicePick its.toArray (some 1) none (some 2) = (odds its).toArray := by
  unfold slicePick
  rw [odds_bounds]
  show ((sliceRange ((min 1 its.toArray.size : Nat) : Int) (its.toArray.size : Int) 2).filterMap (its.toArray[·]?)).toArray = _
  rw [odds_range]
  congr 1
  rw [← odds_pick its]
  simp
theorem RpA.odds {K : PySem.W.Frag} {H : Hp} : ∀ {ds : List PyData} {vs : List V}, RpA K H vs ds → RpA K H (odds vs) (odds ds)
  | [], _, h => by cases h; exact .nil
  | [d], _, h => by
    cases h with
    | cons h1 h2 => cases h2; exact .nil
  | d :: d2 :: ds, _, h => by
    cases h with
    | cons h1 h2 =>
      cases h2 with
      | cons h2 h3 => exact .cons h2 (RpA.odds h3)
theorem vals_odds : ∀ {xs : List V} {us : List Value}, Vals xs us → Vals (odds xs) (odds us)
  | [], _, h => by cases h; exact .nil
  | [d], _, h => by
    cases h with
    | cons h1 h2 => cases h2; exact .nil
  | d :: d2 :: ds, _, h => by
    cases h with
    | cons h1 h2 =>
      cases h2 with
      | cons h2 h3 => exact .cons h2 (vals_odds h3)
def tOdds (K : PySem.W.Frag) (te : TE) : TE := fun σ H Q => te σ H fun x H1 => ∃ a xs, x = .ref a ∧ SqL K H1 a xs ∧ ∀ p, H1 p = none → Q (.ref p) (upd H1 p (.lst (odds xs)))
theorem pe_odds {X : Cx} {e : Expr} {te : TE} {k1 k2 : Nat} {p1 p2 p3 pos : Pos} (he : PE X e te) : PE X (.Subscript e (.Slice (some (.Constant (.int 1) k1 p1)) none (some (.Constant (.int 2) k2 p2)) p3) pos) (tOdds X.K te) := by
  refine ⟨fun pins s σ H Q I h => ?_⟩
  refine Subscript_ (thn (he.run pins s σ H _ I h) fun v s1 ⟨x, H1, I1, r1, q1⟩ => ?_)
  obtain ⟨a, xs, ex, hx, q⟩ := q1
  subst ex
  cases r1
  have hlo : PO X (some (.Constant (.int 1) k1 p1)) (tPart (tC (.int 1))) := po_some pe_int
  have hst : PO X (some (.Constant (.int 2) k2 p2)) (tPart (tC (.int 2))) := po_some pe_int
  refine wpAny_Slice (thn (hlo.run pins s1 σ H1 (fun o H2 => o = some 1 ∧ H2 = H1) I1 ⟨1, rfl, rfl, rfl⟩) fun vl s2 ⟨l, H2, I2, pl, el, e2⟩ => ?_)
  subst el e2
  refine thn (po_none.run pins s2 σ H2 (fun o H3 => o = none ∧ H3 = H2) I2 ⟨rfl, rfl⟩) fun vu s3 ⟨u, H3, I3, pu, eu, e3⟩ => ?_
  subst eu e3
  refine thn (hst.run pins s3 σ H3 (fun o H4 => o = some 2 ∧ H4 = H3) I3 ⟨2, rfl, rfl, rfl⟩) fun vs s4 ⟨o, H4, I4, ps, eo, e4⟩ => ?_
  subst eo e4
  have I5 : Inv X pins σ H4 { s4 with heap := s4.heap.push { cls := .type "slice", data := .fields #[vl, vu, vs] } } := I4.kept (t' := s4.toks) fun b ob q => Heap.get?_push_of_some _ q
  obtain ⟨its, r, ht, hz⟩ := I5.list hx
  have hlen := r.length
  show wpAny (model X.prog X.w) X.A (subscriptTail e (.Slice (some (.Constant (.int 1) k1 p1)) none (some (.Constant (.int 2) k2 p2)) p3) (.ref a) (.ref s4.heap.objs.size)) (EP X pins σ Q) X.xe { s4 with heap := s4.heap.push { cls := .type "slice", data := .fields #[vl, vu, vs] } }
  refine tail_any (ops := [.ref a, .ref s4.heap.objs.size]) ht.isList.typeIs (PySem.slot_list_getitem.lookup) ?_ (by with_unfolding_all rfl)
  refine wpAny_getItem_list_slice ht.isList (Heap.IsSliceOf.new _ vl vu vs) pl pu ps (by decide) ?_ (by rw [List.size_toArray]; omega)
  rw [odds_slice]
  refine ⟨.ref _, _, I5.laid (t' := s4.toks) (o := .lst (odds xs)) (fun b ob q => Heap.get?_push_of_some _ q) (Nat.le_refl _) ?_, rfl, q _ (I5.hok.fresh (Nat.le_refl _))⟩
  exact ⟨by rw [odds_len]; omega, _, 0, vals_odds r, Heap.get?_push_size _ rfl⟩
def fOdds (g : EF) : FF := fun ρ => (g ρ).bind fun p => (res p.2 p.1).bind fun d => match d with
  | .list ds => some (odds ds, p.2)
  | _ => none
theorem f_odds {X : Cx} {e : Expr} {g : EF} {k1 k2 : Nat} {p1 p2 p3 pos : Pos} (he : PD X e g) : PF X (.Subscript e (.Slice (some (.Constant (.int 1) k1 p1)) none (some (.Constant (.int 2) k2 p2)) p3) pos) (fOdds g) := by
  obtain ⟨te, p, d⟩ := he.run
  refine ⟨_, pe_odds p, ?_⟩
  intro E B σ H ρ ds ρ' Q j e q
  simp only [fOdds, Option.bind_eq_some_iff] at e
  obtain ⟨⟨a, ρ1⟩, e1, dd, e2, e3⟩ := e
  split at e3
  · rename_i xs
    cases e3
    refine d E B σ H ρ a ρ1 _ j e1 fun v H1 j1 x1 s1 o1 => ?_
    obtain ⟨l, vs, rfl, h1, h2⟩ := (o1.bd j1 e2).list
    refine ⟨l, vs, rfl, h1, fun p hp => ?_⟩
    exact q p _ _ (free_back j1 x1 hp) (j1.block hp) (x1.trans (ext_block hp)) s1 upd_same (h2.odds.mono (ext_block hp))
  · cases e3
/-! ### for a, b in enumerate(x), x held: it may not change meanwhile -/
def lendE (E : En) (p : Addr) (vs : List V) (i : Nat) : En := ⟨fun b => E.B0 b ∨ b = p, upd E.H0 p (.lst vs), fun b => E.io b ∨ b = p, fun n => if n = i then p else E.ad n⟩
theorem J.lend {K : PySem.W.Frag} {E : En} {B : Bk} {σ : L2.St} {H : Hp} {ρ : Rho} {i : Nat} {ds : List PyData} (j : J K E B σ H ρ) (h : ρ[i]? = some (.l false ds)) :
    ∃ p vs, J K (lendE E p vs i) B σ H (ρ.set i (.l true ds)) ∧ E.H0 p = none ∧ σ[i]? = some (some (.ref p)) ∧ H p = some (.lst vs) := by
  obtain ⟨p, vs, g1, g2, g3, g4, g5⟩ := j.own i _ _ h
  rw [if_neg Bool.false_ne_true] at g5
  have back : ∀ {n : Nat} {s : Sl}, (ρ.set i (.l true ds))[n]? = some s → (n = i ∧ s = .l true ds) ∨ (n ≠ i ∧ ρ[n]? = some s) := fun {n s} e => by
    rcases set_get e with ⟨a, b, _⟩ | b
    · exact .inl ⟨a, b⟩
    · exact .inr b
  have old : ∀ {n : Nat} {k : Bool} {ds' : List PyData}, (ρ.set i (.l true ds))[n]? = some (.l k ds') → ∃ k0, ρ[n]? = some (.l k0 ds') := fun {n k ds'} e => by
    rcases back e with ⟨rfl, e9⟩ | ⟨_, e⟩
    · cases e9; exact ⟨_, h⟩
    · exact ⟨_, e⟩
  refine ⟨p, vs, ⟨fun b o ni q => ?_, fun b z => ?_, fun b z => ?_, fun b z => ?_, j.bt, fun b z => z.imp (j.ioB b) id, by rw [List.length_set]; exact j.len, fun n d e => ?_, fun n k ds' e => ?_, fun n n' k d1 k' d2 p' e e' q q' => ?_, fun n ds' e => ?_⟩, g5, g1, g3⟩
  · have nb : b ≠ p := fun z => ni (.inr z)
    have q : upd E.H0 p (.lst vs) b = some o := q
    rw [upd_ne nb] at q
    exact j.keep b o (fun z => ni (.inl z)) q
  · rcases z with z | z
    · exact j.b0 b z
    · rw [z]; exact g2
  · show (E.B0 b ∨ b = p) ∨ upd E.H0 p (.lst vs) b = none
    by_cases e : b = p
    · exact .inl (.inr e)
    · rw [upd_ne e]
      exact (j.bn b z).imp .inl id
  · show upd E.H0 p (.lst vs) b ≠ none
    by_cases e : b = p
    · rw [e, upd_same]; simp
    · rw [upd_ne e]
      exact z.elim (j.b0t b) fun z => absurd z e
  · rcases back e with ⟨_, e⟩ | ⟨_, e⟩
    · cases e
    · exact j.val n d e
  · rcases back e with ⟨rfl, e9⟩ | ⟨hn, e⟩
    · cases e9
      refine ⟨p, vs, g1, g2, g3, g4, ?_⟩
      rw [if_pos rfl]
      exact ⟨.inr rfl, by show p = if n = n then p else E.ad n; rw [if_pos rfl]⟩
    · obtain ⟨p', ws, h1, h2, h3, h4, h5⟩ := j.own n k ds' e
      refine ⟨p', ws, h1, h2, h3, h4, ?_⟩
      cases k with
      | true =>
        rw [if_pos rfl] at h5 ⊢
        refine ⟨.inl h5.1, ?_⟩
        show p' = if n = i then p else E.ad n
        rw [if_neg hn]
        exact h5.2
      | false =>
        rw [if_neg Bool.false_ne_true] at h5 ⊢
        have pp : p' ≠ p := fun z => hn (j.inj n i _ _ _ _ p e h (by rw [← z]; exact h1) g1)
        show upd E.H0 p (.lst vs) p' = none
        rw [upd_ne pp]
        exact h5
  · obtain ⟨k0, e0⟩ := old e
    obtain ⟨k1, e1⟩ := old e'
    exact j.inj n n' _ _ _ _ p' e0 e1 q q'
  · rcases back e with ⟨_, e⟩ | ⟨_, e⟩
    · cases e
    · exact j.wr n ds' e
theorem J.unlend {K : PySem.W.Frag} {E : En} {B : Bk} {σ : L2.St} {H : Hp} {ρ : Rho} {i : Nat} {ds : List PyData} {p : Addr} {vs : List V} (j : J K (lendE E p vs i) B σ H ρ) (h : ρ[i]? = some (.l true ds)) (h0 : E.H0 p = none) (b0t : ∀ b, E.B0 b → E.H0 b ≠ none) (io : ∀ b, E.io b → E.B0 b) :
    J K E B σ H (ρ.set i (.l false ds)) := by
  obtain ⟨p1, ws1, g1, g2, g3, g4, g5⟩ := j.own i _ _ h
  rw [if_pos rfl] at g5
  have ep : p1 = p := by
    have := g5.2
    have e : (lendE E p vs i).ad i = p := if_pos rfl
    rw [e] at this
    exact this
  subst ep
  have back : ∀ {n : Nat} {s : Sl}, (ρ.set i (.l false ds))[n]? = some s → (n = i ∧ s = .l false ds) ∨ (n ≠ i ∧ ρ[n]? = some s) := fun {n s} e => by
    rcases set_get e with ⟨a, b, _⟩ | b
    · exact .inl ⟨a, b⟩
    · exact .inr b
  have old : ∀ {n : Nat} {k : Bool} {ds' : List PyData}, (ρ.set i (.l false ds))[n]? = some (.l k ds') → ∃ k0, ρ[n]? = some (.l k0 ds') := fun {n k ds'} e => by
    rcases back e with ⟨rfl, e9⟩ | ⟨_, e⟩
    · cases e9; exact ⟨_, h⟩
    · exact ⟨_, e⟩
  refine ⟨fun b o ni q => ?_, fun b z => j.b0 b (.inl z), fun b z => ?_, b0t, j.bt, io, by rw [List.length_set]; exact j.len, fun n d e => ?_, fun n k ds' e => ?_, fun n n' k d1 k' d2 p' e e' q q' => ?_, fun n ds' e => ?_⟩
  · have nb : b ≠ p1 := fun z => by rw [z, h0] at q; cases q
    refine j.keep b o (fun z => z.elim ni nb) ?_
    show upd E.H0 p1 (.lst vs) b = some o
    rw [upd_ne nb]
    exact q
  · by_cases e : b = p1
    · rw [e]; exact .inr h0
    · rcases j.bn b z with (w | w) | w
      · exact .inl w
      · exact absurd w e
      · have w : upd E.H0 p1 (.lst vs) b = none := w
        rw [upd_ne e] at w
        exact .inr w
  · rcases back e with ⟨_, e⟩ | ⟨_, e⟩
    · cases e
    · exact j.val n d e
  · rcases back e with ⟨rfl, e9⟩ | ⟨hn, e⟩
    · cases e9
      exact ⟨p1, ws1, g1, g2, g3, g4, by rw [if_neg Bool.false_ne_true]; exact h0⟩
    · obtain ⟨p', ws, h1, h2, h3, h4, h5⟩ := j.own n k ds' e
      have pp : p' ≠ p1 := fun z => hn (j.inj n i _ _ _ _ p1 e h (by rw [← z]; exact h1) g1)
      refine ⟨p', ws, h1, h2, h3, h4, ?_⟩
      cases k with
      | true =>
        rw [if_pos rfl] at h5 ⊢
        refine ⟨h5.1.resolve_right pp, ?_⟩
        have := h5.2
        have e : (lendE E p1 vs i).ad n = E.ad n := if_neg hn
        rw [e] at this
        exact this
      | false =>
        rw [if_neg Bool.false_ne_true] at h5 ⊢
        have h5 : upd E.H0 p1 (.lst vs) p' = none := h5
        rw [upd_ne pp] at h5
        exact h5
  · obtain ⟨k0, e0⟩ := old e
    obtain ⟨k1, e1⟩ := old e'
    exact j.inj n n' _ _ _ _ p' e0 e1 q q'
  · rcases back e with ⟨_, e⟩ | ⟨_, e⟩
    · cases e
    · exact j.wr n ds' e
theorem RetJ.unlend {K : PySem.W.Frag} {E : En} {fr : Bool} {d : PyData} {ρ : Rho} {v : V} {H : Hp} {i : Nat} {ds : List PyData} {p : Addr} {vs : List V} (r : RetJ K (lendE E p vs i) fr d ρ v H) (h : ρ[i]? = some (.l true ds)) (h0 : E.H0 p = none) (b0t : ∀ b, E.B0 b → E.H0 b ≠ none) (io : ∀ b, E.io b → E.B0 b) :
    RetJ K E fr d (ρ.set i (.l false ds)) v H := by
  obtain ⟨B, σ, j, h1⟩ := r
  have up : ∀ {q : Addr}, (lendE E p vs i).H0 q = none → E.H0 q = none := fun {q} z => by
    have z : upd E.H0 p (.lst vs) q = none := z
    by_cases e : q = p
    · rw [e]; exact h0
    · rw [upd_ne e] at z
      exact z
  refine ⟨B, σ, j.unlend h h0 b0t io, ?_⟩
  cases fr with
  | false => exact Rp.mono (hid_sub fun b z => .inl z) _ h1
  | true =>
    rcases h1 with ⟨p, ws, ds, h1, h2, h3, h4, h5, h6⟩ | ⟨t, p, xs, ws, ds, rest, h1, h2, h2', h3, h4, h5, h6⟩ | ⟨t, p, x0, ws, ds, d0, h1, h2, h2', h3, h4, h5, h6⟩
    · exact .inl ⟨p, ws, ds, h1, h2, up h3, h4, h5, h6⟩
    · exact .inr (.inl ⟨t, p, xs, ws, ds, rest, h1, h2, h2', up h3, h4, h5, h6⟩)
    · exact .inr (.inr ⟨t, p, x0, ws, ds, d0, h1, h2, h2', up h3, h4, h5, h6⟩)
open Classical in
noncomputable def forGoH (i : Nat) (ds0 : List PyData) (t : TGf) (b : SF) : List PyData → SF
  | [], ρ => if ρ[i]? = some (.l true ds0) then some (.nx (ρ.set i (.l false ds0))) else none
  | d :: r, ρ => if ρ[i]? = some (.l true ds0) then (t d ρ).bind fun ρ1 => (b ρ1).bind fun o => match o with
      | .nx ρ2 => forGoH i ds0 t b r ρ2
      | .ct ρ2 => forGoH i ds0 t b r ρ2
      | .bk ρ2 => if ρ2[i]? = some (.l true ds0) then some (.nx (ρ2.set i (.l false ds0))) else none
      | .rt d ρ2 => if ρ2[i]? = some (.l true ds0) then some (.rt d (ρ2.set i (.l false ds0))) else none
    else none
noncomputable def sForEnH (i : Nat) (t : TGf) (b : SF) : SF := fun ρ => match ρ[i]? with
  | some (.l false ds) => forGoH i ds t b (enumD 0 ds) (ρ.set i (.l true ds))
  | _ => none
theorem ss_forEnH {K : PySem.W.Frag} {fr : Bool} {tg : TG} {tb : TS} {i : Nat} {t : TGf} {ts : List Nat} {b : SF} (h2 : Sg K tg t ts) (h3 : Ss K fr tb b) :
    Ss K fr (tFor (iEnum K (tCons (tVar i) tNil)) tg tb) (sForEnH i t b) := by
  intro E B σ H ρ oc D j e q
  unfold sForEnH at e
  split at e
  case h_2 => cases e
  rename_i ds hi
  obtain ⟨p, vs, j1, h0, hp, hl⟩ := j.lend hi
  have bt := j.b0t
  have io := j.ioB
  refine ⟨.ref p, hp, p, vs, rfl, .inl (.inl hl), ?_⟩
  refine ⟨fun n m σ' H' => ∃ B' ρ', J K (lendE E p vs i) B' σ' H' ρ' ∧ Ext B H B' H' ∧ n ≤ (enumD 0 ds).length ∧ m = (enumD 0 ds).length - n ∧ forGoH i ds t b ((enumD 0 ds).drop n) ρ' = some oc, ⟨_, B, _, j1, Ext.refl, Nat.zero_le _, rfl, e⟩, ?_⟩
  rintro n m σ' H' ⟨B', ρ', j', x', hn, rfl, go⟩
  have own : ρ'[i]? = some (.l true ds) → ∃ vs', H' p = some (.lst vs') ∧ RpA K (hid B' H') vs' ds := fun hr => by
    obtain ⟨p1, ws, g1, g2, g3, g4, g5⟩ := j'.own i _ _ hr
    rw [if_pos rfl] at g5
    have := g5.2
    have ee : (lendE E p vs i).ad i = p := if_pos rfl
    rw [ee] at this
    subst this
    exact ⟨ws, g3, g4⟩
  by_cases hlt : n < (enumD 0 ds).length
  · rw [List.drop_eq_getElem_cons hlt] at go
    simp only [forGoH] at go
    split at go
    case isFalse => cases go
    rename_i hr
    obtain ⟨vs', g3, g4⟩ := own hr
    obtain ⟨ρ2, g1, go⟩ := Option.bind_eq_some_iff.mp go
    obtain ⟨o, g2, go⟩ := Option.bind_eq_some_iff.mp go
    have ed : (enumD 0 ds)[n]? = some (enumD 0 ds)[n] := List.getElem?_eq_getElem hlt
    obtain ⟨d0, e0, ed2⟩ := enumD_get _ _ _ _ ed
    obtain ⟨v, e1, e2⟩ := g4.get e0
    refine .inr ⟨⟨vs', v, .inl (.inl g3), e1⟩, fun σ3 H3 => ∃ B3 ρ3, J K (lendE E p vs i) B3 σ3 H3 ρ3 ∧ Ext B H B3 H3 ∧ forGoH i ds t b ((enumD 0 ds).drop (n + 1)) ρ3 = some oc, ?_, fun x H2 y => ?_⟩
    · rintro σ3 H3 ⟨B3, ρ3, j3, x3, g⟩
      exact ⟨(enumD 0 ds).length - (n + 1), by omega, B3, ρ3, j3, x3, hlt, rfl, g⟩
    · obtain ⟨T, z, rfl, hT, rfl, hy⟩ := y
      have hy := hy vs' (.inl (.inl g3))
      rw [e1] at hy
      cases hy
      have rp : Rp K (hid B' (upd H' T (.tup [.int (n : Nat), v]))) (.ref T) (enumD 0 ds)[n] := by
        rw [ed2]
        refine rp_tup j'.bt hT (.cons ?_ (.cons e2 .nil))
        rw [Nat.zero_add]
        exact .int _
      have sm : Same H' (upd H' T (.tup [.int (n : Nat), v])) := same_new hT
      refine h2 (lendE E p vs i) B' σ' _ ρ' _ _ ρ2 _ (j'.grow sm) rp g1 fun σ4 j4 _ _ => ?_
      have x4 : Ext B H B' (upd H' T (.tup [.int (n : Nat), v])) := x'.trans (Ext.grow sm)
      refine h3 (lendE E p vs i) B' σ4 _ ρ2 o _ j4 g2 ?_
      cases o with
      | nx ρ3 => exact fun B5 σ5 H5 j5 x5 => ⟨B5, ρ3, j5, x4.trans x5, go⟩
      | ct ρ3 => exact fun B5 σ5 H5 j5 x5 => ⟨B5, ρ3, j5, x4.trans x5, go⟩
      | bk ρ3 =>
        dsimp only at go
        split at go
        case isFalse => cases go
        rename_i hr3
        cases go
        exact fun B5 σ5 H5 j5 x5 => q B5 σ5 H5 (j5.unlend hr3 h0 bt io) (x4.trans x5)
      | rt d ρ3 =>
        dsimp only at go
        split at go
        case isFalse => cases go
        rename_i hr3
        cases go
        exact fun v5 H5 r5 => q v5 H5 (r5.unlend hr3 h0 bt io)
  · have en : n = (enumD 0 ds).length := by omega
    subst en
    rw [List.drop_eq_nil_of_le (Nat.le_refl _)] at go
    simp only [forGoH] at go
    split at go
    case isFalse => cases go
    rename_i hr
    cases go
    obtain ⟨vs', g3, g4⟩ := own hr
    refine .inl ⟨⟨vs', .inl (.inl g3), ?_⟩, q B' σ' H' (j'.unlend hr h0 bt io) x'⟩
    rw [g4.length, enumD_len]
    exact Nat.le_refl _
theorem z_forEnH {X : Cx} {fr : Bool} (i : Nat) {x : Str} {pos p1 p2 p3 tpos : Pos} {elts : List Expr} {kk : Nat} {body : List Stmt} {t : TGf} {ts : List Nat} {b : SF} (hp : PassesOwn (model X.prog X.w) X.A X.env X.xe) (hc : X.calm = true) (hg0 : Gl X "enumerate") (hm : X.mg "enumerate" = none)
    (hg : GD X (.Tuple elts kk tpos) t ts) (hb : SsD X fr body b) (hN : X.N[i]? = some x := by rfl) (hv : Vis X.env.scope x := by first | exact Or.inl rfl | exact Or.inr (Or.inl rfl) | exact Or.inr (Or.inr rfl)) (hd : (x == ("__debug__" : Str)) = false := by decide)
    (hcd : (x == ("__classdict__" : Str)) = false := by decide) (hst : starEach [.Name x p2] X.env = [(false, eval (.Name x p2) X.env)] := by rfl) (hs : ∀ y, foldedSetIterable (.Call (.Name "enumerate" p1) [.Name x p2] [] p3) X.env y = pure y := by intro _; rfl) :
    SD X fr (.For (.Tuple elts kk tpos) (.Call (.Name "enumerate" p1) [.Name x p2] [] p3) body [] pos) (sForEnH i t b) := by
  obtain ⟨tg', q2, d2⟩ := hg.run
  obtain ⟨tb, q3, d3⟩ := hb.run
  exact ⟨_, ps_for hp hc (pi_enum hg0 hm (pa_cons (pe_var hN hv hd hcd) pa_nil hst) hst) q2 q3 hs, ss_forEnH d2 d3⟩
end DL
/-! [e for a in x for b in y] -/
namespace DL
open PySem PySem.Spec PyProof.Rows L2
def cI (K : PySem.W.Frag) (g : IFn) : TI := fun σ H R => ∃ E B ρ ds ρ', J K E B σ H ρ ∧ g ρ = some (ds, ρ') ∧ ∀ Jt H', J K E B σ H' ρ' → Ext B H B H' → Shp ρ ρ' → Wk K Jt ds B H' → R Jt H'
theorem ID.can {X : Cx} {tg iter : Expr} {g : IFn} (h : ID X tg iter g) : PI X tg iter (cI X.K g) := by
  obtain ⟨t, p, d⟩ := h.run
  refine ⟨fun pins s σ H R I q => ?_⟩
  obtain ⟨E, B, ρ, ds, ρ', j, e, q⟩ := q
  exact p.run pins s σ H R I (d E B σ H ρ ds ρ' R j e q)
theorem wipe_in {τ : L2.St} {n : Nat} : ∀ {us : List Nat}, n ∈ us → (L2.wipe τ us)[n]? = if n < τ.length then some none else none
  | u :: us, h => by
    unfold L2.wipe
    by_cases hu : u = n
    · subst hu
      by_cases hq : u < τ.length
      · rw [if_pos hq, List.getElem?_set_self (by rw [wipe_length]; exact hq)]
      · rw [if_neg hq, List.getElem?_eq_none (by rw [List.length_set, wipe_length]; omega)]
    · rw [List.getElem?_set_ne hu]
      exact wipe_in ((List.mem_cons.mp h).resolve_left fun z => hu z.symm)
theorem wipe_wipe {τ : L2.St} {vs us : List Nat} (h : ∀ n ∈ us, n ∈ vs) : L2.wipe (L2.wipe τ us) vs = L2.wipe τ vs := by
  refine List.ext_getElem? fun n => ?_
  by_cases hv : n ∈ vs
  · rw [wipe_in hv, wipe_in hv, wipe_length]
  · rw [wipe_out hv, wipe_out hv, wipe_out fun z => hv (h n z)]
theorem wipeR_wipe {τ : Rho} {vs us : List Nat} (h : ∀ n ∈ us, n ∈ vs) : wipeR (wipeR τ us) vs = wipeR τ vs := by
  refine List.ext_getElem? fun n => ?_
  by_cases hv : n ∈ vs
  · rw [wipeR_in hv, wipeR_in hv, wipeR_len]
  · rw [wipeR_out hv, wipeR_out hv, wipeR_out fun z => hv (h n z)]
/-- the loop of a comprehension whose list stands at D -/
theorem lc_run {K : PySem.W.Frag} {E : En} {B : Bk} {σ : L2.St} {H1 : Hp} {ρ1 ρf : Rho} {Jt : It} {t : TGf} {c : BF} {g : EF} {ts vs : List Nat} {ds acc0 r : List PyData} {D : Addr} {ws0 : List V} {P : Hp → Prop} (hts : ∀ n ∈ ts, n ∈ vs)
    (j1 : J K E B (L2.wipe σ vs) H1 (wipeR ρ1 vs)) (wk : Wk K Jt ds B H1) (hB : B D) (hD0 : E.H0 D = none) (hl0 : H1 D = some (.lst ws0)) (ra0 : RpA K (hid B H1) ws0 acc0)
    (no : ∀ (n : Nat) k ds', (wipeR ρ1 vs)[n]? = some (.l k ds') → (L2.wipe σ vs)[n]? ≠ some (some (.ref D))) (go : lcGo t c g vs ds acc0 ρ1 = some (r, ρf))
    (fin : ∀ H' ws, J K E B (L2.wipe σ vs) H' (wipeR ρf vs) → Ext B H1 B H' → Shp (wipeR ρ1 vs) (wipeR ρf vs) → H' D = some (.lst ws) → RpA K (hid B H') ws r → P H') :
    ∃ W : Nat → Nat → Hp → Prop, (∃ m, W 0 m H1) ∧ ∀ i m H, W i m H → (Jt.stop i H ∧ P H) ∨ (Jt.go i H ∧ ∃ Nx : Hp → Prop, (∀ H', Nx H' → ∃ m', m' < m ∧ W (i + 1) m' H') ∧ ∀ x H', Jt.yld i H x H' → cG K t ts x (L2.wipe σ vs) H' fun σ3 H3 =>
      L2.wipe σ3 vs = L2.wipe σ vs ∧ cB K c σ3 H3 fun b H4 => if b = true then cE K g σ3 H4 fun y H5 => ∃ acc, H5 D = some (.lst acc) ∧ acc.length < sizeLine ∧ Nx (upd H5 D (.lst (acc ++ [y]))) else Nx H4) := by
  refine ⟨fun n m H' => ∃ ρ2 acc ws, J K E B (L2.wipe σ vs) H' (wipeR ρ2 vs) ∧ Ext B H1 B H' ∧ Shp (wipeR ρ1 vs) (wipeR ρ2 vs) ∧
    H' D = some (.lst ws) ∧ RpA K (hid B H') ws acc ∧ n ≤ ds.length ∧ m = ds.length - n ∧ lcGo t c g vs (ds.drop n) acc ρ2 = some (r, ρf),
    ⟨_, ρ1, acc0, ws0, j1, Ext.refl, Shp.refl _, hl0, ra0, Nat.zero_le _, rfl, go⟩, ?_⟩
  rintro n m H' ⟨ρ2, acc, ws, j2, x2, s2, hl, ra, hn, rfl, go⟩
  obtain ⟨turn, stop⟩ := wk _ H' x2 j2.bt
  by_cases hlt : n < ds.length
  · have ed : ds[n]? = some ds[n] := List.getElem?_eq_getElem hlt
    obtain ⟨hgo, yl⟩ := turn n _ ed
    rw [List.drop_eq_getElem_cons hlt] at go
    simp only [lcGo, Option.bind_eq_some_iff] at go
    obtain ⟨ρ3, g1, ⟨k, ρ4⟩, g2, g3⟩ := go
    refine .inr ⟨hgo, fun H' => ∃ ρ2 acc ws, J K E B (L2.wipe σ vs) H' (wipeR ρ2 vs) ∧ Ext B H1 B H' ∧ Shp (wipeR ρ1 vs) (wipeR ρ2 vs) ∧
      H' D = some (.lst ws) ∧ RpA K (hid B H') ws acc ∧ lcGo t c g vs (ds.drop (n + 1)) acc ρ2 = some (r, ρf), ?_, fun x H2 y => ?_⟩
    · rintro H3 ⟨ρ5, acc', ws', a1, a2, a3, a4, a5, a6⟩
      exact ⟨ds.length - (n + 1), by omega, ρ5, acc', ws', a1, a2, a3, a4, a5, hlt, rfl, a6⟩
    · obtain ⟨sm, rp⟩ := yl x H2 y
      have hl2 : H2 D = some (.lst ws) := sm _ _ hl
      have no2 : ∀ (i : Nat) k ds, (wipeR ρ2 vs)[i]? = some (.l k ds) → (L2.wipe σ vs)[i]? ≠ some (some (.ref D)) := fun i k ds q1 q2 => by
        obtain ⟨ds', q3⟩ := s2.symm.lst q1
        exact no i _ _ q3 q2
      refine ⟨pinE E D (.lst ws), _, wipeR ρ2 vs, _, ρ3, (j2.grow sm).pin hB hD0 hl2 no2, rp, g1, fun σ3 j3 l3 n3 => ?_⟩
      have ew : L2.wipe σ3 vs = L2.wipe σ vs := wipe_eq hts l3 fun n z => (n3 n z).1
      have s3 : Shp (wipeR ρ1 vs) (wipeR ρ3 vs) := wipeR_shp hts (by
        have a := j3.len
        have b := j1.len
        rw [l3] at a
        rw [wipeR_len] at b
        omega) s2 fun n z => (n3 n z).2
      refine ⟨ew, pinE E D (.lst ws), _, ρ3, k, ρ4, j3, g2, fun H4 j4 x4 s4 => ?_⟩
      obtain ⟨j4', l4, no4⟩ := j4.unpin hD0 j1.b0t j1.ioB j1.bn
      cases k with
      | false =>
        rw [if_neg Bool.false_ne_true] at g3
        refine iteF ?_
        have jw := j4'.wipe vs
        rw [ew] at jw
        have x5 := (Ext.grow sm).trans x4
        exact ⟨ρ4, acc, ws, jw, x2.trans x5, s3.trans (s4.wipe vs), l4, ra.mono x5, g3⟩
      | true =>
        rw [if_pos rfl] at g3
        refine iteT ?_
        simp only [Option.bind_eq_some_iff] at g3
        obtain ⟨⟨a, ρ5⟩, g4, g5⟩ := g3
        split at g5
        · rename_i e' ha
          simp only at ha
          subst ha
          split at g5
          · rename_i hz
            refine ⟨pinE E D (.lst ws), _, ρ4, _, ρ5, j4, g4, fun y H5 j5 x5 s5 o5 => ?_⟩
            obtain ⟨j5', l5, no5⟩ := j5.unpin hD0 j1.b0t j1.ioB j1.bn
            have x6 := ((Ext.grow sm).trans x4).trans x5
            refine ⟨ws, l5, big_lt (by rw [ra.length]; exact Nat.le_of_lt hz), ?_⟩
            obtain ⟨j6, x7⟩ := j5'.behind (o := .lst (ws ++ [y])) hB hD0 no5
            have jw := j6.wipe vs
            rw [ew] at jw
            refine ⟨ρ5, acc ++ [e'], ws ++ [y], jw, x2.trans (x6.trans x7), s3.trans ((s4.trans s5).wipe vs), upd_same, ?_, g5⟩
            exact RpA.app (ra.mono (x6.trans x7)) (.cons (Rp.ext x7 o5) .nil)
          · cases g5
        · cases g5
  · have en : n = ds.length := by omega
    subst en
    rw [List.drop_eq_nil_of_le (Nat.le_refl _)] at go
    cases go
    exact .inl ⟨stop, fin H' ws j2 x2 s2 hl ra⟩
def lc2Go (t : TGf) (c : BF) (i1 : IFn) (t1 : TGf) (c1 : BF) (g : EF) (vs vs1 : List Nat) : List PyData → List PyData → Rho → Option (List PyData × Rho)
  | [], acc, ρ => some (acc, ρ)
  | d :: ds, acc, ρ => (t d (wipeR ρ vs)).bind fun ρ1 => (c ρ1).bind fun p => if p.1 = true then (i1 p.2).bind fun q => (lcGo t1 c1 g vs1 q.1 acc q.2).bind fun r => lc2Go t c i1 t1 c1 g vs vs1 ds r.1 r.2
    else lc2Go t c i1 t1 c1 g vs vs1 ds acc p.2
def fLc2 (i : IFn) (t : TGf) (c : BF) (i1 : IFn) (t1 : TGf) (c1 : BF) (g : EF) (vs vs1 : List Nat) : FF := fun ρ => (i ρ).bind fun p => if noL p.2 vs = true then (lc2Go t c i1 t1 c1 g vs vs1 p.1 [] p.2).map fun r => (r.1, restR p.2 r.2 vs) else none
theorem sf_lc2 {K : PySem.W.Frag} {wi : TI} {i i1 : IFn} {t t1 : TGf} {c c1 : BF} {g : EF} {ts vs ts1 vs1 : List Nat} (h1 : Si K wi i) (hts : ∀ n ∈ ts, n ∈ vs) (hts1 : ∀ n ∈ ts1, n ∈ vs1) (hv1 : ∀ n ∈ vs1, n ∈ vs) :
    Sf K (tLc2 wi (cG K t ts) (cB K c) (cI K i1) (cG K t1 ts1) (cB K c1) (cE K g) vs vs1) (fLc2 i t c i1 t1 c1 g vs vs1) := by
  intro E B σ H ρ res ρ' Q j e q
  simp only [fLc2, Option.bind_eq_some_iff] at e
  obtain ⟨⟨ds, ρ1⟩, e1, e2⟩ := e
  split at e2
  case isFalse => cases e2
  rename_i hnl
  obtain ⟨⟨r, ρf⟩, e3, e4⟩ := Option.map_eq_some_iff.mp e2
  cases e4
  refine h1 E B σ H ρ ds ρ1 _ j e1 fun Jt H1 j1 x1 s1 wk => ?_
  intro D hD
  have hD0 := (j1.fresh hD).1
  have jD := j1.block (o := .lst []) hD
  have xD : Ext B H1 (fun b => B b ∨ b = D) (upd H1 D (.lst [])) := ext_block hD
  have noD : ∀ (n : Nat) k ds', ρ1[n]? = some (.l k ds') → σ[n]? ≠ some (some (.ref D)) := fun n k ds' q1 q2 => by
    obtain ⟨p', ws', g1, g2, g3, _⟩ := j1.own n k ds' q1
    rw [q2] at g1
    cases g1
    rw [hD] at g3
    cases g3
  refine ⟨fun n m H' => ∃ ρ2 acc ws, J K E (fun b => B b ∨ b = D) (L2.wipe σ vs) H' (wipeR ρ2 vs) ∧ Ext (fun b => B b ∨ b = D) (upd H1 D (.lst [])) (fun b => B b ∨ b = D) H' ∧ Shp (wipeR ρ1 vs) (wipeR ρ2 vs) ∧
    H' D = some (.lst ws) ∧ RpA K (hid (fun b => B b ∨ b = D) H') ws acc ∧ n ≤ ds.length ∧ m = ds.length - n ∧ lc2Go t c i1 t1 c1 g vs vs1 (ds.drop n) acc ρ2 = some (r, ρf),
    ⟨_, ρ1, [], [], jD.wipe vs, Ext.refl, Shp.refl _, upd_same, .nil, Nat.zero_le _, rfl, e3⟩, ?_⟩
  rintro n m H' ⟨ρ2, acc, ws, j2, x2, s2, hl, ra, hn, rfl, go⟩
  obtain ⟨turn, stop⟩ := wk _ H' (xD.trans x2) j2.bt
  by_cases hlt : n < ds.length
  · have ed : ds[n]? = some ds[n] := List.getElem?_eq_getElem hlt
    obtain ⟨hgo, yl⟩ := turn n _ ed
    rw [List.drop_eq_getElem_cons hlt] at go
    simp only [lc2Go, Option.bind_eq_some_iff] at go
    obtain ⟨ρ3, g1, ⟨k, ρ4⟩, g2, g3⟩ := go
    refine .inr ⟨hgo, fun H' => ∃ ρ2 acc ws, J K E (fun b => B b ∨ b = D) (L2.wipe σ vs) H' (wipeR ρ2 vs) ∧ Ext (fun b => B b ∨ b = D) (upd H1 D (.lst [])) (fun b => B b ∨ b = D) H' ∧ Shp (wipeR ρ1 vs) (wipeR ρ2 vs) ∧
      H' D = some (.lst ws) ∧ RpA K (hid (fun b => B b ∨ b = D) H') ws acc ∧ lc2Go t c i1 t1 c1 g vs vs1 (ds.drop (n + 1)) acc ρ2 = some (r, ρf), ?_, fun x H2 y => ?_⟩
    · rintro H3 ⟨ρ5, acc', ws', a1, a2, a3, a4, a5, a6⟩
      exact ⟨ds.length - (n + 1), by omega, ρ5, acc', ws', a1, a2, a3, a4, a5, hlt, rfl, a6⟩
    · obtain ⟨sm, rp⟩ := yl x H2 y
      have hB : (fun b => B b ∨ b = D) D := .inr rfl
      have hl2 : H2 D = some (.lst ws) := sm _ _ hl
      have no2 : ∀ (i : Nat) k ds, (wipeR ρ2 vs)[i]? = some (.l k ds) → (L2.wipe σ vs)[i]? ≠ some (some (.ref D)) := fun i k ds q1 q2 => by
        obtain ⟨ds', q3⟩ := s2.symm.lst q1
        obtain ⟨q4, hv⟩ := wipeR_get q3 (fun z => by cases z)
        rw [wipe_out hv] at q2
        exact noD i _ _ q4 q2
      refine ⟨pinE E D (.lst ws), _, wipeR ρ2 vs, _, ρ3, (j2.grow sm).pin hB hD0 hl2 no2, rp, g1, fun σ3 j3 l3 n3 => ?_⟩
      have ew : L2.wipe σ3 vs = L2.wipe σ vs := wipe_eq hts l3 fun n z => (n3 n z).1
      have s3 : Shp (wipeR ρ1 vs) (wipeR ρ3 vs) := wipeR_shp hts (by rw [← j3.len, l3, wipe_length, ← j1.len]) s2 fun n z => (n3 n z).2
      refine ⟨ew, pinE E D (.lst ws), _, ρ3, k, ρ4, j3, g2, fun H4 j4 x4 s4 => ?_⟩
      have bn : ∀ b, (B b ∨ b = D) → E.B0 b ∨ E.H0 b = none := jD.bn
      obtain ⟨j4', l4, no4⟩ := j4.unpin hD0 j1.b0t j1.ioB bn
      cases k with
      | false =>
        rw [if_neg Bool.false_ne_true] at g3
        refine iteF ?_
        have jw := j4'.wipe vs
        rw [ew] at jw
        have x5 := (Ext.grow sm).trans x4
        exact ⟨ρ4, acc, ws, jw, x2.trans x5, s3.trans (s4.wipe vs), l4, ra.mono x5, g3⟩
      | true =>
        rw [if_pos rfl] at g3
        refine iteT ?_
        simp only [Option.bind_eq_some_iff] at g3
        obtain ⟨⟨ds1, ρ5⟩, g4, ⟨r1, ρ6⟩, g5, g6⟩ := g3
        refine ⟨pinE E D (.lst ws), _, ρ4, ds1, ρ5, j4, g4, fun Jt1 H5 j5 x5 s5 wk1 => ?_⟩
        obtain ⟨j5', l5, no5⟩ := j5.unpin hD0 j1.b0t j1.ioB bn
        have x6 := ((Ext.grow sm).trans x4).trans x5
        refine lc_run (E := E) (σ := σ3) (vs := vs1) (ts := ts1) hts1 (j5'.wipe vs1) wk1 hB hD0 l5 (ra.mono x6) (fun i k ds q1 q2 => ?_) g5 fun H6 ws6 j6 x7 s7 l6 ra6 => ?_
        · obtain ⟨q3, hv⟩ := wipeR_get q1 (fun z => by cases z)
          rw [wipe_out hv] at q2
          exact no5 i _ _ q3 q2
        · have jw := j6.wipe vs
          rw [wipe_wipe hv1, wipeR_wipe hv1, ew] at jw
          have s8 := s7.wipe vs
          rw [wipeR_wipe hv1, wipeR_wipe hv1] at s8
          exact ⟨ρ6, r1, ws6, jw, x2.trans (x6.trans x7), (s3.trans ((s4.trans s5).wipe vs)).trans s8, l6, ra6, g6⟩
  · have en : n = ds.length := by omega
    subst en
    rw [List.drop_eq_nil_of_le (Nat.le_refl _)] at go
    cases go
    refine .inl ⟨stop, ?_⟩
    have ll : ρ1.length = ρf.length := by
      have := s2.len
      rw [wipeR_len, wipeR_len] at this
      exact this
    have xx := xD.trans x2
    refine q D ws H' (free_back j1 x1 hD) ?_ (x1.trans xx) (s1.trans ?_) hl ra
    · refine ⟨j2.keep, j2.b0, j2.bn, j2.b0t, j2.bt, j2.ioB, by rw [restR_len, ← ll]; exact j1.len, fun i d e => ?_, fun i k ds e => ?_, fun i i' k ds k' ds' p e e' q q' => ?_, fun i ds e => ?_⟩
      · by_cases hv : i ∈ vs
        · rw [(restR_get ll).1 hv] at e
          obtain ⟨x, h1, h2⟩ := j1.val i d e
          exact ⟨x, h1, h2.ext xx⟩
        · rw [(restR_get ll).2 hv] at e
          have := j2.val i d (by rw [wipeR_out hv]; exact e)
          rw [wipe_out hv] at this
          exact this
      · by_cases hv : i ∈ vs
        · rw [(restR_get ll).1 hv] at e
          exact absurd e (noL_at hnl hv)
        · rw [(restR_get ll).2 hv] at e
          have := j2.own i k ds (by rw [wipeR_out hv]; exact e)
          rw [wipe_out hv] at this
          exact this
      · by_cases hv : i ∈ vs
        · rw [(restR_get ll).1 hv] at e
          exact absurd e (noL_at hnl hv)
        · by_cases hv' : i' ∈ vs
          · rw [(restR_get ll).1 hv'] at e'
            exact absurd e' (noL_at hnl hv')
          · rw [(restR_get ll).2 hv] at e
            rw [(restR_get ll).2 hv'] at e'
            exact j2.inj i i' _ _ _ _ p (by rw [wipeR_out hv]; exact e) (by rw [wipeR_out hv']; exact e') (by rw [wipe_out hv]; exact q) (by rw [wipe_out hv']; exact q')
      · by_cases hv : i ∈ vs
        · rw [(restR_get ll).1 hv] at e
          obtain ⟨p, ws', h1, h2, h3⟩ := j1.wr i ds e
          exact ⟨p, ws', h1, Same.seq xx h2, h3.mono xx⟩
        · rw [(restR_get ll).2 hv] at e
          have := j2.wr i ds (by rw [wipeR_out hv]; exact e)
          rw [wipe_out hv] at this
          exact this
    · refine Shp.of_at (by rw [restR_len, ll]) fun i => ?_
      by_cases hv : i ∈ vs
      · rw [(restR_get ll).1 hv]
      · rw [(restR_get ll).2 hv]
        have := s2.at i
        rw [wipeR_out hv, wipeR_out hv] at this
        exact this
section
variable {X : Cx} {elt tg iter tg1 iter1 : Expr} {ifs ifs1 : List Expr} {scope : Scope} {own : List (Str × Nat)} {pos : Pos} {i i1 : IFn} {t t1 : TGf} {c c1 : BF} {g : EF} {ts ts1 vs1 : List Nat}
theorem f_lc2 (hc : X.calm = true) (hN : X.N.Nodup) (hi : ID X tg iter i) (ok : BlkOk X.N X.env.scope scope own) (hts : ∀ n ∈ ts, n ∈ own.map (·.2)) (hts1 : ∀ n ∈ ts1, n ∈ vs1) (hv1 : ∀ n ∈ vs1, n ∈ own.map (·.2))
    (hg : ∀ (s : Shared) (H : Hp) (C : Addr) (cl : List (Str × Addr)) (fp : List Addr), GD (X.blk s H scope (compEnvC scope cl C X.env) fp) tg t ts) (ht : ∀ (s : Shared) (H : Hp) (C : Addr) (cl : List (Str × Addr)) (fp : List Addr), PTsD (X.blk s H scope (compEnvC scope cl C X.env) fp) ifs c)
    (hi1 : ∀ (s : Shared) (H : Hp) (C : Addr) (cl : List (Str × Addr)) (fp : List Addr), ID (X.blk s H scope (compEnvC scope cl C X.env) fp) tg1 iter1 i1)
    (hg1 : ∀ (s : Shared) (H : Hp) (C : Addr) (cl : List (Str × Addr)) (fp : List Addr), GD (X.blk s H scope (compEnvC scope cl C X.env) fp) tg1 t1 ts1) (ht1 : ∀ (s : Shared) (H : Hp) (C : Addr) (cl : List (Str × Addr)) (fp : List Addr), PTsD (X.blk s H scope (compEnvC scope cl C X.env) fp) ifs1 c1)
    (he : ∀ (s : Shared) (H : Hp) (C : Addr) (cl : List (Str × Addr)) (fp : List Addr), PD (X.blk s H scope (compEnvC scope cl C X.env) fp) elt g) (hs : ∀ x, foldedSetIterable iter X.env x = pure x := by intro _; rfl) (hs1 : ∀ env x, foldedSetIterable iter1 env x = pure x := by intro _ _; rfl) :
    PF X (.ListComp elt [⟨tg, iter, ifs, 0⟩, ⟨tg1, iter1, ifs1, 0⟩] scope pos) (fLc2 i t c i1 t1 c1 g (own.map (·.2)) vs1) := by
  obtain ⟨ti, p1, d1⟩ := hi.run
  exact ⟨_, pe_lc2 hc hN p1 ok hv1 (fun s H C cl fp => (hg s H C cl fp).can) (fun s H C cl fp => (ht s H C cl fp).can) (fun s H C cl fp => (hi1 s H C cl fp).can) (fun s H C cl fp => (hg1 s H C cl fp).can) (fun s H C cl fp => (ht1 s H C cl fp).can) (fun s H C cl fp => (he s H C cl fp).can) hs hs1, sf_lc2 d1 hts hts1 hv1⟩
end
/-! ### list(range(n)), [..] * n as a new list, x += new list -/
def fLRg (g : EF) : FF := fun ρ => (g ρ).bind fun p => match p.1 with
  | .d (.int n) => if 0 ≤ n ∧ n ≤ 1000000 then some (rngD 0 n.toNat, p.2) else none
  | _ => none
theorem rpa_rng {K : PySem.W.Frag} {H : Hp} {n : Nat} : RpA K H ((List.range n).map fun i => V.int (0 + (i : Nat))) (rngD 0 n) := by
  have e1 : ((List.range n).map fun i : Nat => V.int (0 + (i : Nat))) = ((List.range n).map fun i : Nat => (0 : Int) + (i : Nat)).map V.int := by rw [List.map_map]; rfl
  have e2 : rngD 0 n = ((List.range n).map fun i : Nat => (0 : Int) + (i : Nat)).map PyData.int := by rw [rngD, List.map_map]; rfl
  rw [e1, e2]
  exact RpA.ofInts
theorem f_lrg {X : Cx} {p p2 pos pos2 : Pos} {a : Expr} {g : EF} (hc : X.calm = true) (hg : Gl X "list") (hm : X.mg "list" = none) (hg2 : Gl X "range") (hm2 : X.mg "range" = none) (ha : PD X a g) (na : starEach [a] X.env = (false, eval a X.env) :: starEach [] X.env := by rfl)
    (nb : starEach [.Call (.Name "range" p2) [a] [] pos2] X.env = (false, eval (.Call (.Name "range" p2) [a] [] pos2) X.env) :: starEach [] X.env := by rfl) : PF X (.Call (.Name "list" p) [.Call (.Name "range" p2) [a] [] pos2] [] pos) (fLRg g) := by
  obtain ⟨ta, p1, d⟩ := ha.run
  refine ⟨_, pe_listRg hc hg hm (prg_1 hg2 hm2 p1 na) nb, ?_⟩
  intro E B σ H ρ ds ρ' Q j e q
  simp only [fLRg, Option.bind_eq_some_iff] at e
  obtain ⟨⟨a, ρ1⟩, e1, e2⟩ := e
  split at e2
  · rename_i n ha
    simp only at ha
    subst ha
    split at e2
    · rename_i hn
      cases e2
      refine d E B σ H ρ _ ρ1 _ j e1 fun v H1 j1 x1 s1 o1 => ?_
      have o1 : Rp X.K (hid B H1) v (.int n) := o1
      cases o1
      refine ⟨n, rfl, RgOk.of_le (by omega) (by omega) (by omega) (by omega), fun p hp => ?_⟩
      have e : rgV 0 n = (List.range n.toNat).map fun i => V.int (0 + (i : Nat)) := by rw [rgV, Int.sub_zero]
      exact q p _ _ (free_back j1 x1 hp) (j1.block hp) (x1.trans (ext_block hp)) s1 upd_same (by rw [e]; exact rpa_rng)
    · cases e2
  · cases e2
def fRepN (ga gb : EF) : FF := fun ρ => (ga ρ).bind fun p => (gb p.2).bind fun q => match p.1, q.1 with
  | .d (.list xs), .d (.int k) => if k ≤ (big : Nat) ∧ -(big : Nat) ≤ k ∧ xs.length * k.toNat ≤ big then some ((List.replicate k.toNat xs).flatten, q.2) else none
  | _, _ => none
theorem f_repN {X : Cx} {pos : Pos} {a b : Expr} {ga gb : EF} (ha : PD X a ga) (hb : PD X b gb) : PF X (.BinOp a .Mult b pos) (fRepN ga gb) := by
  obtain ⟨ta, p1, d1⟩ := ha.run
  obtain ⟨tb, p2, d2⟩ := hb.run
  refine ⟨_, pe_op op_rep p1 p2, ?_⟩
  intro E B σ H ρ ds ρ' Q j e q
  simp only [fRepN, Option.bind_eq_some_iff] at e
  obtain ⟨⟨a1, ρ1⟩, e1, ⟨a2, ρ2⟩, e2, e3⟩ := e
  split at e3
  · rename_i xs k ha hb
    simp only at ha hb
    subst ha hb
    split at e3
    · rename_i hz
      cases e3
      refine d1 E B σ H ρ _ ρ1 _ j e1 fun v1 H1 j1 x1 s1 o1 => ?_
      refine d2 E B σ H1 ρ1 _ ρ2 _ j1 e2 fun v2 H2 j2 x2 s2 o2 => ?_
      have o3 : Rp X.K (hid B H2) v1 (.list xs) := Rp.ext x2 o1
      have o4 : Rp X.K (hid B H2) v2 (.int k) := o2
      cases o4
      cases o3 with
      | lst h1 h2 =>
        have hb : (big : Nat) = 1000000 := rfl
        have h3 : ((big : Nat) : Int) = 1000000 := rfl
        rw [h3] at hz
        refine ⟨_, k, _, rfl, rfl, hid_le _ _ h1, by omega, by omega, big_le (by rw [h2.length]; exact hz.2.2), fun p hp => ?_⟩
        exact q p _ _ (free_back j2 (x1.trans x2) hp) (j2.block hp) ((x1.trans x2).trans (ext_block hp)) (s1.trans s2) upd_same ((RpA.rep h2 _).mono (ext_block hp))
    · cases e3
  · cases e3
def sExt (i : Nat) (g : FF) : SF := fun ρ => (getL ρ i).bind fun _ => (g ρ).bind fun p => (getL p.2 i).bind fun q => if q.2.length + p.1.length ≤ big then some (.nx (p.2.set i (.l q.1 (q.2 ++ p.1)))) else none
theorem set_self {α : Type} {l : List α} {i : Nat} {a : α} (h : l[i]? = some a) : l.set i a = l := by
  refine List.ext_getElem? fun n => ?_
  by_cases e : n = i
  · subst e
    rw [List.getElem?_set_self (List.getElem?_eq_some_iff.mp h).1, h]
  · rw [List.getElem?_set_ne (Ne.symm e)]
theorem ss_ext {K : PySem.W.Frag} {fr : Bool} {i : Nat} {g : FF} {te : TE} (d1 : Sf K te g) : Ss K fr (tAug i te rExt2) (sExt i g) := by
  intro E B σ H ρ oc D j e q
  simp only [sExt, Option.bind_eq_some_iff] at e
  obtain ⟨⟨k0, ds0⟩, e0, ⟨es, ρ1⟩, e1, ⟨k, ds⟩, e3, e4⟩ := e
  split at e4
  · rename_i hz
    cases e4
    have e5 := getL_some e3
    obtain ⟨p0, vs0, a1, a2, a3, a4, a5⟩ := j.own i _ _ (getL_some e0)
    refine ⟨_, a1, ?_⟩
    refine d1 E B σ H ρ _ ρ1 _ j e1 fun pb ws H1 hp j1 x1 s1 hl r => ?_
    obtain ⟨p, vs, b1, b2, b3, b4, b5⟩ := j1.own i _ _ e5
    rw [a1] at b1
    cases b1
    refine ⟨p0, pb, vs, ws, rfl, rfl, b3, hl, big_le (by rw [b4.length, r.length]; exact hz), ?_⟩
    obtain ⟨j2, x2⟩ := j1.write e5 a1 (b4.app r)
    rw [set_self a1]
    exact q _ σ _ j2 (x1.trans x2)
  · cases e4
theorem z_ext {X : Cx} {fr : Bool} {pos : Pos} (i : Nat) {x : Str} {e : Expr} {g : FF} {pos' : Pos} (hN : X.N.Nodup) (he : PF X e g) (hi : X.N[i]? = some x := by rfl) (hx : Loc X.env.scope x := by first | exact Or.inl rfl | exact Or.inr rfl) (hf : X.fn x = true ∨ X.env.scope.names.lookup x = some .local := by first | exact .inl rfl | exact .inr rfl | assumption) :
    SD X fr (.AugAssign (.Name x pos') .Add e pos) (sExt i g) := by
  obtain ⟨te, p1, d1⟩ := he.run
  exact ⟨_, ps_aug hN hi hx p1 iop_ext hf, ss_ext d1⟩
/-! ### x[i] += e, x held -/
theorem get_list {X : Cx} : PGet X (rIxL X.K) := by
  intro pins s σ H x y v u Q I rx ry h
  obtain ⟨p, xs, i, z, rfl, rfl, hq, he, q⟩ := h
  cases rx
  obtain ⟨t, rfl⟩ := ry
  obtain ⟨its, r, pl, hz⟩ := I.list hq
  obtain ⟨j, h1, h2, h3, h4, h5⟩ := atI_get he
  obtain ⟨w, ew, rw'⟩ := r.get h2
  have hl := r.length
  have hn := line63
  have fin : EP X pins σ Q w s := ⟨z, H, I, rw', q⟩
  by_cases h0 : 0 ≤ i
  · have hj : i.toNat = j := by
      rw [seqIndex_of h0 h5] at h1
      exact Option.some.inj h1
    exact wpAny_getItem_list pl.isList h0 (by omega) (by rw [hj]; simpa using ew) fin
  · have hj : (i + (its.toArray.size : Int)).toNat = j := by
      rw [seqIndex_neg (by omega) h4] at h1
      rw [List.size_toArray, ← hl]
      exact Option.some.inj h1
    exact wpAny_getItem_list_neg pl.isList (by omega) (by rw [List.size_toArray] <;> omega) (by omega) (by rw [hj]; simpa using ew) fin
def sAugIx (i : Nat) (gi ge : EF) : SF := fun ρ => (getL ρ i).bind fun _ => (gi ρ).bind fun p => match p.1 with
  | .d (.int n) => (getL p.2 i).bind fun q => match atI q.2 n with
    | some (.int v) => (ge p.2).bind fun r => match r.1 with
      | .d (.int w) => (getL r.2 i).bind fun q2 => (ixN q2.2.length n).map fun m => .nx (r.2.set i (.l q2.1 (q2.2.set m (.int (v + w)))))
      | _ => none
    | _ => none
  | _ => none
theorem ss_augIx {K : PySem.W.Frag} {fr : Bool} {i : Nat} {gi ge : EF} {ti te : TE} (d1 : Sd K ti gi) (d2 : Sd K te ge) : Ss K fr (tAugS (tVar i) ti te (rIxL K) (ipI fun i j => i + j) rSetL) (sAugIx i gi ge) := by
  intro E B σ H ρ oc D j e q
  simp only [sAugIx, Option.bind_eq_some_iff] at e
  obtain ⟨⟨k0, ds0⟩, e0, ⟨a, ρ1⟩, e1, e2⟩ := e
  split at e2
  · rename_i n ha
    simp only at ha
    subst ha
    simp only [Option.bind_eq_some_iff] at e2
    obtain ⟨⟨k1, ds1⟩, e3, e4⟩ := e2
    split at e4
    · rename_i v hv
      simp only [Option.bind_eq_some_iff] at e4
      obtain ⟨⟨b, ρ2⟩, e5, e6⟩ := e4
      split at e6
      · rename_i w hw
        simp only at hw
        subst hw
        simp only [Option.bind_eq_some_iff, Option.map_eq_some_iff] at e6
        obtain ⟨⟨k2, ds2⟩, e7, m, e8, e9⟩ := e6
        subst e9
        obtain ⟨p0, vs0, a1, a2, a3, a4, a5⟩ := j.own i _ _ (getL_some e0)
        refine ⟨_, a1, ?_⟩
        refine d1 E B σ H ρ _ ρ1 _ j e1 fun x H1 j1 x1 s1 o1 => ?_
        have o1 : Rp K (hid B H1) x (.int n) := o1
        cases o1
        obtain ⟨p, vs, b1, b2, b3, b4, b5⟩ := j1.own i _ _ (getL_some e3)
        rw [a1] at b1
        cases b1
        obtain ⟨z, z1, z2⟩ := RpA.atI b4 hv
        cases z2
        refine ⟨p0, vs, n, _, rfl, rfl, SqL.of b3, z1, ?_⟩
        refine d2 E B σ H1 ρ1 _ ρ2 _ j1 e5 fun y H2 j2 x2 s2 o2 => ?_
        have o2 : Rp K (hid B H2) y (.int w) := o2
        cases o2
        refine ⟨v, w, rfl, rfl, ?_⟩
        have e10 := getL_some e7
        obtain ⟨p', vs', c1, c2, c3, c4, c5⟩ := j2.own i _ _ e10
        rw [a1] at c1
        cases c1
        refine ⟨_, vs', n, m, rfl, rfl, c3, by rw [c4.length]; exact e8, ?_⟩
        obtain ⟨j3, x3⟩ := j2.write e10 a1 (RpA.set (.int (v + w)) m c4)
        exact q B σ _ j3 ((x1.trans x2).trans x3)
      · cases e6
    · cases e4
  · cases e2
theorem z_augIx {X : Cx} {fr : Bool} {pos tpos px : Pos} (i : Nat) {x : Str} {ix e : Expr} {gi ge : EF} (hi : PD X ix gi) (he : PD X e ge) (hN : X.N[i]? = some x := by rfl) (hv : Vis X.env.scope x := by first | exact Or.inl rfl | exact Or.inr (Or.inl rfl) | exact Or.inr (Or.inr rfl)) (hd : (x == ("__debug__" : Str)) = false := by decide)
    (hcd : (x == ("__classdict__" : Str)) = false := by decide) (ha : ∀ ov iv new, augStore ix ov iv new = (do holding [new, ov, iv] (setItem ov iv new); release [new, ov, iv] []; pure .next) := by intros; rfl) :
    SD X fr (.AugAssign (.Subscript (.Name x px) ix tpos) .Add e pos) (sAugIx i gi ge) := by
  obtain ⟨ti, p1, d1⟩ := hi.run
  obtain ⟨te, p2, d2⟩ := he.run
  exact ⟨_, ps_augS (pe_var hN hv hd hcd) p1 get_list p2 ip_add set_list ha, ss_augIx d1 d2⟩
/-! ### xs.count(text), texts -/
def eqs (z : Str) (v : Value) : Bool := match v with
  | .str y _ => y == z
  | _ => false
theorem strs_vals : ∀ {us : List Value} {ss : List Str}, Vals (ss.map V.str) us → ∀ y ∈ us, ∃ a t, y = .str a t
  | _, [], h, y, hy => by cases h; cases hy
  | _, a :: ss, h, y, hy => by
    cases h with
    | cons h1 h2 =>
      rcases List.mem_cons.mp hy with e | e
      · obtain ⟨t, ht⟩ := h1
        exact ⟨a, t, by rw [e, ht]⟩
      · exact strs_vals h2 y e
theorem eqs_count {z : Str} : ∀ {us : List Value} {ss : List Str}, Vals (ss.map V.str) us → us.countP (eqs z) = ss.count z
  | _, [], h => by cases h; rfl
  | _, a :: ss, h => by
    cases h with
    | cons h1 h2 =>
      obtain ⟨t, rfl⟩ := h1
      have ih := eqs_count (z := z) h2
      rw [List.countP_cons, List.count_cons, ih] <;> rfl
def rCntS (K : PySem.W.Frag) : V → List V → Hp → VK → Prop := fun x xs H Q => ∃ (p : Addr) (ss : List Str) (z : Str), x = .ref p ∧ xs = [.str z] ∧ SqL K H p (ss.map V.str) ∧ Q (.int (ss.count z : Nat)) H
theorem mt_countS {X : Cx} : MtR X "list.count" (rCntS X.K) := by
  intro pins s σ H x xs v us Q I rx rxs h
  obtain ⟨p, ss, z, rfl, rfl, hs, q⟩ := h
  cases rx
  obtain ⟨u, rfl, ru⟩ := rxs.one
  have ru0 := ru
  obtain ⟨t, rfl⟩ := ru
  obtain ⟨its, rv, ⟨⟨cls, dd, data, sl⟩, n, ho, hc, hdn, hd⟩, hlen⟩ := I.list hs
  simp only at hc hd
  subst hc hd
  refine call_meets PySem.F.slot_list_count ⟨_, ho, rfl⟩ PySem.F.entry_list_count (PySem.F.args_list_count_2 _ _)
    (SeqAt.list_countAt p its.toArray n dd sl (.str z t) (eqs z)) ⟨ho, fun y hy => ?_, ?_⟩
  · obtain ⟨a, t', rfl⟩ := strs_vals rv y (by simpa using hy)
    exact eqAt_V (y := .str a) (x := .str z) ⟨t', rfl⟩ ⟨t, rfl⟩ rfl rfl
  · have ec : its.toArray.toList.countP (eqs z) = ss.count z := eqs_count rv
    refine ⟨.int (ss.count z : Nat), H, I.tok _, ⟨s.toks, ?_⟩, q⟩
    show Value.int ((its.toArray.toList.countP (eqs z) : Nat) : Int) s.toks = Value.int ((ss.count z : Nat) : Int) s.toks
    rw [ec]
def strs? : List PyData → Option (List Str)
  | [] => some []
  | .str z :: r => (strs? r).map fun l => z :: l
  | _ => none
theorem strs_of : ∀ {ds : List PyData} {ss : List Str}, strs? ds = some ss → ds = ss.map .str
  | [], _, h => by cases h; rfl
  | .str z :: r, ss, h => by
    obtain ⟨l, h1, h2⟩ := Option.map_eq_some_iff.mp (show (strs? r).map (fun l => z :: l) = some ss from h)
    cases h2
    rw [strs_of h1]
    rfl
theorem strs_map : ∀ ss : List Str, strs? (ss.map .str) = some ss
  | [] => rfl
  | z :: r => by
    show (strs? (r.map .str)).map (fun l => z :: l) = _
    rw [strs_map r]
    rfl
theorem rpa_strs {K : PySem.W.Frag} {H : Hp} : ∀ {ss : List Str} {vs : List V}, RpA K H vs (ss.map .str) → vs = ss.map V.str
  | [], _, h => by cases h; rfl
  | z :: r, _, h => by
    cases h with
    | cons h1 h2 => cases h1; rw [rpa_strs h2]; rfl
def gCnt (go ge : EF) : EF := fun ρ => (go ρ).bind fun p => (ge p.2).bind fun q => (res q.2 p.1).bind fun x => (res q.2 q.1).bind fun y => match x, y with
  | .list ds, .str z => (strs? ds).map fun ss => (.d (.int (ss.count z : Nat)), q.2)
  | _, _ => none
theorem d_count {X : Cx} {o e : Expr} {go ge : EF} {apos cpos : Pos} (ho : PD X o go) (he : PD X e ge)
    (hbase : attributeBase o "count" X.env (eval o X.env) = eval o X.env := by rfl)
    (hfew : ((backTo cpos (starEach (e :: []) X.env)).all (fun x => !x.1) && (backToKw cpos (keywordEach [] X.env)).all (fun x => x.1.isSome)
      && decide ((e :: []).length + ([] : List Keyword).length + (if ([] : List Keyword).isEmpty then 0 else 1) < 30)) = true := by rfl)
    (hline : (apos.endLine == cpos.line) = true := by rfl) (hs : starEach (e :: []) X.env = (false, eval e X.env) :: starEach [] X.env := by rfl) (hplain : (backTo cpos (starEach [] X.env)).any (·.1) = false := by rfl) :
    PD X (.Call (.Attribute o "count" apos) [e] [] cpos) (gCnt go ge) := by
  obtain ⟨to, p1, d1⟩ := ho.run
  obtain ⟨te, p2, d2⟩ := he.run
  refine ⟨_, pe_bm PySem.F.plainAttrs_list PySem.F.slot_list_count PySem.F.type_list_count mt_countS p1 (pa_cons p2 pa_nil hs) hbase hfew hline hs hplain, ?_⟩
  intro E B σ H ρ a ρ' Q j eq q
  simp only [gCnt, Option.bind_eq_some_iff] at eq
  obtain ⟨⟨a1, ρ1⟩, e1, ⟨a2, ρ2⟩, e3, x, ex, y, ey, e4⟩ := eq
  split at e4
  · rename_i ds z
    obtain ⟨ss, hn, e5⟩ := Option.map_eq_some_iff.mp e4
    cases e5
    have hl : ∀ {H1 : Hp}, J X.K E B σ H1 ρ1 → ∀ {v1}, ArOk X.K B σ H1 ρ1 v1 a1 → ∃ p vs, v1 = .ref p ∧ SqL X.K H1 p vs := fun {H1} j1 {v1} o1 => by
      cases a1 with
      | d d1 =>
        cases ex
        obtain ⟨p, vs, h1, h2, _⟩ := (ArOk.bd (d := .list ds) j1 o1 rfl).list
        exact ⟨p, vs, h1, h2⟩
      | s i =>
        rcases o1.2 with ⟨k, ds', q'⟩ | ⟨ds', q'⟩
        · obtain ⟨p, vs, h1, h2, _⟩ := (ArOk.bd (d := .list ds') j1 o1 (by simp only [res, q'])).list
          exact ⟨p, vs, h1, h2⟩
        · obtain ⟨p, vs, h1, h2, _⟩ := (ArOk.bd (d := .list ds') j1 o1 (by simp only [res, q'])).list
          exact ⟨p, vs, h1, h2⟩
    refine d1 E B σ H ρ _ ρ1 _ j e1 fun v1 H1 j1 x1 s1 o1 => ?_
    refine ⟨?_, ?_⟩
    · obtain ⟨p, vs, rfl, h1⟩ := hl j1 o1
      exact .inl ⟨rfl, _, h1⟩
    · refine d2 E B σ H1 ρ1 a2 _ _ j1 e3 fun v2 H2 j2 x2 s2 o2 => ?_
      obtain ⟨p, vs, rfl, h2, h3⟩ := ((o1.later x2 s2).bd j2 ex).list
      rw [strs_of hn] at h3
      have := rpa_strs h3
      subst this
      have hy : v2 = .str z := (o2.bd j2 ey).str
      subst hy
      exact ⟨p, ss, z, rfl, rfl, h2, q _ H2 j2 (x1.trans x2) (s1.trans s2) (.int _)⟩
  · cases e4
end DL
/-! f(new list): f may change it, nobody else has it -/
namespace DL
open PySem PySem.Spec PyProof.Rows L2
def gCallO (F : FnF) (g : FF) : EF := fun ρ => (g ρ).bind fun p => (F [.l true p.1]).bind fun r => some (.d r.1, p.2)
theorem sd_callO {K : PySem.W.Frag} {te : TE} {g : FF} {F : FnF} (h : Sf K te g) : Sd K (tCall (spD K 1 F) [] E0 (tCons te tNil)) (gCallO F g) := by
  intro E B σ H ρ a ρ' Q j e q
  simp only [gCallO, Option.bind_eq_some_iff] at e
  obtain ⟨⟨ds, ρ1⟩, e1, ⟨d, outs⟩, e2, e3⟩ := e
  cases e3
  refine h E B σ H ρ ds ρ1 _ j e1 fun p ws H1 hp jB x1 s1 hl r => ?_
  obtain ⟨f0, nB, _, _⟩ := j.fresh hp
  have at0 : ∀ {i : Nat} {s : Sl}, ([Sl.l true ds] : Rho)[i]? = some s → i = 0 ∧ s = .l true ds := fun {i s} z => by
    match i, z with
    | 0, z => cases z; exact ⟨rfl, rfl⟩
    | i + 1, z => simp at z
  refine ⟨fun b => B b ∨ b = p, [.l true ds], d, outs, rfl, ⟨rfl, jB.bt, fun i z => ?_, fun i d z => ?_, fun i k ds' z => ?_, fun i i' k d1 k' d2 p' z z' _ _ => ?_, fun i ds' z => ?_⟩, e2, fun v H2 pa rp => ?_⟩
  · cases (at0 z).2
  · cases (at0 z).2
  · obtain ⟨rfl, z⟩ := at0 z
    cases z
    exact ⟨rfl, p, ws, rfl, .inr rfl, hl, r⟩
  · rw [(at0 z).1, (at0 z').1]
  · cases (at0 z).2
  · have keep : ∀ b o, b ≠ p → H1 b = some o → H2 b = some o := fun b o nb z => pa.keep b o (fun i k ds' y w => by
      obtain ⟨rfl, _⟩ := at0 y
      cases w
      exact nb rfl) z
    have sub : Same (hid (fun b => B b ∨ b = p) H1) (hid B H2) := fun b o z => by
      obtain ⟨h1, h2⟩ := hid_some.mp z
      exact hid_some.mpr ⟨fun w => h1 (.inl w), keep b o (fun w => h1 (.inr w)) h2⟩
    have np : ∀ (n : Nat) k ds' p', ρ1[n]? = some (.l k ds') → σ[n]? = some (some (.ref p')) → p' ≠ p := fun n k ds' p' y w z => by
      obtain ⟨ds0, y0⟩ := s1.symm.lst y
      obtain ⟨p2, ws', g1, g2, g3, _⟩ := j.own n k ds0 y0
      rw [w] at g1
      cases g1
      rw [z, hp] at g3
      cases g3
    refine q v H2 ⟨fun b o ni z => ?_, j.b0, j.bn, j.b0t, fun b z => ?_, j.ioB, jB.len, fun n d' z => ?_, fun n k ds' z => ?_, jB.inj, fun n ds' z => ?_⟩ (Same.trans x1 sub) s1 ?_
    · have nb : b ≠ p := fun w => by rw [w, f0] at z; cases z
      exact keep b o nb (jB.keep b o ni z)
    · have nb : b ≠ p := fun w => nB (w ▸ z)
      cases w : H1 b with
      | none => exact absurd w (jB.bt b (.inl z))
      | some o => rw [keep b o nb w]; simp
    · obtain ⟨y, h1, h2⟩ := jB.val n d' z
      exact ⟨y, h1, h2.mono sub⟩
    · obtain ⟨p', ws', h1, h2, h3, h4, h5⟩ := jB.own n k ds' z
      have pp := np n k ds' p' z h1
      exact ⟨p', ws', h1, h2.resolve_right pp, keep p' _ pp h3, h4.mono sub, h5⟩
    · obtain ⟨p', ws', h1, h2, h3⟩ := jB.wr n ds' z
      exact ⟨p', ws', h1, Same.seq sub h2, h3.mono sub⟩
    · exact Rp.mono (hid_sub fun b z => .inl z) _ rp
section
variable {X : Cx} {k : Nat} {f : Addr} {fd : FuncData} {ps : List Str} {F : FnF} {x : Str} {p pos : Pos} {e : Expr} {g : FF}
theorem dcallO (G : FnOk X.prog X.w X.K X.mg X.base CX0 k f fd ps (spD X.K 1 F)) (hr : Room k X.A) (hg : Gl X x) (hm : X.mg x = some (.ref f)) (hk : PySem.W.keepIn X.K (.ref f) = true) (hb : Binds X.K fd ps [])
    (ha : PF X e g) (hdb : (x == ("__debug__" : Str)) = false := by decide) (he : starEach [e] X.env = (false, eval e X.env) :: starEach [] X.env := by rfl) (hpl : (backTo pos (starEach [] X.env)).any (·.1) = false := by rfl) :
    PD X (.Call (.Name x p) [e] [] pos) (gCallO F g) := by
  obtain ⟨te, p1, d1⟩ := ha.run
  exact ⟨_, pe_call G hr hg hm hk hb .nil pass0 (pa_cons p1 pa_nil he) hdb he hpl, sd_callO d1⟩
theorem dcallOG (G : FnG X.prog X.w X.K X.mg X.base k f fd ps (spD X.K 1 F)) (h0 : X.A.guards = some []) (hr : Room k X.A) (hg : Gl X x) (hm : X.mg x = some (.ref f)) (hk : PySem.W.keepIn X.K (.ref f) = true) (hb : Binds X.K fd ps [])
    (ha : PF X e g) (hdb : (x == ("__debug__" : Str)) = false := by decide) (he : starEach [e] X.env = (false, eval e X.env) :: starEach [] X.env := by rfl) (hpl : (backTo pos (starEach [] X.env)).any (·.1) = false := by rfl) :
    PD X (.Call (.Name x p) [e] [] pos) (gCallO F g) := by
  obtain ⟨te, p0, d1⟩ := ha.run
  have p1 := pa_cons p0 pa_nil he
  refine ⟨tCall (spD X.K 1 F) [] E0 (tCons te tNil), ⟨fun pins s σ H Q I h => ?_⟩, sd_callO d1⟩
  refine wpAny_Call_Name_kw (ld_glob I hg hm (PySem.W.callWith_K (h₀ := X.base) I.ok.mod.kin hk (thn (p1.run pos pins s σ H _ I h) ?_) he hpl) hdb)
  rintro us s1 ⟨vs, H1, I1, r, q⟩
  rw [List.append_nil] at q
  have hl : us.length = ps.length := r.length.symm.trans (G.many q)
  have bd := hb s1 us I1.kIn (by rw [List.append_nil]; exact hl)
  rw [List.append_nil] at bd
  refine ⟨I1.kIn, wpAny_call (codeAny_mono (G.go h0 hr I1.env0 bd r q) ?_)⟩
  rintro (e' | fl) s' hq
  · exact hq.elim
  · match fl, hq with
    | .ret u, hq => exact I1.after hq
end
end DL
/-! zip of three lists -/
namespace DL
open PySem PySem.Spec PyProof.Rows L2
def Itz3 (K : PySem.W.Frag) (a b c : Addr) : It :=
  ⟨fun i H => ∃ (xs ys zs : List V) (x y z : V), SqL K H a xs ∧ SqL K H b ys ∧ SqL K H c zs ∧ xs[i]? = some x ∧ ys[i]? = some y ∧ zs[i]? = some z,
    fun i H v H' => ∃ T x y z, v = .ref T ∧ H T = none ∧ H' = upd H T (.tup [x, y, z]) ∧ (∀ xs, SqL K H a xs → xs[i]? = some x) ∧ (∀ ys, SqL K H b ys → ys[i]? = some y) ∧ ∀ zs, SqL K H c zs → zs[i]? = some z,
    fun i H => ∃ xs ys zs : List V, SqL K H a xs ∧ SqL K H b ys ∧ SqL K H c zs ∧ (xs.length ≤ i ∨ ys.length ≤ i ∨ zs.length ≤ i) ∧ i ≤ xs.length ∧ i ≤ ys.length ∧ i ≤ zs.length⟩
theorem turn_zip3 {P : Program} {w : World} {K : PySem.W.Frag} {elts : List Expr} {kk : Nat} {tpos : Pos} {a b c z TI TO i1 i2 i3 : Addr} (D : ZipSep3 z TI TO i1 i2 i3 [i1, a] [i2, b] [i3, c]) :
    Turn P w K (.Tuple elts kk tpos) (Itz3 K a b c) [z, TI, TO, i1, i2, i3] z (fun i h => IsZip h z TI TO .none ∧ IsTupOf3 h TI (.ref i1) (.ref i2) (.ref i3) ∧ (∃ x y u, IsTupOf3 h TO x y u) ∧ h.IsListIter i1 a i ∧ h.IsListIter i2 b i ∧ h.IsListIter i3 c i) where
  mem := by simp
  obj := fun i h st e hc => by
    obtain ⟨hz, hTI, ⟨x, y, u, hTO⟩, ⟨o1, e1, _, d1⟩, ⟨o2, e2, _, d2⟩, ⟨o3, e3, _, d3⟩⟩ := st
    have e' : e = z ∨ e = TI ∨ e = TO ∨ e = i1 ∨ e = i2 ∨ e = i3 := by simpa using hc
    rcases e' with q | q | q | q | q | q
    · rw [q]; exact ⟨_, hz, fun v q => nomatch q⟩
    · rw [q]; exact ⟨_, hTI, fun v q => nomatch q⟩
    · rw [q]; exact ⟨_, hTO, fun v q => nomatch q⟩
    · rw [q]; exact ⟨o1, e1, fun v q => by rw [d1] at q; cases q⟩
    · rw [q]; exact ⟨o2, e2, fun v q => by rw [d2] at q; cases q⟩
    · rw [q]; exact ⟨o3, e3, fun v q => by rw [d3] at q; cases q⟩
  keep := fun i h h' st k => by
    obtain ⟨hz, hTI, ⟨x, y, u, hTO⟩, h1, h2, h3⟩ := st
    exact ⟨k z (by simp) _ hz, k TI (by simp) _ hTI, ⟨x, y, u, k TO (by simp) _ hTO⟩, h1.at fun o q => k i1 (by simp) o q, h2.at fun o q => k i2 (by simp) o q, h3.at fun o q => k i3 (by simp) o q⟩
  item := by
    intro X hP hw hK hc i pins s σ H E I hf st hg
    subst hP hw hK
    obtain ⟨hz, hTI, ⟨x0, y0, u0, hTO⟩, h1, h2, h3⟩ := st
    obtain ⟨xs, ys, zs, x, y, u, hqx, hqy, hqz, hx, hy, hu⟩ := hg
    obtain ⟨its, rv, p, _⟩ := I.list hqx
    obtain ⟨its2, rv2, p2, _⟩ := I.list hqy
    obtain ⟨its3, rv3, p3, _⟩ := I.list hqz
    obtain ⟨v1, hv1, ru1⟩ := rv.get hx
    obtain ⟨v2, hv2, ru2⟩ := rv2.get hy
    obtain ⟨v3, hv3, ru3⟩ := rv3.get hu
    have hzl : z < s.heap.objs.size := Heap.lt_size hz
    have hh : X.A.in1.handled = none := I.ok.hd hc
    have ne1 : a ≠ i1 := fun q => by
      obtain ⟨o, ho, hcl, _⟩ := h1
      obtain ⟨o', ho', hcl', _⟩ := p.isList
      rw [q, ho] at ho'
      cases ho'
      rw [hcl] at hcl'
      simp at hcl'
    have ne2 : b ≠ i2 := fun q => by
      obtain ⟨o, ho, hcl, _⟩ := h2
      obtain ⟨o', ho', hcl', _⟩ := p2.isList
      rw [q, ho] at ho'
      cases ho'
      rw [hcl] at hcl'
      simp at hcl'
    have ne3 : c ≠ i3 := fun q => by
      obtain ⟨o, ho, hcl, _⟩ := h3
      obtain ⟨o', ho', hcl', _⟩ := p3.isList
      rw [q, ho] at ho'
      cases ho'
      rw [hcl] at hcl'
      simp at hcl'
    have D1 := Draws.list (prog := X.prog) (w := X.w) hh i1 a ne1 its.toArray
    have D2 := Draws.list (prog := X.prog) (w := X.w) hh i2 b ne2 its2.toArray
    have D3 := Draws.list (prog := X.prog) (w := X.w) hh i3 c ne3 its3.toArray
    have lt1 : i < its.toArray.size := by
      have := (List.getElem?_eq_some_iff.mp hv1).1
      simpa using this
    have lt2 : i < its2.toArray.size := by
      have := (List.getElem?_eq_some_iff.mp hv2).1
      simpa using this
    have lt3 : i < its3.toArray.size := by
      have := (List.getElem?_eq_some_iff.mp hv3).1
      simpa using this
    refine wpAny_pyNext_zipD3_item D D1 D2 D3 hz hTI hTO ⟨h1, p.isList⟩ ⟨h2, p2.isList⟩ ⟨h3, p3.isList⟩ lt1 lt2 lt3 fun w1 w2 w3 h' tk q1 q2 q3 z' TO' h1' h2' h3' hT hsz hk => ?_
    have g1 : w1 = v1 := by
      have q1 : its.toArray[i]? = some w1 := q1
      rw [List.getElem?_toArray, hv1] at q1
      exact (Option.some.inj q1).symm
    have g2 : w2 = v2 := by
      have q2 : its2.toArray[i]? = some w2 := q2
      rw [List.getElem?_toArray, hv2] at q2
      exact (Option.some.inj q2).symm
    have g3 : w3 = v3 := by
      have q3 : its3.toArray[i]? = some w3 := q3
      rw [List.getElem?_toArray, hv3] at q3
      exact (Option.some.inj q3).symm
    subst g1 g2 g3
    refine ⟨_, rfl, wpAny_letOwnedTupleGo_zip (s := { s with heap := h', toks := tk }) z' fun h'' z'' sb => ?_⟩
    have hT2 : h''.get? s.heap.objs.size = some { cls := .type "tuple", data := .seq #[w1, w2, w3] } := (sb.2 _ (Nat.ne_of_gt hzl)).trans hT
    have new : ObjOk X.prog X.w (upd H s.heap.objs.size (.tup [x, y, u])) h'' s.heap.objs.size (.tup [x, y, u]) :=
      ⟨by show 3 ≤ sizeLine; decide, [w1, w2, w3], .cons ru1 (.cons ru2 (.cons ru3 .nil)), ⟨_, hT2, rfl, _, rfl⟩⟩
    have I1 : Inv X pins σ (upd H s.heap.objs.size (.tup [x, y, u])) { s with heap := h'', toks := tk } :=
      I.turnedNew (t' := tk) (ch := [z, TI, TO, i1, i2, i3]) (fun e o hb q => (sb.2 e (fun q' => hb (by simp [q']))).trans (hk e o (fun q' => hb (by simp [q'])) (fun q' => hb (by simp [q'])) (fun q' => hb (by simp [q'])) (fun q' => hb (by simp [q'])) (fun q' => hb (by simp [q'])) q)) hf (Nat.le_refl _) new
    refine ⟨.ref s.heap.objs.size, _, I1, rfl, ⟨_, x, y, u, rfl, I.hok.fresh (Nat.le_refl _), rfl, fun l hl => by rw [I.list_inj hl hqx]; exact hx, fun l hl => by rw [I.list_inj hl hqy]; exact hy, fun l hl => by rw [I.list_inj hl hqz]; exact hu⟩, ⟨z'', ?_, ⟨w1, w2, w3, ?_⟩, ?_, ?_, ?_⟩, fun e hcm => ?_⟩
    · exact (sb.2 _ D.TIz).trans (hk _ _ D.TIz D.TITO D.TIi1 D.TIi2 D.TIi3 hTI)
    · exact (sb.2 _ D.TOz).trans TO'
    · exact h1'.1.at fun o q => (sb.2 _ (Ne.symm D.zi1)).trans q
    · exact h2'.1.at fun o q => (sb.2 _ (Ne.symm D.zi2)).trans q
    · exact h3'.1.at fun o q => (sb.2 _ (Ne.symm D.zi3)).trans q
    · have hlt : e < s.heap.objs.size := by
        have e' : e = z ∨ e = TI ∨ e = TO ∨ e = i1 ∨ e = i2 ∨ e = i3 := by simpa using hcm
        rcases e' with q | q | q | q | q | q
        · rw [q]; exact hzl
        · rw [q]; exact Heap.lt_size hTI
        · rw [q]; exact Heap.lt_size hTO
        · rw [q]; obtain ⟨_, e1, _⟩ := h1; exact Heap.lt_size e1
        · rw [q]; obtain ⟨_, e2, _⟩ := h2; exact Heap.lt_size e2
        · rw [q]; obtain ⟨_, e3, _⟩ := h3; exact Heap.lt_size e3
      rw [upd_ne (Nat.ne_of_lt hlt)]
      exact (hf e hcm).1
  done := by
    intro X hP hw hK hc i pins s σ H E I hf st hg
    subst hP hw hK
    obtain ⟨hz, hTI, ⟨x0, y0, u0, hTO⟩, h1, h2, h3⟩ := st
    obtain ⟨xs, ys, zs, hqx, hqy, hqz, hend, le1, le2, le3⟩ := hg
    obtain ⟨its, rv, p, _⟩ := I.list hqx
    obtain ⟨its2, rv2, p2, _⟩ := I.list hqy
    obtain ⟨its3, rv3, p3, _⟩ := I.list hqz
    have l1 := rv.length
    have l2 := rv2.length
    have l3 := rv3.length
    have hh : X.A.in1.handled = none := I.ok.hd hc
    have ne1 : a ≠ i1 := fun q => by
      obtain ⟨o, ho, hcl, _⟩ := h1
      obtain ⟨o', ho', hcl', _⟩ := p.isList
      rw [q, ho] at ho'
      cases ho'
      rw [hcl] at hcl'
      simp at hcl'
    have ne2 : b ≠ i2 := fun q => by
      obtain ⟨o, ho, hcl, _⟩ := h2
      obtain ⟨o', ho', hcl', _⟩ := p2.isList
      rw [q, ho] at ho'
      cases ho'
      rw [hcl] at hcl'
      simp at hcl'
    have ne3 : c ≠ i3 := fun q => by
      obtain ⟨o, ho, hcl, _⟩ := h3
      obtain ⟨o', ho', hcl', _⟩ := p3.isList
      rw [q, ho] at ho'
      cases ho'
      rw [hcl] at hcl'
      simp at hcl'
    have D1 := Draws.list (prog := X.prog) (w := X.w) hh i1 a ne1 its.toArray
    have D2 := Draws.list (prog := X.prog) (w := X.w) hh i2 b ne2 its2.toArray
    have D3 := Draws.list (prog := X.prog) (w := X.w) hh i3 c ne3 its3.toArray
    exact wpAny_pyNext_zipD3_end D D1 D2 D3 hz hTI hTO ⟨h1, p.isList⟩ ⟨h2, p2.isList⟩ ⟨h3, p3.isList⟩ (by simp; omega) (by simp; omega) (by simp; omega) (by simp; omega) fun h' tk hk => ⟨rfl, I.turnedL (t' := tk) (ch := [z, TI, TO, i1, i2, i3]) (fun e o hb q =>
      hk e o (fun q' => hb (by simp [q'])) (fun q' => hb (by simp [q'])) (fun q' => hb (by simp [q'])) (fun q' => hb (by simp [q'])) (fun q' => hb (by simp [q'])) q) hf⟩
  self := fun A i s Q E st h => wpAny_pyIter_zip st.1 h
def iZip3R (K : PySem.W.Frag) (ta : TA) : TI := fun σ H R => ta σ H fun vs H1 => ∃ a b c xs ys zs, vs = [.ref a, .ref b, .ref c] ∧ SqL K H1 a xs ∧ SqL K H1 b ys ∧ SqL K H1 c zs ∧ R (Itz3 K a b c) H1
theorem pi_zip3 {X : Cx} {e e2 e3 : Expr} {ta : TA} {p pos tpos : Pos} {elts : List Expr} {kk : Nat} (hg : Gl X "zip") (hm : X.mg "zip" = none) (ha : PA X [e, e2, e3] ta)
    (hs : starEach [e, e2, e3] X.env = (false, eval e X.env) :: starEach [e2, e3] X.env := by rfl) (hpl : (backTo pos (starEach [e2, e3] X.env)).any (·.1) = false := by rfl) :
    PI X (.Tuple elts kk tpos) (.Call (.Name "zip" p) [e, e2, e3] [] pos) (iZip3R X.K ta) := by
  refine ⟨fun pins s σ H R I h => ?_⟩
  refine Call_ (ld_blt I hg hm PyProof.Rows.boot_zip (PyProof.Rows.callWith_type1 (thn (ha.run pos pins s σ H _ I h) fun us s1 ⟨vs, H1, I1, r1, q1⟩ => ?_) hs hpl))
  obtain ⟨a, b, c, xs, ys, zs, ex, hqx, hqy, hqz, q⟩ := q1
  subst ex
  cases r1 with
  | cons r rr =>
    cases rr with
    | cons r' rr =>
      cases rr with
      | cons r'' rr =>
        cases rr
        cases r
        cases r'
        cases r''
        obtain ⟨its, rv, p1, _⟩ := I1.list hqx
        obtain ⟨its2, rv2, p2, _⟩ := I1.list hqy
        obtain ⟨its3, rv3, p3, _⟩ := I1.list hqz
        have la : a < s1.heap.objs.size := p1.lt
        have lb : b < s1.heap.objs.size := p2.lt
        have lc : c < s1.heap.objs.size := p3.lt
        refine zip_begins3 (begins_list a its.toArray) (begins_list b its2.toArray) (begins_list c its3.toArray) p1.isList p2.isList p3.isList fun h' hz hTI hTO h1 h2 h3 hsz hk => wpAny_pyIter_zip hz ?_
        have I2 : Inv X pins σ H1 { s1 with heap := h' } := I1.kept (t' := s1.toks) hk
        have sep := zip_sep3 (N := s1.heap.objs.size) (fp1 := [a]) (fp2 := [b]) (fp3 := [c]) (fun x hx => by rw [List.mem_singleton.mp hx]; exact la) (fun x hx => by rw [List.mem_singleton.mp hx]; exact lb) (fun x hx => by rw [List.mem_singleton.mp hx]; exact lc)
        refine ⟨s1.heap.objs.size + 5, [s1.heap.objs.size + 5, s1.heap.objs.size + 3, s1.heap.objs.size + 4, s1.heap.objs.size, s1.heap.objs.size + 1, s1.heap.objs.size + 2], _, _, H1, rfl, I2, turn_zip3 sep, ⟨hz, hTI, ⟨_, _, _, hTO⟩, ⟨_, h1, rfl, rfl⟩, ⟨_, h2, rfl, rfl⟩, ⟨_, h3, rfl, rfl⟩⟩, fun x hcm => ?_, q⟩
        have e' : x = s1.heap.objs.size + 5 ∨ x = s1.heap.objs.size + 3 ∨ x = s1.heap.objs.size + 4 ∨ x = s1.heap.objs.size ∨ x = s1.heap.objs.size + 1 ∨ x = s1.heap.objs.size + 2 := by simpa using hcm
        have hle : s1.heap.objs.size ≤ x := by
          rcases e' with z | z | z | z | z | z
          · rw [z]; exact Nat.le_add_right _ _
          · rw [z]; exact Nat.le_add_right _ _
          · rw [z]; exact Nat.le_add_right _ _
          · rw [z]; exact Nat.le_refl _
          · rw [z]; exact Nat.le_add_right _ _
          · rw [z]; exact Nat.le_add_right _ _
        exact I1.fpOk hle (I1.hok.fresh hle)
def zip3D (ds es fs : List PyData) : List PyData := List.zipWith (fun a (p : PyData × PyData) => .tuple [a, p.1, p.2]) ds (List.zipWith Prod.mk es fs)
theorem wk_zip3 {K : PySem.W.Frag} {B : Bk} {H : Hp} {p p' p'' : Addr} {vs vs' vs'' : List V} {ds es fs : List PyData} (h1 : SqL K (hid B H) p vs) (h2 : RpA K (hid B H) vs ds) (h1' : SqL K (hid B H) p' vs') (h2' : RpA K (hid B H) vs' es)
    (h1'' : SqL K (hid B H) p'' vs'') (h2'' : RpA K (hid B H) vs'' fs) : Wk K (Itz3 K p p' p'') (zip3D ds es fs) B H := by
  intro B' H' x tr
  have q : SqL K H' p vs := Same.seq (Same.trans x hid_le) h1
  have q' : SqL K H' p' vs' := Same.seq (Same.trans x hid_le) h1'
  have q'' : SqL K H' p'' vs'' := Same.seq (Same.trans x hid_le) h1''
  refine ⟨fun i d e => ?_, ⟨vs, vs', vs'', q, q', q'', ?_⟩⟩
  · unfold zip3D at e
    rw [List.getElem?_zipWith, List.getElem?_zipWith] at e
    cases a : ds[i]? with
    | none => rw [a] at e; cases e
    | some d1 =>
      cases b : es[i]? with
      | none => rw [a, b] at e; cases e
      | some d2 =>
        cases c : fs[i]? with
        | none => rw [a, b, c] at e; cases e
        | some d3 =>
          rw [a, b, c] at e
          cases e
          obtain ⟨v, e1, e2⟩ := h2.get a
          obtain ⟨v', e1', e2'⟩ := h2'.get b
          obtain ⟨v'', e1'', e2''⟩ := h2''.get c
          refine ⟨⟨vs, vs', vs'', v, v', v'', q, q', q'', e1, e1', e1''⟩, fun y H'' hy => ?_⟩
          obtain ⟨T, z, z', z'', rfl, hT, rfl, hy, hy', hy''⟩ := hy
          have := hy vs q
          rw [e1] at this
          cases this
          have := hy' vs' q'
          rw [e1'] at this
          cases this
          have := hy'' vs'' q''
          rw [e1''] at this
          cases this
          exact ⟨same_new hT, rp_tup tr hT (.cons (e2.ext x) (.cons (e2'.ext x) (.cons (e2''.ext x) .nil)))⟩
  · unfold zip3D
    have l1 := h2.length
    have l2 := h2'.length
    have l3 := h2''.length
    rw [List.length_zipWith, List.length_zipWith]
    omega
def iZip3 (g : AF) : IFn := fun ρ => (g ρ).bind fun p => match p.1 with
  | [a, b, c] => (stay p.2 a).bind fun ds => (stay p.2 b).bind fun es => (stay p.2 c).map fun fs => (zip3D ds es fs, p.2)
  | _ => none
theorem i_zip3 {X : Cx} {p pos tpos : Pos} {e e2 e3 : Expr} {ga : AF} {elts : List Expr} {kk : Nat} (hg : Gl X "zip") (hm : X.mg "zip" = none) (ha : PAD X [e, e2, e3] ga) (hs : starEach [e, e2, e3] X.env = (false, eval e X.env) :: starEach [e2, e3] X.env := by rfl)
    (hpl : (backTo pos (starEach [e2, e3] X.env)).any (·.1) = false := by rfl) : ID X (.Tuple elts kk tpos) (.Call (.Name "zip" p) [e, e2, e3] [] pos) (iZip3 ga) := by
  obtain ⟨t, p1, d⟩ := ha.run
  refine ⟨_, pi_zip3 hg hm p1 hs hpl, ?_⟩
  intro E B σ H ρ ds ρ' R j e q
  simp only [iZip3, Option.bind_eq_some_iff] at e
  obtain ⟨⟨as, ρ1⟩, e1, e2⟩ := e
  split at e2
  · rename_i a b c ha
    simp only at ha
    subst ha
    simp only [Option.bind_eq_some_iff, Option.map_eq_some_iff] at e2
    obtain ⟨ds1, e3, es1, e4, fs1, e5, e6⟩ := e2
    cases e6
    refine d E B σ H ρ _ _ _ j e1 fun xs H1 j1 x1 s1 o1 => ?_
    cases o1 with
    | cons o1 o2 =>
      cases o2 with
      | cons o2 o3 =>
        cases o3 with
        | cons o3 o4 =>
          cases o4
          obtain ⟨p, vs, rfl, h1, h2⟩ := stay_at j1 o1 e3
          obtain ⟨p', vs', rfl, h1', h2'⟩ := stay_at j1 o2 e4
          obtain ⟨p'', vs'', rfl, h1'', h2''⟩ := stay_at j1 o3 e5
          exact ⟨p, p', p'', vs, vs', vs'', rfl, Same.seq hid_le h1, Same.seq hid_le h1', Same.seq hid_le h1'', q _ H1 j1 x1 s1 (wk_zip3 h1 h2 h1' h2' h1'' h2'')⟩
  · cases e2
end DL
/-! list(reversed(a list)); max of a list of pairs of ints -/
namespace DL
open PySem PySem.Spec PyProof.Rows L2 RT
section
variable {prog : Program} {w : World} {A : Around} {E : Value → Shared → Prop} {s : Shared} {R : Result → Shared → Prop}
theorem extend_rev {it l : Addr} {items : Array Value} (hh : A.handled = none) (S : Addr) (res : Value) (c₀ : Nat) (hit : s.heap.IsRevIter it l ((items.size : Int) - 1)) (hl : s.heap.IsList l items) (hne : l ≠ it) (hSi : S ≠ it) (hSl : S ≠ l) (hn : items.size ≤ sizeLine)
    (hS : s.heap.get? S = some { cls := .type "list", data := .seq #[] c₀ })
    (hR : ∀ h' tk acc' c', (∀ b o, b ≠ S → b ≠ it → s.heap.get? b = some o → h'.get? b = some o) → h'.get? S = some { cls := .type "list", dict := none, data := .seq acc' c', slots := #[] } → ItemsOf (fun i v => items[items.size - 1 - i]? = some v) acc' items.size → R (.ok (.ret res)) { s with heap := h', toks := tk }) :
    wpAny (model prog w) A.in1 (Builtin.List.listExtendWith (.ref S) (.ref it) res)
      (fun fin s' => match fin with | .done f => R (.ok f) s' | .again c' => c'.quiet = true ∧ codeAny (model prog w) A c' R s') (fun e s' => R (.error e) s') s := by
  have W := (Walks.listRev (prog := prog) (w := w) (A := A.in1) hh it l hne items).toS
  have hSf : S ∉ [it, l] := by simp only [List.mem_cons, List.not_mem_nil, or_false, not_or]; exact ⟨hSi, hSl⟩
  have hT : s.TypeIs (.ref it) "list_reverseiterator" := hit.typeIs
  have h1 : Builtin.List.listSameRef (.ref S) (.ref it) = false := by simp [Builtin.List.listSameRef, hSi]
  unfold Builtin.List.listExtendWith
  refine wpAny_bind (wpAny_typeOf hT ?_)
  rw [if_neg (by rw [h1]; decide)]
  refine wpAny_bind (wpAny_pyIter_revIter hit ?_)
  refine wpAny_bind (wpAny_holding ?_)
  unfold Builtin.List.listLengthHint
  refine wpAny_bind (wpAny_specialOf hT nolen_lri ?_)
  show wpAny _ A.in1 (specialOf (Value.ref it) (Str.ofString "__length_hint__") >>= _) _ _ _
  refine wpAny_bind (wpAny_specialOf hT hint_lri ?_)
  generalize hid : ("list_reverseiterator.__length_hint__" : String) = id0
  wp_delta
  rw [show splitId id0 = some ("list_reverseiterator", "__length_hint__") from by subst hid; decide +kernel]
  subst hid
  refine wpAny_bind (wpAny_isInstance (b := true) hT (by rw [isSubtype_type]; kernel_rfl) ?_)
  refine wpAny_pure ?_
  rw [if_neg (by decide)]
  have e0 : ((items.size : Nat) : Int) - 1 - ((0 : Nat) : Int) = (items.size : Int) - 1 := by omega
  refine wpAny_pure ⟨plainId_quiet F.plain_extend_loop _, codeAny_extend_loopS W hn _ hSf _ items.size 0 _ _ _ rfl (Nat.zero_le _) ⟨Nat.zero_le _, by rw [e0]; exact hit, hl⟩ hS (ItemsOf.nil _) fun s' acc' c' hm hS' hacc => ?_⟩
  rw [Moved.eq_with hm]
  refine hR s'.heap s'.toks acc' c' (fun b o hb hb2 e => hm.heap b o (fun hmem => ?_) e) hS' hacc
  rcases List.mem_cons.mp hmem with e' | hmem
  · exact hb e'
  · exact hb2 (List.mem_singleton.mp hmem)
theorem list_init_rev {it l : Addr} {items : Array Value} (hh : A.handled = none) (S : Addr) (hit : s.heap.IsRevIter it l ((items.size : Int) - 1)) (hl : s.heap.IsList l items) (hne : l ≠ it) (hSi : S ≠ it) (hSl : S ≠ l) (hn : items.size ≤ sizeLine)
    (hS : s.heap.get? S = some { cls := .type "list", data := .seq #[] })
    (hR : ∀ h' tk acc' c', (∀ b o, b ≠ S → b ≠ it → s.heap.get? b = some o → h'.get? b = some o) → h'.get? S = some { cls := .type "list", dict := none, data := .seq acc' c', slots := #[] } → ItemsOf (fun i v => items[items.size - 1 - i]? = some v) acc' items.size → R (.ok (.ret .none)) { s with heap := h', toks := tk }) :
    wpAny (model prog w) A.in1 (Builtin.«list.__init__» ⟨[.ref S, .ref it], []⟩)
      (fun fin s' => match fin with | .done f => R (.ok f) s' | .again c' => c'.quiet = true ∧ codeAny (model prog w) A c' R s') (fun e s' => R (.error e) s') s := by
  show wpAny _ _ (do let old ← Builtin.List.listItems (.ref S); Builtin.List.listUpdate (.ref S) (fun _ => #[]); letGo old.toList.reverse; Builtin.List.listExtendWith (.ref S) (.ref it) .none) _ _ s
  refine wpAny_bind ?_
  unfold Builtin.List.listItems
  refine wpAny_bind (wpAny_seqItems hS rfl (wpAny_pure ?_))
  show wpAny _ _ (updateSeq S (fun _ => #[]) >>= fun _ => letGo (#[] : Array Value).toList.reverse >>= fun _ => Builtin.List.listExtendWith (.ref S) (.ref it) .none) _ _ s
  refine wpAny_bind (wpAny_updateSeq hS rfl ?_)
  have hS₂ := Heap.get?_update_self (Obj.mapSeq (fun _ => (#[] : Array Value))) hS rfl
  have oth : ∀ b o, b ≠ S → s.heap.get? b = some o → (s.heap.update S (Obj.mapSeq (fun _ => (#[] : Array Value)))).get? b = some o :=
    fun b o hb e => (Heap.get?_update_other _ _ (Ne.symm hb)).trans e
  refine wpAny_bind (wpAny_letGo ?_)
  refine extend_rev (s := { s with heap := s.heap.update S (Obj.mapSeq (fun _ => (#[] : Array Value))) }) hh S .none _ (hit.at fun o e => oth it o (Ne.symm hSi) e) (let ⟨o, e, x⟩ := hl; ⟨o, oth l o (Ne.symm hSl) e, x⟩) hne hSi hSl hn hS₂ fun h' tk acc' c' hk hS' hacc => ?_
  exact hR h' tk acc' c' (fun b o hb hb2 e => hk b o hb hb2 (oth b o hb e)) hS' hacc
theorem call_list_rev {it l : Addr} {items : Array Value} {Q : Value → Shared → Prop} (hh : A.handled = none) (hit : s.heap.IsRevIter it l ((items.size : Int) - 1)) (hl : s.heap.IsList l items) (hne : l ≠ it) (hn : items.size ≤ sizeLine)
    (hQ : ∀ h' tk acc' c', (∀ b o, b ≠ it → s.heap.get? b = some o → h'.get? b = some o) →
      h'.get? s.heap.objs.size = some { cls := .type "list", dict := none, data := .seq acc' c', slots := #[] } → ItemsOf (fun i v => items[items.size - 1 - i]? = some v) acc' items.size → Q (.ref s.heap.objs.size) { s with heap := h', toks := tk }) :
    wpAny (model prog w) A (call (.type "list") [.ref it]) Q E s := by
  refine callType_codes (Q₁ := fun obj s₁ => obj = .ref s.heap.objs.size ∧ s₁ = { s with heap := s.heap.push { cls := .type "list", data := .seq #[] } }) F.called_list (F.typeCall_list_1 _) F.entry_list_init
    (code_list_new _ ⟨rfl, rfl⟩) fun obj s₁ h₁ => ?_
  obtain ⟨rfl, rfl⟩ := h₁
  obtain ⟨oi, hoi, _⟩ := id hit
  obtain ⟨ol, hol, _⟩ := id hl
  have hS : (s.heap.push { cls := .type "list", data := .seq #[] }).get? s.heap.objs.size = some { cls := .type "list", data := .seq #[] } := Heap.get?_push_size _ rfl
  refine ⟨⟨_, hS, rfl⟩, F.args_list_init_2 _ _, list_init_rev (A := A.in1) (s := { s with heap := s.heap.push { cls := .type "list", data := .seq #[] } }) hh _ (hit.at fun o e => Heap.get?_push_of_some _ e) (hl.push _) hne (Nat.ne_of_gt (Heap.lt_size hoi)) (Nat.ne_of_gt (Heap.lt_size hol)) hn hS fun h' tk acc' c' hk hS' hacc => ?_⟩
  exact ⟨rfl, hQ h' tk acc' c' (fun b o hb e => hk b o (Nat.ne_of_lt (Heap.lt_size e)) hb (Heap.get?_push_of_some _ e)) hS' hacc⟩
end
def tListRev (K : PySem.W.Frag) (te : TE) : TE := fun σ H Q => te σ H fun v H1 => ∃ (a : Addr) (xs : List V), v = .ref a ∧ SqL K H1 a xs ∧ ∀ q, H1 q = none → Q (.ref q) (upd H1 q (.lst xs.reverse))
section
variable {X : Cx}
theorem pe_listRev {e : Expr} {te : TE} {p p2 pos pos2 : Pos} (hc : X.calm = true) (hg : Gl X "list") (hm : X.mg "list" = none) (hg2 : Gl X "reversed") (hm2 : X.mg "reversed" = none) (he : PE X e te)
    (hs : starEach [e] X.env = (false, eval e X.env) :: starEach [] X.env := by rfl)
    (hs2 : starEach [.Call (.Name "reversed" p2) [e] [] pos2] X.env = (false, eval (.Call (.Name "reversed" p2) [e] [] pos2) X.env) :: starEach [] X.env := by rfl) :
    PE X (.Call (.Name "list" p) [.Call (.Name "reversed" p2) [e] [] pos2] [] pos) (tListRev X.K te) := by
  refine ⟨fun pins s σ H Q I h => ?_⟩
  refine Call_ (ld_blt I hg hm boot_list (PyProof.Rows.callWith_type1 (args_cons (Call_ (ld_blt I hg2 hm2 PyProof.Rows.boot_reversed (PyProof.Rows.callWith_type1 (args_cons (thn (he.run pins s σ H _ I h) fun u s1 ⟨v, H1, I1, r1, q1⟩ => args_nil ?_) hs) hs rfl))) hs2) hs2 rfl))
  obtain ⟨a, xs, ev, hq, q⟩ := q1
  subst ev
  obtain rfl : u = Value.ref a := r1
  obtain ⟨its, rv, p', hz⟩ := I1.list hq
  refine call_reversed_list p'.isList (args_nil ?_)
  have k0 : ∀ b o, s1.heap.get? b = some o → (s1.heap.push (revObj a ((its.toArray.size : Int) - 1))).get? b = some o := fun b o e => Heap.get?_push_of_some _ e
  have I2 : Inv X pins σ H1 { s1 with heap := s1.heap.push (revObj a ((its.toArray.size : Int) - 1)) } := I1.kept (t' := s1.toks) k0
  obtain ⟨f0, f1, f2, f3, f4, f5⟩ := I1.fpOk (H' := H1) (b := s1.heap.objs.size) (Nat.le_refl _) (I1.hok.fresh (Nat.le_refl _))
  have hl := p'.isList
  obtain ⟨ol, hol, _⟩ := id hl
  have hne : a ≠ s1.heap.objs.size := Nat.ne_of_lt (Heap.lt_size hol)
  have hn : its.toArray.size ≤ sizeLine := by rw [List.size_toArray, ← rv.length]; exact hz
  refine call_list_rev (s := { s1 with heap := s1.heap.push (revObj a ((its.toArray.size : Int) - 1)) }) (I1.ok.hd hc) ⟨_, Heap.get?_push_size _ rfl, rfl, rfl⟩ (hl.push _) hne hn fun h' tk acc c' hk hS hi => ?_
  have k1 : ∀ b o, s1.heap.get? b = some o → h'.get? b = some o := fun b o e => hk b o (Nat.ne_of_lt (Heap.lt_size e)) (k0 b o e)
  have hlen : (s1.heap.push (revObj a ((its.toArray.size : Int) - 1))).objs.size = s1.heap.objs.size + 1 := Heap.size_push _ _
  refine ⟨.ref (s1.heap.push (revObj a ((its.toArray.size : Int) - 1))).objs.size, upd H1 (s1.heap.push (revObj a ((its.toArray.size : Int) - 1))).objs.size (.lst xs.reverse), I1.laid (t' := tk) k1 (by rw [hlen]; exact Nat.le_succ _) (show ObjOk X.prog X.w _ _ _ (.lst xs.reverse) from ⟨by rw [List.length_reverse]; exact hz, acc.toList, c', vals_rev rv hi, ?_⟩), rfl, q _ (I1.hok.fresh (by rw [hlen]; exact Nat.le_succ _))⟩
  rw [Array.toArray_toList]
  exact hS
/-- list(reversed(x)), x a list: a new list -/
theorem f_lrev {e : Expr} {g : EF} {p p2 pos pos2 : Pos} (hc : X.calm = true) (hg : Gl X "list") (hm : X.mg "list" = none) (hg2 : Gl X "reversed") (hm2 : X.mg "reversed" = none) (he : PD X e g)
    (hs : starEach [e] X.env = (false, eval e X.env) :: starEach [] X.env := by rfl)
    (hs2 : starEach [.Call (.Name "reversed" p2) [e] [] pos2] X.env = (false, eval (.Call (.Name "reversed" p2) [e] [] pos2) X.env) :: starEach [] X.env := by rfl) :
    PF X (.Call (.Name "list" p) [.Call (.Name "reversed" p2) [e] [] pos2] [] pos) (fRev g) := by
  obtain ⟨te, p1, d⟩ := he.run
  refine ⟨_, pe_listRev hc hg hm hg2 hm2 p1 hs hs2, ?_⟩
  intro E B σ H ρ ds ρ' Q j e q
  simp only [fRev, Option.bind_eq_some_iff] at e
  obtain ⟨⟨a, ρ1⟩, e1, dd, e2, e3⟩ := e
  split at e3
  · rename_i xs
    cases e3
    refine d E B σ H ρ a ρ1 _ j e1 fun v H1 j1 x1 s1 o1 => ?_
    obtain ⟨l, vs, rfl, h1, h2⟩ := (o1.bd j1 e2).list
    refine ⟨l, vs, rfl, h1, fun p hp => ?_⟩
    exact q p _ _ (free_back j1 x1 hp) (j1.block hp) (x1.trans (ext_block hp)) s1 upd_same (h2.rev.mono (ext_block hp))
  · cases e3
end
/-! ### max of a list of pairs of ints -/
def pd2 (p : Int × Int) : PyData := .tuple [.int p.1, .int p.2]
def pairs? : List PyData → Option (List (Int × Int))
  | [] => some []
  | .tuple [.int a, .int b] :: r => (pairs? r).map fun l => (a, b) :: l
  | _ => none
theorem pairs_of : ∀ {ds : List PyData} {ps : List (Int × Int)}, pairs? ds = some ps → ds = ps.map pd2
  | [], ps, e => by
    rw [pairs?] at e
    cases e
    rfl
  | d :: r, ps, e => by
    unfold pairs? at e
    split at e
    · rename_i h; cases h
    · rename_i a b r' h
      cases h
      obtain ⟨l, e1, e2⟩ := Option.map_eq_some_iff.mp e
      cases e2
      rw [pairs_of e1]
      rfl
    · cases e
theorem pairs_pd2 : ∀ ps : List (Int × Int), pairs? (ps.map pd2) = some ps
  | [] => rfl
  | p :: ps => by
    show (pairs? (ps.map pd2)).map (fun l => (p.1, p.2) :: l) = _
    rw [pairs_pd2 ps]
    rfl
def lt2 (a b : Int × Int) : Bool := decide (a.1 < b.1 ∨ (a.1 = b.1 ∧ a.2 < b.2))
def mx2 (x : Int × Int) (ps : List (Int × Int)) : Int × Int := ps.foldl (fun a y => if lt2 a y = true then y else a) x
theorem lt_pd2 (a b : Int × Int) : W.dataLt (pd2 a) (pd2 b) = lt2 a b := by
  unfold W.dataLt pd2 lt2
  simp [W.keyToks, W.keyToksAll, PyProof.Rows.lexLt, itemOrd, itemLt]
  by_cases h1 : a.1 < b.1
  · simp [h1]
  · by_cases h2 : b.1 < a.1
    · have h3 : a.1 ≠ b.1 := by omega
      simp [h1, h2, h3]
    · have h3 : a.1 = b.1 := by omega
      simp [h3]
theorem max_pd2 (x : Int × Int) (ps : List (Int × Int)) : W.maxD (pd2 x) (ps.map pd2) = pd2 (mx2 x ps) := by
  unfold W.maxD mx2
  induction ps generalizing x with
  | nil => rfl
  | cons y r ih =>
    rw [List.map_cons, List.foldl_cons, List.foldl_cons, lt_pd2, ← ih]
    congr 1
    split <;> rfl
theorem alike_pd2 (ps : List (Int × Int)) : W.AlikeAll (ps.map pd2) := by
  refine ⟨fun x hx y hy => ?_, fun x hx => ?_⟩
  · obtain ⟨a, _, rfl⟩ := List.mem_map.mp hx
    obtain ⟨b, _, rfl⟩ := List.mem_map.mp hy
    simp [pd2, W.alike, W.alikeAll]
  · obtain ⟨a, _, rfl⟩ := List.mem_map.mp hx
    intro z
    cases z
theorem depth_pd2 : ∀ ps : List (Int × Int), PyData.depthAll (ps.map pd2) ≤ 2
  | [] => by rw [List.map_nil]; unfold PyData.depthAll; omega
  | p :: ps => by
    rw [List.map_cons]
    have h := depth_pd2 ps
    have h2 : (pd2 p).depth ≤ 2 := by simp [pd2, PyData.depth, PyData.depthAll]
    unfold PyData.depthAll
    exact Nat.max_le.mpr ⟨h2, h⟩
theorem nod_pd2 : ∀ ps : List (Int × Int), (PyData.list (ps.map pd2)).hasDict = false
  | [] => by simp [PyData.hasDict, PyData.hasDictAll]
  | p :: ps => by
    have h := nod_pd2 ps
    simp only [PyData.hasDict] at h
    simp [PyData.hasDict, PyData.hasDictAll, pd2, h]
def rMaxP (K : PySem.W.Frag) : List V → Hp → VK → Prop := fun xs H Q => ∃ (p : Addr) (ys : List V) (x : Int × Int) (ps : List (Int × Int)), xs = [.ref p] ∧ SqL K H p ys ∧ DpAll K H ys ((x :: ps).map pd2) ∧ ∀ (i : Nat) v, ys[i]? = some v → ((x :: ps).map pd2)[i]? = some (pd2 (mx2 x ps)) → Q v H
theorem vals_back : ∀ {xs : List V} {us : List Value} {i : Nat} {u : Value}, Vals xs us → us[i]? = some u → ∃ x, xs[i]? = some x ∧ RelV x u
  | _, _, _, _, .nil, e => by simp at e
  | _, _, 0, _, .cons r _, e => by simp at e; subst e; exact ⟨_, rfl, r⟩
  | _, _, i + 1, _, .cons _ t, e => by
    obtain ⟨x, h1, h2⟩ := vals_back t (by simpa using e)
    exact ⟨x, by simpa using h1, h2⟩
theorem call_maxP {X : Cx} {k : Nat} (hc : X.calm = true) (hr : Room k X.A) : CallR X (.builtin "max") (rMaxP X.K) := by
  rintro pins s σ H xs us Q I r ⟨p, ys, x, ps, rfl, hq, hd, q⟩
  obtain ⟨u, rfl, rv⟩ := vals1 r
  obtain rfl : u = Value.ref p := rv
  obtain ⟨its, rvs, pl, _⟩ := I.list hq
  obtain ⟨as, rd⟩ := Dp.readsAll I _ ys its hd rvs
  have hu := hr.un
  have hdp := depth_pd2 (x :: ps)
  refine W.max_list_data (vs := its.toArray) (I.ok.hd hc) pl.isList (x := pd2 x) (xs := ps.map pd2) (as := as) (by simpa using rd) (alike_pd2 (x :: ps)) (by rw [← List.map_cons]; omega) fun i v h' tk bs hv rd' hk => ?_
  have hv' : its[i]? = some v := by simpa using hv
  obtain ⟨y, hy, ry⟩ := vals_back rvs hv'
  obtain ⟨cs, r1, r2, _, _⟩ := W.readsAll_at rd i v hv'
  obtain ⟨e1, _⟩ := reads_det (fun b o e _ => hk b o e) r1 rd'
  rw [max_pd2] at e1
  refine ⟨y, H, I.kept hk, ry, q i y hy ?_⟩
  rw [e1, List.getD_eq_getElem?_getD, List.getElem?_eq_getElem r2, Option.getD_some]
def cMaxP : List PyData → Option PyData
  | [.list ds] => (pairs? ds).bind fun ps => match ps with
    | [] => none
    | x :: r => some (pd2 (mx2 x r))
  | _ => none
theorem cs_maxP {K : PySem.W.Frag} : CallS K (rMaxP K) cMaxP := by
  intro B H xs ds d Q tr hb e q
  unfold cMaxP at e
  split at e
  · obtain ⟨ps, e1, e2⟩ := Option.bind_eq_some_iff.mp e
    split at e2
    · cases e2
    · rename_i x r
      cases e2
      obtain ⟨v, rfl, h⟩ := hb.one
      rw [pairs_of e1] at h
      obtain ⟨p, vs, rfl, h1, h2⟩ := h.list
      have hn := nod_pd2 (x :: r)
      refine ⟨p, vs, x, r, rfl, h1, RpA.dp _ (by simpa only [PyData.hasDict] using hn) (h2.mono hid_le), fun i v hv hi => ?_⟩
      obtain ⟨v', g1, g2⟩ := h2.get hi
      rw [hv] at g1
      cases g1
      exact q _ H (Same.refl _) g2
  · cases e
end DL
namespace DL
open PySem PySem.Spec PyProof.Rows L2
/-! ### a tuple whose second item is a new list, and that item. Its datum is told apart by a dict of one pair. -/
/-- return (e, a held list) -/
def sRetT1 (i : Nat) (g : EF) : SF := fun ρ => (g ρ).bind fun p => (res p.2 p.1).bind fun d0 => match p.2[i]? with
  | some (.l false ds) => some (.rt (.dict [(d0, .list ds)]) p.2)
  | _ => none
/-- return (e, new list) -/
def sRetT1F (g : EF) (h : FF) : SF := fun ρ => (g ρ).bind fun p => (res p.2 p.1).bind fun d0 => (h p.2).map fun q => .rt (.dict [(d0, .list q.1)]) q.2
section
variable {X : Cx} {pos : Pos}
theorem z_retT1 (i : Nat) {x : Str} {p2 pt : Pos} {e : Expr} {g : EF} {k : Nat} (he : PD X e g) (hN : X.N[i]? = some x := by rfl) (hv : Vis X.env.scope x := by first | exact Or.inl rfl | exact Or.inr (Or.inl rfl) | exact Or.inr (Or.inr rfl)) (hd : (x == ("__debug__" : Str)) = false := by decide)
    (hcd : (x == ("__classdict__" : Str)) = false := by decide) (hs : starEach [e, .Name x p2] X.env = (false, eval e X.env) :: starEach [.Name x p2] X.env := by rfl) (hs2 : starEach [.Name x p2] X.env = (false, eval (.Name x p2) X.env) :: starEach [] X.env := by rfl) : SD X true (.Return (some (.Tuple [e, .Name x p2] k pt)) pos) (sRetT1 i g) := by
  obtain ⟨te, p1, d1⟩ := he.run
  refine ⟨_, ps_ret (pe_tup (pa_cons p1 (pa_cons (pe_var hN hv hd hcd) pa_nil hs2) hs)), ?_⟩
  intro E B σ H ρ oc D j eq q
  simp only [sRetT1, Option.bind_eq_some_iff] at eq
  obtain ⟨⟨a, ρ1⟩, e1, d0, e2, e3⟩ := eq
  split at e3
  · rename_i ds h1
    cases e3
    refine d1 E B σ H ρ a ρ1 _ j e1 fun v2 H1 j1 x1 s1 o1 => ?_
    obtain ⟨p', ws', g1', g2, g3, g4, g5⟩ := j1.own i _ _ h1
    refine ⟨_, g1', ?_, fun t ht => ?_⟩
    · show 2 ≤ sizeLine
      rw [sizeLine_eq]
      decide
    · rw [if_neg Bool.false_ne_true] at g5
      have ne : p' ≠ t := fun z => by rw [z, ht] at g3; cases g3
      have sm : Same H1 (upd H1 t (.tup [v2, .ref p'])) := same_new ht
      refine q _ _ ⟨B, σ, j1.grow sm, .inr (.inr ⟨t, p', v2, ws', ds, d0, rfl, rfl, .inl (.inl upd_same), g5, g2, ?_, ?_⟩)⟩
      · rw [upd_ne ne]
        exact g3
      · exact g4.mono (Ext.grow sm)
  · cases e3
theorem z_retT1F {e e' : Expr} {pt : Pos} {g : EF} {h : FF} {k : Nat} (he : PD X e g) (hf : PF X e' h) (hs : starEach [e, e'] X.env = (false, eval e X.env) :: starEach [e'] X.env := by rfl) (hs2 : starEach [e'] X.env = (false, eval e' X.env) :: starEach [] X.env := by rfl) :
    SD X true (.Return (some (.Tuple [e, e'] k pt)) pos) (sRetT1F g h) := by
  obtain ⟨te, p1, d1⟩ := he.run
  obtain ⟨tf, p2, d2⟩ := hf.run
  refine ⟨_, ps_ret (pe_tup (pa_cons p1 (pa_cons p2 pa_nil hs2) hs)), ?_⟩
  intro E B σ H ρ oc D j eq q
  simp only [sRetT1F, Option.bind_eq_some_iff, Option.map_eq_some_iff] at eq
  obtain ⟨⟨a, ρ1⟩, e1, d0, e2, ⟨ds, ρ2⟩, e3, e4⟩ := eq
  subst e4
  refine d1 E B σ H ρ a ρ1 _ j e1 fun v2 H1 j1 x1 s1 o1 => ?_
  refine d2 E B σ H1 ρ1 _ ρ2 _ j1 e3 fun p vs H2 hp j2 x2 s2 hl r => ⟨?_, fun t ht => ?_⟩
  · show 2 ≤ sizeLine
    rw [sizeLine_eq]
    decide
  · have ne : p ≠ t := fun z => by rw [z, ht] at hl; cases hl
    have sm : Same H2 (upd H2 t (.tup [v2, .ref p])) := same_new ht
    refine q _ _ ⟨_, _, j2.grow sm, .inr (.inr ⟨t, p, v2, vs, ds, d0, rfl, rfl, .inl (.inl upd_same), (j1.fresh hp).1, .inr rfl, ?_, ?_⟩)⟩
    · rw [upd_ne ne]
      exact hl
    · exact r.mono (Ext.grow sm)
end
def spT1 (K : PySem.W.Frag) (n : Nat) (F : FnF) : Sp := fun vs H Q _ => ∃ B as ds d0 outs, vs.length = n ∧ ArgIn K B H vs as ∧ F as = some (.dict [(d0, .list ds)], outs) ∧
  ∀ t p x0 ws H', H p = none → Past K B (fun b => B b ∨ b = p) H vs as outs H' → SqT K H' t [x0, .ref p] → H' p = some (.lst ws) → RpA K (hid (fun b => B b ∨ b = p) H') ws ds → Q (.ref t) H'
section
variable {P : Program} {w : World} {K : PySem.W.Frag} {mg : Str → Option Value} {base : Heap}
theorem fn_ruleT1 {x qual : Str} {st : Stmt} {f : Addr} {fd : FuncData} {N ps : List Str} {k n : Nat} {g : SF} (F : Fun K x qual st f fd) (S : FnScope N ps (defScope st)) (hn : ps.length = n) (hN : n ≤ N.length)
    (body : ∀ (cdv : Value) (A : Around) (outer : List Env) (s : Shared) (H : Hp) (E : XK), Room k (A.deeper (envOfC qual (defScope st) s.heap.objs.size f cdv)) → SsD (cxOf CX0 P w K mg base N qual (defScope st) f cdv A outer s H E).nox true (defBody st) g) :
    FnOk P w K mg base CX0 (k + 1) f fd ps (spT1 K n (runR n N.length g)) := by
  refine F.ok S (fun vs H Q E h => ?_) (fun cdv A outer s H vs Q E hr h => ?_)
  · obtain ⟨B, as, ds, d0, outs, h1, _⟩ := h
    rw [h1, hn]
  · obtain ⟨B, as, ds, d0, outs, h1, h2, h3, h4⟩ := h
    obtain ⟨t, p1, d1⟩ := (body cdv A outer s H E hr).run
    refine ⟨t, p1, ?_⟩
    simp only [runR, Option.bind_eq_some_iff] at h3
    obtain ⟨oc, e1, e2⟩ := h3
    have j := J.start (N := N) h2 (by rw [h1]; exact hN)
    rw [h1] at j
    refine d1 _ B _ H _ oc _ j e1 ?_
    cases oc with
    | rt d' ρ' =>
      cases e2
      rintro v H' ⟨B1, σ1, j1, ⟨p, ws, ds', rfl, hd, _⟩ | ⟨t, p, xs, ws, ds', rest', rfl, hd, _⟩ | ⟨t, p, x0, ws, ds', d0', rfl, hd, ht, hp, hb, hl, r1⟩⟩
      · cases hd
      · cases hd
      · cases hd
        have hs : ∀ b, (B b ∨ b = p) → B1 b := fun b z => z.elim (j1.b0 b) fun z => by rw [z]; exact hb
        exact h4 t p x0 ws H' hp (past_of h2 j1 hs) ht hl (r1.mono (hid_sub hs))
    | nx ρ' => cases e2
    | bk ρ' => cases e2
    | ct ρ' => cases e2
end
/-- f(..)[1] -/
def fCall1 (F : FnF) (g : AF) : FF := fun ρ => (g ρ).bind fun p => (toSls p.2 p.1).bind fun as => if (slotsOf p.1).Nodup then (F as).bind fun r => if sameKind as r.2 = true then (match r.1 with
  | .dict [(_, .list ds)] => some (ds, put p.2 p.1 r.2)
  | _ => none) else none else none
section
variable {X : Cx} {k n : Nat} {f : Addr} {fd : FuncData} {ps : List Str} {F : FnF} {x : Str} {p pos pos2 p0 : Pos} {e : Expr} {es : List Expr} {g : AF} {j0 : Nat}
theorem sf_call1 {K : PySem.W.Frag} {t : TA} (h : Sa K t g) (hn : ∀ ρ as ρ', g ρ = some (as, ρ') → as.length = n) : Sf K (tOp (rIx K) (tCall (spT1 K n F) [] E0 t) (tC (.int 1))) (fCall1 F g) := by
  intro E B σ H ρ a ρ' Q j eq q
  simp only [fCall1, Option.bind_eq_some_iff] at eq
  obtain ⟨⟨ars, ρ1⟩, e1, as, e2, e3⟩ := eq
  split at e3
  · rename_i nd
    simp only [Option.bind_eq_some_iff] at e3
    obtain ⟨⟨d, outs⟩, e4, e5⟩ := e3
    split at e5
    · rename_i sk
      split at e5
      · rename_i d0 ds hd
        simp only at hd
        subst hd
        cases e5
        refine h E B σ H ρ ars ρ1 _ j e1 fun vs H1 j1 x1 s1 o1 => ?_
        refine ⟨B, as, _, _, outs, ?_, ?_, e4, fun t' p x0 xs' H2 hp pa ht hl rp => ?_⟩
        · rw [List.append_nil, ars_len o1]; exact hn _ _ _ e1
        · rw [List.append_nil]; exact j1.argIn o1 e2 nd
        · rw [List.append_nil] at pa
          obtain ⟨j2, x2⟩ := j1.called (B' := fun b => B b ∨ b = p) o1 e2 nd sk pa (fun _ z => .inl z) (fun b z => z.elim .inl fun z => .inr (by rw [z]; exact hp)) (fun b z nz => by
            rcases z with z | z
            · exact absurd z nz
            · rw [z, hl]; simp)
          show rIx K (.ref t') (.int 1) H2 Q
          exact .inr (.inl ⟨t', _, 1, .ref p, rfl, rfl, ht, by simp [atI, ixN], q p _ H2 (free_back j1 x1 hp) j2 (x1.trans x2) (s1.trans (put_shp _ _ _)) hl rp⟩)
      · cases e5
    · cases e5
  · cases e3
theorem fcall1 (G : FnOk X.prog X.w X.K X.mg X.base CX0 k f fd ps (spT1 X.K n F)) (hr : Room k X.A) (hg : Gl X x) (hm : X.mg x = some (.ref f)) (hk : PySem.W.keepIn X.K (.ref f) = true) (hb : Binds X.K fd ps [])
    (ha : PAD X (e :: es) g) (hn : ∀ ρ as ρ', g ρ = some (as, ρ') → as.length = n) (hdb : (x == ("__debug__" : Str)) = false := by decide) (he : starEach (e :: es) X.env = (false, eval e X.env) :: starEach es X.env := by rfl) (hpl : (backTo pos (starEach es X.env)).any (·.1) = false := by rfl) (hp : PlainIx (.Constant (.int 1) j0 p0) := by exact fun _ _ => rfl) :
    PF X (.Subscript (.Call (.Name x p) (e :: es) [] pos) (.Constant (.int 1) j0 p0) pos2) (fCall1 F g) := by
  obtain ⟨t, p1, d1⟩ := ha.run
  exact ⟨_, pe_ix ix_seq (pe_call G hr hg hm hk hb .nil pass0 p1 hdb he hpl) pe_int hp, sf_call1 d1 hn⟩
end
/-! ### is True, is not True: bools -/
def fIsB : R2f
  | .bool a, .bool b => some (.bool (decide (a = b)))
  | _, _ => none
def fNotB : R2f
  | .bool a, .bool b => some (.bool (!decide (a = b)))
  | _, _ => none
theorem os_isB {K : PySem.W.Frag} : OpS K rIsB fIsB := by
  intro B H x y a b d Q tr ha hb e q
  unfold fIsB at e
  split at e
  · cases e
    exact ⟨_, _, ha.bl, hb.bl, q _ H (Same.refl _) (.bl _)⟩
  · cases e
theorem os_notB {K : PySem.W.Frag} : OpS K rNotB fNotB := by
  intro B H x y a b d Q tr ha hb e q
  unfold fNotB at e
  split at e
  · cases e
    exact ⟨_, _, ha.bl, hb.bl, q _ H (Same.refl _) (.bl _)⟩
  · cases e
theorem cm_isB {X : Cx} : CmpD X .Is fIsB := ⟨_, op_isBl, os_isB⟩
theorem cm_notB {X : Cx} : CmpD X .IsNot fNotB := ⟨_, op_notBl, os_notB⟩
end DL
/-! {} among data: lists of different lengths held against each other; repr -/
namespace DL
open PySem PySem.Spec PyProof.Rows L2
/-! ### x == [], x != [] of a list of anything -/
def fNe0 : R2f := fun a b => match a, b with
  | .list (_ :: _), .list [] => some (.bool true)
  | _, _ => fNe a b
def fEq0 : R2f := fun a b => match a, b with
  | .list (_ :: _), .list [] => some (.bool false)
  | _, _ => fEq a b
/-- two lists of different lengths -/
def Off (K : PySem.W.Frag) (x y : V) (H : Hp) : Prop := ∃ a b xs ys, x = .ref a ∧ y = .ref b ∧ SqL K H a xs ∧ SqL K H b ys ∧ xs.length ≠ ys.length
def rNe0 (K : PySem.W.Frag) : R2 := fun x y H Q => rNeD K x y H Q ∨ (Off K x y H ∧ Q (.bl true) H)
def rEq0 (K : PySem.W.Frag) : R2 := fun x y H Q => rEqD K x y H Q ∨ (Off K x y H ∧ Q (.bl false) H)
section
variable {X : Cx}
theorem op_ne0 (hu : X.A.units + 64 < cLine) : OpR X (compareOp .NotEq) (rNe0 X.K) := by
  intro pins s σ H x y v u Q I rx ry h
  rcases h with h | ⟨⟨a, b, xs, ys, rfl, rfl, ha, hb, hl⟩, q⟩
  · exact op_neD hu pins s σ H x y v u Q I rx ry h
  · cases (show v = Value.ref a from rx)
    cases (show u = Value.ref b from ry)
    obtain ⟨us, r1, p1, _⟩ := I.list ha
    obtain ⟨ws, r2, p2, _⟩ := I.list hb
    refine SeqAt.RcNeAt.lists_lengths (A := X.A) p1.isList p2.isList ?_ (by omega) _ _ _ _ ⟨.bl true, H, I, rfl, q⟩
    rw [List.size_toArray, List.size_toArray, ← r1.length, ← r2.length]
    simpa using hl
theorem op_eq0 (hu : X.A.units + 64 < cLine) : OpR X (compareOp .Eq) (rEq0 X.K) := by
  intro pins s σ H x y v u Q I rx ry h
  rcases h with h | ⟨⟨a, b, xs, ys, rfl, rfl, ha, hb, hl⟩, q⟩
  · exact op_eqD hu pins s σ H x y v u Q I rx ry h
  · cases (show v = Value.ref a from rx)
    cases (show u = Value.ref b from ry)
    obtain ⟨us, r1, p1, _⟩ := I.list ha
    obtain ⟨ws, r2, p2, _⟩ := I.list hb
    refine SeqAt.RcAt.lists_lengths (A := X.A) p1.isList p2.isList ?_ (by omega) _ _ _ _ ⟨.bl false, H, I, rfl, q⟩
    rw [List.size_toArray, List.size_toArray, ← r1.length, ← r2.length]
    simpa using hl
end
theorem off_of {K : PySem.W.Frag} {B : Bk} {H : Hp} {x y : V} {d : PyData} {ds : List PyData} (ha : BD K B H x (.list (d :: ds))) (hb : BD K B H y (.list [])) : Off K x y H := by
  obtain ⟨p, vs, rfl, h1, h2⟩ := ha.list
  obtain ⟨p', ws, rfl, h3, h4⟩ := hb.list
  refine ⟨p, p', vs, ws, rfl, rfl, h1, h3, ?_⟩
  rw [h2.length, h4.length]
  simp
theorem os_ne0 {K : PySem.W.Frag} : OpS K (rNe0 K) fNe0 := by
  intro B H x y a b d Q tr ha hb e q
  unfold fNe0 at e
  split at e
  · cases e
    exact .inr ⟨off_of ha hb, q _ H (Same.refl _) (.bl _)⟩
  · exact .inl (os_ne B H x y a b d Q tr ha hb e q)
theorem os_eq0 {K : PySem.W.Frag} : OpS K (rEq0 K) fEq0 := by
  intro B H x y a b d Q tr ha hb e q
  unfold fEq0 at e
  split at e
  · cases e
    exact .inr ⟨off_of ha hb, q _ H (Same.refl _) (.bl _)⟩
  · exact .inl (os_eq B H x y a b d Q tr ha hb e q)
theorem cm_eq0 {X : Cx} {k : Nat} (hr : Room k X.A) : CmpD X .Eq fEq0 := ⟨_, op_eq0 hr.units, os_eq0⟩
theorem cm_ne0 {X : Cx} {k : Nat} (hr : Room k X.A) : CmpD X .NotEq fNe0 := ⟨_, op_ne0 hr.units, os_ne0⟩
/-! ### what a heap shows -/
mutual
inductive RdE (h : Heap) : Value → PyData → Prop
  | none : RdE h .none .none
  | bool (b : Bool) : RdE h (.bool b) (.bool b)
  | int (i : Int) (t : Tok) : RdE h (.int i t) (.int i)
  | str (x : Str) (t : Tok) : RdE h (.str x t) (.str x)
  | list {a : Addr} {o : Obj} {vs : Array Value} {n : Nat} {xs : List PyData} : h.get? a = some o → o.cls = .type "list" → o.data = .seq vs n → RdEA h vs.toList xs → RdE h (.ref a) (.list xs)
  | tuple {a : Addr} {o : Obj} {vs : Array Value} {n : Nat} {xs : List PyData} : h.get? a = some o → o.cls = .type "tuple" → o.data = .seq vs n → RdEA h vs.toList xs → RdE h (.ref a) (.tuple xs)
  | dct {a : Addr} {o : Obj} {es : Array DictEntry} {n : Nat} : h.get? a = some o → o.cls = .type "dict" → o.data = .dict es n → es.toList = [] → (a == sysModules) = false → RdE h (.ref a) (.dict [])
inductive RdEA (h : Heap) : List Value → List PyData → Prop
  | nil : RdEA h [] []
  | cons {v : Value} {vs : List Value} {d : PyData} {ds : List PyData} : RdE h v d → RdEA h vs ds → RdEA h (v :: vs) (d :: ds)
end
mutual
theorem RdE.reads {h : Heap} : ∀ (d : PyData) {v : Value}, RdE h v d → ∃ as, Reads h v d as
  | .none, _, r => by cases r; exact ⟨_, .none⟩
  | .bool b, _, r => by cases r; exact ⟨_, .bool b⟩
  | .int i, _, r => by cases r; exact ⟨_, .int i _⟩
  | .str x, _, r => by cases r; exact ⟨_, .str x _⟩
  | .list xs, _, r => by
    cases r with
    | list h1 h2 h3 h4 =>
      obtain ⟨as, q⟩ := RdEA.reads xs h4
      exact ⟨_, .list h1 h2 h3 q⟩
  | .tuple xs, _, r => by
    cases r with
    | tuple h1 h2 h3 h4 =>
      obtain ⟨as, q⟩ := RdEA.reads xs h4
      exact ⟨_, .tuple h1 h2 h3 q⟩
  | .dict kvs, _, r => by
    cases r with
    | dct h1 h2 h3 h4 h5 => exact ⟨_, .dict (kvs := []) h1 h2 h3 (by rw [h4]; exact .nil) (by rw [h4]; exact .nil)⟩
termination_by d => sizeOf d
theorem RdEA.reads {h : Heap} : ∀ (ds : List PyData) {vs : List Value}, RdEA h vs ds → ∃ as, ReadsAll h vs ds as
  | [], _, r => by cases r; exact ⟨_, .nil⟩
  | d :: ds, _, r => by
    cases r with
    | cons a b =>
      obtain ⟨as, q1⟩ := RdE.reads d a
      obtain ⟨bs, q2⟩ := RdEA.reads ds b
      exact ⟨_, .cons q1 q2⟩
termination_by ds => sizeOf ds
end
section
variable {prog : Program} {w : World} {h₀ : Heap}
mutual
theorem repr_rdE : ∀ (d : PyData) {v : Value}, RdE h₀ v d → d.showable = true → d.shown.length ≤ sizeLine → ∃ bs, ReadAtMost h₀ d.depth bs ∧ ReprK prog w bs h₀ d.depth v d.shown
  | .none, _, r, _, _ => by
    cases r
    exact ⟨[], (fun _ h => nomatch h), by simp only [PyData.shown]; exact .of_is ReprIs.none _ _ _⟩
  | .bool b, _, r, _, _ => by
    cases r
    exact ⟨[], (fun _ h => nomatch h), by simp only [PyData.shown]; exact .of_is (ReprIs.bool b) _ _ _⟩
  | .int i, _, r, hs, _ => by
    cases r
    exact ⟨[], (fun _ h => nomatch h), by simp only [PyData.shown]; exact .of_is (ReprIs.int _ (by simpa [PyData.showable] using hs)) _ _ _⟩
  | .str x, _, r, _, hz => by
    cases r
    exact ⟨[], (fun _ h => nomatch h), by simp only [PyData.shown]; exact .of_is (ReprIs.str x _ (by simpa only [PyData.shown] using hz)) _ _ _⟩
  | .list xs, _, r, hs, hz => by
    cases r with
    | @list a o vs n _ h1 h2 h3 h4 =>
      have hz' : (listText (PyData.shownAll xs)).length ≤ sizeLine := by simpa only [PyData.shown] using hz
      obtain ⟨bs, hb, hk⟩ := repr_rdEA xs h4 (by simpa [PyData.showable] using hs) (fun t ht => Nat.le_trans (listText_mem_le ht) hz')
      obtain ⟨as, q⟩ := RdEA.reads xs h4
      have r : Reads h₀ (.ref a) (.list xs) _ := .list h1 h2 h3 q
      have hna : a ∉ bs := not_mem_of_deeper r (by simp only [PyData.depth]; omega) hb
      refine ⟨a :: bs, ReadAtMost.cons r (by simp only [PyData.depth]; omega) hb, ?_⟩
      simp only [PyData.depth, PyData.shown]
      obtain ⟨l⟩ := vs
      cases l with
      | nil =>
        have q' : RdEA h₀ [] xs := h4
        cases q'
        simp only [PyData.shownAll, listText_nil]
        exact ReprK.listEmpty h1 h2 h3
      | cons x l => exact ReprK.list h1 h2 h3 hna (by simpa using hk.length_eq) (fun i y e => hk.item i y (by simpa using e))
  | .tuple xs, _, r, hs, hz => by
    cases r with
    | @tuple a o vs n _ h1 h2 h3 h4 =>
      have hz' : (tupleText (PyData.shownAll xs)).length ≤ sizeLine := by simpa only [PyData.shown] using hz
      obtain ⟨bs, hb, hk⟩ := repr_rdEA xs h4 (by simpa [PyData.showable] using hs) (fun t ht => Nat.le_trans (tupleText_mem_le ht) hz')
      obtain ⟨as, q⟩ := RdEA.reads xs h4
      have r : Reads h₀ (.ref a) (.tuple xs) _ := .tuple h1 h2 h3 q
      have hna : a ∉ bs := not_mem_of_deeper r (by simp only [PyData.depth]; omega) hb
      refine ⟨a :: bs, ReadAtMost.cons r (by simp only [PyData.depth]; omega) hb, ?_⟩
      simp only [PyData.depth, PyData.shown]
      exact ReprK.tuple h1 h2 h3 hna hk
  | .dict kvs, _, r, _, _ => by
    obtain ⟨as, q⟩ := RdE.reads (.dict kvs) r
    cases r with
    | @dct a o es n h1 h2 h3 h4 h5 =>
      refine ⟨[a], ReadAtMost.cons q (Nat.zero_le _) (fun _ h => nomatch h), ?_⟩
      simp only [PyData.depth, PyData.shown, PyData.shownKv]
      exact ReprK.dict h1 h2 h3 h5 (fun h => nomatch h) (by rw [h4]; exact .nil)
termination_by d => sizeOf d
theorem repr_rdEA : ∀ (ds : List PyData) {vs : List Value}, RdEA h₀ vs ds → PyData.showableAll ds = true → (∀ t ∈ PyData.shownAll ds, t.length ≤ sizeLine) →
    ∃ bs, ReadAtMost h₀ (PyData.depthAll ds) bs ∧ ReprAllK prog w bs h₀ (PyData.depthAll ds) vs (PyData.shownAll ds)
  | [], _, r, _, _ => by
    cases r
    exact ⟨[], (fun _ h => nomatch h), by simp only [PyData.shownAll]; exact .nil⟩
  | d :: ds, _, r, hs, hz => by
    cases r with
    | cons r rs =>
      have hs' : d.showable = true ∧ PyData.showableAll ds = true := by simpa [PyData.showableAll] using hs
      obtain ⟨b1, hb1, k1⟩ := repr_rdE d r hs'.1 (hz _ (by simp only [PyData.shownAll]; exact List.mem_cons_self ..))
      obtain ⟨b2, hb2, k2⟩ := repr_rdEA ds rs hs'.2 (fun t ht => hz t (by simp only [PyData.shownAll]; exact List.mem_cons_of_mem _ ht))
      refine ⟨b1 ++ b2, ?_, ?_⟩
      · simp only [PyData.depthAll]
        exact (hb1.mono (Nat.le_max_left _ _)).append (hb2.mono (Nat.le_max_right _ _))
      · simp only [PyData.depthAll, PyData.shownAll]
        exact .cons ((k1.more fun b hb => List.mem_append_left _ hb).level_le (Nat.le_max_left _ _)) (k2.more_le (fun b hb => List.mem_append_right _ hb) (Nat.le_max_right _ _))
termination_by ds => sizeOf ds
end
theorem shows_rdE {a : Addr} {d : PyData} (r : RdE h₀ (.ref a) d) (hs : d.showable = true) (hsz : d.shown.length ≤ sizeLine) : ∃ T idr, ShowsBy prog w h₀ a d T idr := by
  obtain ⟨as, rr⟩ := RdE.reads d r
  cases r with
  | list h1 h2 h3 h4 =>
    rename_i o vs n xs
    have hz' : (listText (PyData.shownAll xs)).length ≤ sizeLine := by simpa only [PyData.shown] using hsz
    obtain ⟨bs, hb, hk⟩ := repr_rdEA (prog := prog) (w := w) xs h4 (by simpa [PyData.showable] using hs) (fun t ht => Nat.le_trans (listText_mem_le ht) hz')
    have hna : a ∉ bs := not_mem_of_deeper rr (by simp only [PyData.depth]; omega) hb
    refine ⟨"list", "list.__repr__", F.slot_list_repr.toG, F.slot_list_str, F.slot_list_format, fun s hk0 => ⟨o, hk0 _ _ h1, h2⟩, fun A E s Q hg hu hk0 hQ => ?_⟩
    simp only [PyData.depth] at hu
    simp only [PyData.shown] at hQ
    obtain ⟨l⟩ := vs
    cases l with
    | nil =>
      have h4' : RdEA h₀ [] xs := h4
      cases h4'
      simp only [PyData.shownAll, listText_nil] at hQ
      exact call_list_repr_empty ⟨o, hk0 _ _ h1, h2⟩ (hk0 _ _ h1) h3 (hQ s.heap _ _ fun _ _ e => e)
    | cons x l =>
      exact call_list_reprK h1 h2 h3 hna (by simpa using hk.length_eq) (fun i y e => hk.item i y (by simpa using e)) hg (fun b _ => Clear.nil b) hu hk0 hQ hz'
  | tuple h1 h2 h3 h4 =>
    rename_i o vs n xs
    have hz' : (tupleText (PyData.shownAll xs)).length ≤ sizeLine := by simpa only [PyData.shown] using hsz
    obtain ⟨bs, hb, hk⟩ := repr_rdEA (prog := prog) (w := w) xs h4 (by simpa [PyData.showable] using hs) (fun t ht => Nat.le_trans (tupleText_mem_le ht) hz')
    have hna : a ∉ bs := not_mem_of_deeper rr (by simp only [PyData.depth]; omega) hb
    refine ⟨"tuple", "tuple.__repr__", F.slot_tuple_repr, F.slot_tuple_str, F.slot_tuple_format, fun s hk0 => ⟨o, hk0 _ _ h1, h2⟩, fun A E s Q hg hu hk0 hQ => ?_⟩
    simp only [PyData.depth] at hu
    simp only [PyData.shown] at hQ
    exact call_tuple_reprK h1 h2 h3 hna hk hg (fun b _ => Clear.nil b) hu hk0 hQ hz'
  | dct h1 h2 h3 h4 h5 =>
    rename_i o es n
    refine ⟨"dict", "dict.__repr__", F.slot_dict_repr, F.slot_dict_str, F.slot_dict_format, fun s hk0 => ⟨o, hk0 _ _ h1, h2⟩, fun A E s Q hg hu hk0 hQ => ?_⟩
    simp only [PyData.depth] at hu
    simp only [PyData.shown, PyData.shownKv] at hQ hsz
    exact call_dict_reprK (as := []) h1 h2 h3 h5 (fun h => nomatch h) (by rw [h4]; exact .nil) hg (fun b _ => Clear.nil b) hu hk0 hQ hsz
end
/-! ### data with {} alone of all dicts -/
mutual
def dk0 : PyData → Bool
  | .list ds => dk0s ds
  | .tuple ds => dk0s ds
  | .dict kvs => kvs.isEmpty
  | _ => true
def dk0s : List PyData → Bool
  | [] => true
  | d :: r => dk0 d && dk0s r
end
section
variable {X : Cx} {pins : List (Addr × Obj)} {σ : L2.St} {H : Hp} {s : Shared}
mutual
theorem Rp.rdE (I : Inv X pins σ H s) : ∀ (d : PyData) {v : V} {u : Value}, dk0 d = true → Rp X.K H v d → RelV v u → RdE s.heap u d
  | .none, _, _, _, h, r => by
    cases h
    cases r
    exact .none
  | .bool b, _, _, _, h, r => by
    cases h
    cases r
    exact .bool b
  | .int i, _, _, _, h, r => by
    cases h
    obtain ⟨t, rfl⟩ := r
    exact .int i t
  | .str x, _, _, _, h, r => by
    cases h
    obtain ⟨t, rfl⟩ := r
    exact .str x t
  | .list ds, _, _, n, h, r => by
    cases h with
    | lst hs ha =>
      cases r
      obtain ⟨its, rv, ⟨o, n', ho, hc, _, hd⟩, _⟩ := I.list (.inl (.inl hs))
      exact .list ho hc hd (RpA.rdE I ds (by simpa only [dk0] using n) ha rv)
  | .tuple ds, _, _, n, h, r => by
    cases h with
    | tup hs ha =>
      cases r
      obtain ⟨its, rv, ⟨o, ho, hc, n', hd⟩, _⟩ := I.tuple hs
      exact .tuple ho hc hd (RpA.rdE I ds (by simpa only [dk0] using n) ha rv)
  | .dict kvs, _, _, n, h, r => by
    cases kvs with
    | cons a b => simp [dk0] at n
    | nil =>
      cases h with
      | dct h1 =>
        cases r
        obtain ⟨_, hs, vs, rel, o, es, ep, e1, e2, e3, _, e5, _⟩ := dk_of I.hok h1
        cases rel
        have e4 : es.toList = [] := by
          cases hes : es.toList with
          | nil => rfl
          | cons p q => rw [hes] at e5; cases e5
        exact .dct e1 e2.1 e3 e4 hs
termination_by d => sizeOf d
theorem RpA.rdE (I : Inv X pins σ H s) : ∀ (ds : List PyData) {vs : List V} {us : List Value}, dk0s ds = true → RpA X.K H vs ds → Vals vs us → RdEA s.heap us ds
  | [], _, _, _, h, r => by
    cases h
    cases r
    exact .nil
  | d :: ds, _, _, n, h, r => by
    cases h with
    | cons h1 h2 =>
      cases r with
      | cons r1 r2 =>
        simp only [dk0s, Bool.and_eq_true] at n
        exact .cons (Rp.rdE I d n.1 h1 r1) (RpA.rdE I ds n.2 h2 r2)
termination_by ds => sizeOf ds
end
end
/-! ### repr, str -/
def showB (d : PyData) : Prop := isDisp d = true ∧ d.showable = true ∧ dk0 d = true ∧ d.depth ≤ 60 ∧ d.shown.length ≤ 1000000
instance (d : PyData) : Decidable (showB d) := by unfold showB; infer_instance
def gRepD (g : EF) : EF := fun ρ => (g ρ).bind fun p => match p.1 with
  | .d d => if showB d then some (.d (.str d.shown), p.2) else none
  | .s _ => none
def rRepE (K : PySem.W.Frag) : List V → Hp → VK → Prop := fun xs H Q => ∃ v d, xs = [v] ∧ Rp K H v d ∧ showB d ∧ Q (.str d.shown) H
theorem call_repE {X : Cx} {k : Nat} (h0 : X.A.guards = some []) (hr : Room k X.A) : CallR X (.builtin "repr") (rRepE X.K) := by
  rintro pins s σ H xs us Q I r ⟨v, d, rfl, hd, ⟨h1, h2, h3, h4, h5⟩, q⟩
  obtain ⟨u, rfl, rv⟩ := vals1 r
  have rd := Rp.rdE I d h3 hd rv
  have hu := hr.un
  have line : d.shown.length ≤ sizeLine := Nat.le_trans h5 (by rw [sizeLine_eq]; decide)
  have ref : ∃ a, u = .ref a := by
    cases rd with
    | list _ _ _ _ => exact ⟨_, rfl⟩
    | tuple _ _ _ _ => exact ⟨_, rfl⟩
    | dct _ _ _ _ _ => exact ⟨_, rfl⟩
    | none => cases h1
    | bool _ => cases h1
    | int _ _ => cases h1
    | str _ _ => cases h1
  obtain ⟨a, rfl⟩ := ref
  obtain ⟨T, idr, S⟩ := shows_rdE (prog := X.prog) (w := X.w) rd h2 line
  exact call_repr_slot (by omega) (S.typeIs s fun _ _ e => e) S.slotRepr (S.call X.A.in1 _ s _ h0 (by show X.A.units + 1 + d.depth < cLine; omega) (fun _ _ e => e) fun h' t tk hk => ⟨_, _, rfl, ⟨.str _, H, I.kept hk, ⟨_, rfl⟩, q⟩⟩)
section
variable {X : Cx} {k : Nat} {e : Expr} {g : EF} {p pos : Pos}
theorem d_repE (h0 : X.A.guards = some []) (hr : Room k X.A) (hg : Gl X "repr") (hm : X.mg "repr" = none) (hv : bootBuiltins "repr" = some (.builtin "repr")) (he : PD X e g)
    (h1 : starEach [e] X.env = (false, eval e X.env) :: starEach [] X.env := by rfl) (hpl : (backTo pos (starEach [] X.env)).any (·.1) = false := by rfl) :
    PD X (.Call (.Name "repr" p) [e] [] pos) (gRepD g) := by
  obtain ⟨t, p1, d1⟩ := he.run
  refine ⟨_, pe_callB (call_repE h0 hr) hg hm hv (pa_cons p1 pa_nil h1) (by decide) (by decide) h1 hpl, ?_⟩
  intro E B σ H ρ a ρ' Q j e q
  simp only [gRepD, Option.bind_eq_some_iff] at e
  obtain ⟨⟨a1, ρ1⟩, e1, e3⟩ := e
  split at e3
  · rename_i d' ha
    simp only at ha
    subst ha
    split at e3
    · rename_i hs
      cases e3
      refine d1 E B σ H ρ _ ρ1 _ j e1 fun v H1 j1 x1 s1 o1 => ?_
      have o1 : Rp X.K (hid B H1) v d' := o1
      exact ⟨v, d', rfl, o1.mono hid_le, hs, q _ H1 j1 x1 s1 (Rp.str _)⟩
    · cases e3
  · cases e3
end
/-- str of a list that is shown -/
theorem call_strL {X : Cx} {k : Nat} (h0 : X.A.guards = some []) (hr : Room k X.A) : CallR X (.type "str") (rRepr X.K) := by
  rintro pins s σ H xs us Q I r ⟨v, d, rfl, hd, h1, h2, h3, h4, h5, q⟩
  obtain ⟨u, rfl, rv⟩ := vals1 r
  obtain ⟨as, rd⟩ := Dp.reads I d v u hd rv
  have ref : ∃ a, u = .ref a := by
    cases rd with
    | list _ _ _ _ => exact ⟨_, rfl⟩
    | tuple _ _ _ _ => exact ⟨_, rfl⟩
    | none => cases h1
    | bool _ => cases h1
    | int _ _ => cases h1
    | str _ _ => cases h1
    | dict _ _ _ _ _ => cases h1
  obtain ⟨a, rfl⟩ := ref
  have hu := hr.un
  exact str_of_reads rd h2 (PyData.noDict_hsm h3) h0 (by omega) (fun _ _ e => e) (fun h' t tk hk => ⟨.str _, H, I.kept hk, ⟨_, rfl⟩, q⟩) (Nat.le_trans h5 (by rw [sizeLine_eq]; decide))
theorem fNe0_L (ds : List PyData) : fNe0 (.list ds) (.list []) = some (.bool (!ds.isEmpty)) := by
  cases ds with
  | nil => 
    show fNe (.list []) (.list []) = _
    unfold fNe
    rw [if_pos ⟨by decide, by decide⟩]
    simp [PyData.eqv, PyData.eqvAll]
  | cons a r => rfl
theorem fEq0_L (ds : List PyData) : fEq0 (.list ds) (.list []) = some (.bool ds.isEmpty) := by
  cases ds with
  | nil => 
    show fEq (.list []) (.list []) = _
    unfold fEq
    rw [if_pos ⟨by decide, by decide⟩]
    simp [PyData.eqv, PyData.eqvAll]
  | cons a r => rfl
end DL
/-! texts: their signs, split, join, int(text), in a list of texts -/
namespace DL
open PySem PySem.Spec PyProof.Rows L2
def sgn (c : Nat) : PyData := .str ⟨#[c]⟩
def iTxt (g : EF) : IFn := fun ρ => (g ρ).bind fun p => match p.1 with
  | .d (.str x) => some (x.cps.toList.map sgn, p.2)
  | _ => none
theorem wk_str {K : PySem.W.Frag} {B : Bk} {H : Hp} (x : Str) : Wk K (Its x) (x.cps.toList.map sgn) B H := by
  intro B' H' e tr
  refine ⟨fun i d hi => ?_, ?_⟩
  · rw [List.getElem?_map] at hi
    obtain ⟨c, hc, rfl⟩ := Option.map_eq_some_iff.mp hi
    have hc : x.cps[i]? = some c := by simpa using hc
    refine ⟨(Array.getElem?_eq_some_iff.mp hc).1, fun y H'' hy => ?_⟩
    obtain ⟨rfl, c', hc', rfl⟩ := hy
    rw [hc] at hc'
    cases hc'
    exact ⟨Same.refl _, .str _⟩
  · show x.cps.size ≤ _
    simp
section
variable {X : Cx} {tg e : Expr} {g : EF}
theorem i_txt (h : PD X e g) : ID X tg e (iTxt g) := by
  obtain ⟨t, p, d⟩ := h.run
  refine ⟨_, pi_str p, ?_⟩
  intro E B σ H ρ ds ρ' R j e q
  simp only [iTxt, Option.bind_eq_some_iff] at e
  obtain ⟨⟨a, ρ1⟩, e1, e2⟩ := e
  split at e2
  · rename_i x ha
    simp only at ha
    subst ha
    cases e2
    refine d E B σ H ρ _ _ _ j e1 fun v H1 j1 x1 s1 o1 => ?_
    have o1 : Rp X.K (hid B H1) v (.str x) := o1
    cases o1
    exact ⟨x, rfl, q _ H1 j1 x1 s1 (wk_str x)⟩
  · cases e2
end
/-! ### a sign in a text -/
def fInS : R2f := fun a b => match a, b with
  | .str x, .str z => match x.cps.toList with
    | [c] => some (.bool (decide (c ∈ z.cps.toList)))
    | _ => none
  | _, _ => none
def fNotInS : R2f := fun a b => match a, b with
  | .str x, .str z => match x.cps.toList with
    | [c] => some (.bool (!decide (c ∈ z.cps.toList)))
    | _ => none
  | _, _ => none
theorem str_one {x : Str} {c : Nat} (h : x.cps.toList = [c]) : x = ⟨#[c]⟩ := by
  obtain ⟨⟨l⟩⟩ := x
  have h : l = [c] := h
  rw [h]
theorem os_inS {K : PySem.W.Frag} : OpS K rInS fInS := by
  intro B H x y a b d Q tr ha hb e q
  unfold fInS at e
  split at e
  · rename_i u z
    split at e
    · rename_i c hc
      cases e
      exact ⟨c, z, by rw [ha.str, str_one hc], hb.str, q _ H (Same.refl _) (.bl _)⟩
    · cases e
  · cases e
theorem os_notInS {K : PySem.W.Frag} : OpS K rNotInS fNotInS := by
  intro B H x y a b d Q tr ha hb e q
  unfold fNotInS at e
  split at e
  · rename_i u z
    split at e
    · rename_i c hc
      cases e
      exact ⟨c, z, by rw [ha.str, str_one hc], hb.str, q _ H (Same.refl _) (.bl _)⟩
    · cases e
  · cases e
theorem cm_inS {X : Cx} : CmpD X .In fInS := ⟨_, op_inS, os_inS⟩
theorem cm_notinS {X : Cx} : CmpD X .NotIn fNotInS := ⟨_, op_notInS, os_notInS⟩
/-! ### a text in a list, in a tuple of texts -/
def fNotInV : R2f := fun a b => match a, b with
  | .str x, .list ds => (strs? ds).map fun ys => .bool (!ys.any fun y => y == x)
  | .str x, .tuple ds => (strs? ds).map fun ys => .bool (!ys.any fun y => y == x)
  | _, _ => none
theorem inV_strs (x : Str) (ys : List Str) : inV (.str x) (ys.map V.str) = ys.any fun y => y == x := by
  rw [inV, List.any_map]
  rfl
theorem flat_strsV (ys : List Str) : (ys.map V.str).all flatV = true := by
  rw [List.all_map]
  exact List.all_eq_true.mpr fun _ _ => rfl
theorem os_notInV {K : PySem.W.Frag} : OpS K (rIn K true) fNotInV := by
  intro B H x y a b d Q tr ha hb e q
  unfold fNotInV at e
  split at e
  · rename_i z ds
    obtain ⟨ys, hy, rfl⟩ := Option.map_eq_some_iff.mp e
    obtain ⟨p, vs, rfl, h1, h2⟩ := hb.list
    rw [strs_of hy] at h2
    have := rpa_strs h2
    subst this
    refine ⟨p, _, rfl, .inl h1, by rw [ha.str]; rfl, flat_strsV ys, ?_⟩
    rw [ha.str, if_pos rfl, inV_strs]
    exact q _ H (Same.refl _) (.bl _)
  · rename_i z ds
    obtain ⟨ys, hy, rfl⟩ := Option.map_eq_some_iff.mp e
    obtain ⟨p, vs, rfl, h1, h2⟩ := hb.tuple
    rw [strs_of hy] at h2
    have := rpa_strs h2
    subst this
    refine ⟨p, _, rfl, .inr h1, by rw [ha.str]; rfl, flat_strsV ys, ?_⟩
    rw [ha.str, if_pos rfl, inV_strs]
    exact q _ H (Same.refl _) (.bl _)
  · cases e
theorem cm_notinV {X : Cx} : CmpD X .NotIn fNotInV := ⟨_, op_notIn_seq, os_notInV⟩
/-! ### int(text) -/
def cIntS : List PyData → Option PyData
  | [.str a] => if a.length ≤ 640 then (PySem.intText? a).map .int else none
  | _ => none
theorem cs_intS {K : PySem.W.Frag} : CallS K (fun xs H Q => ∃ a n, xs = [.str a] ∧ PySem.intText? a = some n ∧ a.length ≤ 640 ∧ Q (.int n) H) cIntS := by
  intro B H xs ds d Q tr hb e q
  unfold cIntS at e
  split at e
  · rename_i a
    split at e
    · rename_i hl
      obtain ⟨n, hn, rfl⟩ := Option.map_eq_some_iff.mp e
      obtain ⟨x, rfl, h⟩ := hb.one
      rw [h.str]
      exact ⟨a, n, rfl, hn, hl, q _ H (Same.refl _) (.int _)⟩
    · cases e
  · cases e
/-! ### split, join -/
theorem rpa_ofStrs {K : PySem.W.Frag} {H : Hp} : ∀ ys : List Str, RpA K H (ys.map V.str) (ys.map .str)
  | [] => .nil
  | y :: r => .cons (.str y) (rpa_ofStrs r)
def gSplit (go ge : EF) : EF := fun ρ => (go ρ).bind fun p => (ge p.2).bind fun q => match p.1, q.1 with
  | .d (.str a), .d (.str b) => if (b.length == 0) = false ∧ a.length ≤ 1000000 then some (.d (.list ((Txt.split a b).map .str)), q.2) else none
  | _, _ => none
def gJoin (go ge : EF) : EF := fun ρ => (go ρ).bind fun p => (ge p.2).bind fun q => (res q.2 q.1).bind fun y => match p.1, y with
  | .d (.str a), .list ds => (strs? ds).bind fun ys => if (ys.map (·.length)).sum + ys.length * a.length ≤ 16777216 then some (.d (.str (Txt.join a ys)), q.2) else none
  | _, _ => none
section
variable {X : Cx} {o e : Expr} {go ge : EF} {apos pos : Pos}
theorem d_split (ho : PD X o go) (he : PD X e ge) (hs : starEach [e] X.env = [(false, eval e X.env)] := by rfl) (hbase : attributeBase o "split" X.env (eval o X.env) = eval o X.env := by rfl) (hline : (apos.endLine == pos.line) = true := by rfl) :
    PD X (.Call (.Attribute o "split" apos) [e] [] pos) (gSplit go ge) := by
  obtain ⟨to, p1, d1⟩ := ho.run
  obtain ⟨te, p2, d2⟩ := he.run
  refine ⟨_, pe_split p1 p2 hs hbase hline, ?_⟩
  intro E B σ H ρ a ρ' Q j eq q
  simp only [gSplit, Option.bind_eq_some_iff] at eq
  obtain ⟨⟨a1, ρ1⟩, e1, ⟨a2, ρ2⟩, e2, e3⟩ := eq
  split at e3
  · rename_i x y h1 h2
    simp only at h1 h2
    subst h1 h2
    split at e3
    · rename_i hc
      cases e3
      refine d1 E B σ H ρ _ ρ1 _ j e1 fun v1 H1 j1 x1 s1 o1 => ?_
      have o1 : Rp X.K (hid B H1) v1 (.str x) := o1
      cases o1
      refine ⟨⟨x, rfl⟩, d2 E B σ H1 ρ1 _ ρ2 _ j1 e2 fun v2 H2 j2 x2 s2 o2 => ?_⟩
      have o2 : Rp X.K (hid B H2) v2 (.str y) := o2
      cases o2
      refine ⟨x, y, rfl, rfl, hc.1, Nat.le_trans (Nat.add_le_add_right hc.2 2) (by rw [sizeLine_eq]; decide), fun p hp => ?_⟩
      exact q _ _ (j2.grow (same_new hp)) ((x1.trans x2).trans (Ext.grow (same_new hp))) (s1.trans s2) (rp_lst j2.bt hp (rpa_ofStrs _))
    · cases e3
  · cases e3
theorem d_join (ho : PD X o go) (he : PD X e ge) (hs : starEach [e] X.env = [(false, eval e X.env)] := by rfl) (hbase : attributeBase o "join" X.env (eval o X.env) = eval o X.env := by rfl) (hline : (apos.endLine == pos.line) = true := by rfl) :
    PD X (.Call (.Attribute o "join" apos) [e] [] pos) (gJoin go ge) := by
  obtain ⟨to, p1, d1⟩ := ho.run
  obtain ⟨te, p2, d2⟩ := he.run
  refine ⟨_, pe_join p1 p2 hs hbase hline, ?_⟩
  intro E B σ H ρ a ρ' Q j eq q
  simp only [gJoin, Option.bind_eq_some_iff] at eq
  obtain ⟨⟨a1, ρ1⟩, e1, ⟨a2, ρ2⟩, e2, y, ey, e3⟩ := eq
  split at e3
  · rename_i x ds h1
    simp only at h1
    subst h1
    obtain ⟨ys, hy, e4⟩ := Option.bind_eq_some_iff.mp e3
    split at e4
    · rename_i hc
      cases e4
      refine d1 E B σ H ρ _ ρ1 _ j e1 fun v1 H1 j1 x1 s1 o1 => ?_
      have o1 : Rp X.K (hid B H1) v1 (.str x) := o1
      cases o1
      refine ⟨⟨x, rfl⟩, d2 E B σ H1 ρ1 _ ρ2 _ j1 e2 fun v2 H2 j2 x2 s2 o2 => ?_⟩
      obtain ⟨p, vs, rfl, h2, h3⟩ := (o2.bd j2 ey).list
      rw [strs_of hy] at h3
      have := rpa_strs h3
      subst this
      exact ⟨x, p, ys, rfl, rfl, .inl h2, hc, q _ H2 j2 (x1.trans x2) (s1.trans s2) (.str _)⟩
    · cases e4
  · cases e3
end
end DL
/-! own errors whose field is line -/
namespace DL
open PySem PySem.Spec PyProof.Rows L2
namespace ExLine
open PySem.W PySem.Calls PySem.HandSPX
abbrev fl : Str := "line"
def iA (p1 p2 : Pos) : Arguments := { posonlyargs := [], args := [{ arg := "self", annotation := none, pos := p1 }, { arg := "line", annotation := none, pos := p2 }], vararg := none, kwonlyargs := [], kw_defaults := [], kwarg := none, defaults := [] }
def iB (q1 q2 q3 q4 : Pos) : List Stmt := [.Assign [.Attribute (.Name "self" q1) "line" q2] (.Name "line" q3) q4]
def iS : Scope := { kind := .function, names := [(PySem.Str.ofString "self", .local), (PySem.Str.ofString "line", .local)], isGenerator := false, isCoroutine := false, more := [] }
/-- what the module says of such a class x, at C, its __init__ at fI -/
structure Txt (K : Frag) (mg : Str → Option Value) (qual : Str) (newId : String) (bmB : List Value) (x : Str) (C fI : Addr) : Prop where
  gC : mg x = some (.ref C)
  aC : nsIn K mainGlobals x = some (some (.ref C))
  ini : excInitIn K C bmB newId = true
  ov : excOver K C bmB = true
  nt : takerIn K C "line" = some none
  sa : findIn K (.ref C) "__setattr__" = some (some (.builtin "object.__setattr__"))
  ga : findIn K (.ref C) "__getattribute__" = some (some (.builtin "BaseException.__getattribute__"))
  gg : findIn K (.ref C) "__getattr__" = some none
  no : findIn K (.ref C) "line" = some none
  iC : findIn K (.ref C) "__init__" = some (some (.ref fI))
  tC : typeIn K (.ref fI) = some (.type "function")
  kC : keepIn K (.ref C) = true
  exC : subIn K (.ref C) (.type "BaseException") = some true
  tyC : typeIn K (.ref C) = some (.type "type")
  hdC : hasDictIn K C = true
  te : exmOne K (.ref C) (.ref C) = some true
  fn : ∃ (oc : Value) (od : Option Addr) (doc pm : Value) (an : Option Addr) (cdv ct : Value) (osl : Array (Option Value)) (p1 p2 q1 q2 q3 q4 : Pos),
    K.lookup fI = some ⟨oc, od, .func (fnOf "__init__" qual (iA p1 p2) (iB q1 q2 q3 q4) iS .none .none doc pm an cdv ct), osl⟩ ∧ codeIn K cdv qual = true
theorem ldC {M : Model} {s : Shared} {name : Str} {scope : Scope} {L a : Addr} {cd : Value} {m : Str → Option Value} {x : Str} {pos : Pos} {v : Value} {Q : Value → Shared → Prop} {A : Around} {E : Value → Shared → Prop} (hn : s.heap.Ns L m) (hv : m x = some v) (h : Q v s)
    (hk : scope.kind = .function := by rfl) (hl : (envOfC name scope L a cd).kindOf x = some .local := by rfl) (hd : (x == ("__debug__" : Str)) = false := by decide) :
    wpAny M A (eval (.Name x pos) (envOfC name scope L a cd)) Q E s := wpAny_Name (wpAny_loadName_local hk hl hn hv h) hd
/-- behind __init__ -/
structure InitEnd (h h' : Heap) (x C dx t1 : Addr) (v : Value) : Prop where
  keep : ∀ b o, b ≠ x → h.get? b = some o → h'.get? b = some o
  obj : h'.get? x = some { cls := .ref C, dict := some dx, data := .fields #[.ref t1, .none, .none, .none, .bool false, .none] }
  dbig : h.objs.size ≤ dx
  dne : dx ≠ x
  ns : h'.Ns1 dx (fun y => if y = "line" then some v else none)
/-- one that was made -/
structure Made (h h' : Heap) (e C d : Addr) (v : Value) : Prop where
  keep : ∀ b o, h.get? b = some o → h'.get? b = some o
  new : h.objs.size ≤ e
  obj : ∃ oe vs, h'.get? e = some oe ∧ oe.cls = .ref C ∧ oe.dict = some d ∧ oe.data = .fields vs ∧ vs[1]? = some .none
  dbig : h.objs.size ≤ d
  dne : d ≠ e
  ns : h'.Ns1 d (fun y => if y = "line" then some v else none)
section
variable {prog : Program} {w : World} {A : Around} {E : Value → Shared → Prop} {R : Result → Shared → Prop} {s : Shared} {K : Frag} {mg : Str → Option Value} {qual : Str} {newId B initId : String} {bmB : List Value} {nm : Str} {C fI : Addr}
theorem ex_init (SF : StoreFacts B bmB "object.__setattr__" "object") (T : Txt K mg qual newId bmB nm C fI) {x t0 : Addr} {v : Value} (X : K.In s.heap) (hlim : s.heap.NoLimit) (hx : s.heap.get? x = some (excO C t0)) (hroom : A.depth < recursionLimit)
    (hq : ∀ h' tk dx, InitEnd s.heap h' x C dx t0 v → R (.ok (.ret .none)) { s with heap := h', toks := tk }) :
    codeAny (model prog w) A (.call (.ref fI) ⟨[.ref x, v], []⟩) R s := by
  obtain ⟨oc, od, doc, pm, an, cdv, ct, osl, p1, p2, q1, q2, q3, q4, ho, hcd⟩ := T.fn
  refine Att.call_fn (binds := [("self", .ref x), ("line", v)]) X hlim ho hcd hroom (BindsTo.of_eq (by first | rfl | with_unfolding_all rfl)) (by first | rfl | decide | with_unfolding_all rfl) (fun s₁ IC => ?_) rfl rfl rfl
  obtain ⟨h₁, tk₁, rfl⟩ := IC.toInCall.same
  have k : ∀ b o, s.heap.get? b = some o → h₁.get? b = some o := IC.toInCall.keep
  have hn := IC.toInCall.ns
  have X₁ : K.In h₁ := X.keeps k
  have hx₁ := k _ _ hx
  show wpAny _ _ (execs _ _) _ _ _
  refine wpAny_execs_cons (plainObj_wpAny_Assign_Attribute ?_)
  refine ldC (v := v) hn (by first | rfl | with_unfolding_all rfl | kernel_rfl) (ldC (v := .ref x) hn (by first | rfl | with_unfolding_all rfl | kernel_rfl) ?_)
  refine set_plain X₁ (ox := excO C t0) (od := none) ⟨hx₁, rfl, rfl, trivial⟩ T.sa ?_
  refine exk_store SF X₁ hx₁ T.ov T.nt T.hdC (fun h₃ tk₃ dx k₃ dn dne hx₃ hn₃ => ?_)
  show wpAny _ _ (execs _ _) _ _ _
  have z : s.heap.objs.size < h₁.objs.size := hn.lt
  exact wpAny_execs_nil (hq h₃ tk₃ dx ⟨fun b o hb e => k₃ b o hb (k b o e), hx₃, Nat.le_of_lt (Nat.lt_of_lt_of_le z dn), dne, hn₃⟩)
theorem ex_made (F : ExcBaseFacts B newId initId bmB) (SF : StoreFacts B bmB "object.__setattr__" "object") (T : Txt K mg qual newId bmB nm C fI) {v : Value} (X : K.In s.heap) (hlim : s.heap.NoLimit) (hroom : A.depth + 1 < recursionLimit)
    (hq : ∀ h' tk e d, Made s.heap h' e C d v → R (.ok (.ret (.ref e))) { s with heap := h', toks := tk }) :
    codeAny (model prog w) A (.call (.ref C) ⟨[v], []⟩) R s := by
  obtain ⟨nm', N', qn, bs, bm, hdct, sn, sub, ab, col, dd, k0, k1, k2, k3, k5, hC, hT⟩ := excInit_of X T.ini
  obtain ⟨hp, g, dr, tk, os⟩ := s
  have k : ∀ b o, hp.get? b = some o → ((hp.push (kdv_tup [v])).push (excO C hp.objs.size)).get? b = some o := fun b o e => Heap.get?_push_of_some _ (Heap.get?_push_of_some _ e)
  have hget : ((hp.push (kdv_tup [v])).push (excO C hp.objs.size)).get? (hp.objs.size + 1) = some (excO C hp.objs.size) := by heap_get
  refine call_own F hT hC (looks_findIn X T.iC) (fun self => bind_fn X self T.tC) (one_line v) ?_
  refine ex_init (s := ⟨(hp.push (kdv_tup [v])).push (excO C hp.objs.size), g, dr, tk, os⟩) SF T (X.keeps k) (hlim.keeps k) hget ?_ fun h' tk' dx ⟨k', hx, dn, dne, hns⟩ => ?_
  · show A.depth + 1 < recursionLimit
    exact hroom
  · have old : ∀ b o, hp.get? b = some o → h'.get? b = some o := fun b o e => k' b o (Nat.ne_of_lt (Nat.lt_succ_of_lt (Heap.lt_size e))) (k b o e)
    have z : hp.objs.size + 1 + 1 ≤ dx := by
      first
        | (simpa only [Heap.size_push] using dn)
        | exact dn
        | (have q := dn; rw [Heap.size_push, Heap.size_push] at q; exact q)
    exact ⟨rfl, hq h' tk' (hp.objs.size + 1) dx ⟨old, Nat.le_succ _, ⟨_, _, hx, rfl, rfl, rfl, rfl⟩, Nat.le_trans (Nat.le_trans (Nat.le_succ _) (Nat.le_succ _)) z, dne, hns⟩⟩
end
theorem relO {v : V} {v' : Value} (r : RelV v v') (f : Str) : RelO (List.lookup f [(("line" : Str), v)]) (if f = "line" then some v' else none) := by
  by_cases hw : f = "line"
  · subst hw
    rw [if_pos rfl]
    have q : List.lookup ("line" : Str) [(("line" : Str), v)] = some v := by simp [List.lookup]
    rw [q]
    exact r
  · rw [if_neg hw]
    have qw : (f == ("line" : Str)) = false := by simpa using hw
    have q2 : List.lookup f [(("line" : Str), v)] = none := by simp [List.lookup, qw]
    rw [q2]
    trivial
section
variable {X : Cx} {C fI : Addr} {qual : Str} {newId B initId : String} {bmB : List Value} {nm : Str}
def tMk (C : Addr) (ta : TA) : L2.St → Hp → XK → Prop := fun σ H Q => ta σ H fun vs H1 => ∃ v, vs = [v] ∧ ∀ d, H1 d = none → Q (.ref C) (some d) (upd H1 d (.xd [(("line" : Str), v)]))
theorem pmk {a : Expr} {ta : TA} {p pos : Pos} {k : Nat} (F : ExcBaseFacts B newId initId bmB) (SF : StoreFacts B bmB "object.__setattr__" "object") (T : Txt X.K X.mg qual newId bmB nm C fI) (hr : Room k X.A) (hk : 2 ≤ k) (ha : PA X [a] ta) (hg : Gl X nm)
    (hdb : (nm == ("__debug__" : Str)) = false := by decide) (he : starEach (a :: []) X.env = (false, eval a X.env) :: starEach [] X.env := by rfl) (hpl : (backTo pos (starEach [] X.env)).any (·.1) = false := by rfl) :
    PMk X (.Call (.Name nm p) [a] [] pos) (tMk C ta) := by
  intro pins s σ H Q I h
  refine wpAny_Call_Name_kw (ld_glob I hg T.gC ?_ hdb)
  refine PySem.W.callWith_K (h₀ := X.base) I.ok.mod.kin T.kC (thn (ha.run pos pins s σ H _ I h) fun us s1 hh => ?_) he hpl
  obtain ⟨vs, H1, I1, r1, v, ev, q1⟩ := hh
  subst ev
  refine ⟨I1.kIn, ?_⟩
  cases r1 with
  | cons rv rn =>
    rename_i v' us'
    cases rn
    show wpAny _ _ (call (.ref C) [v']) _ _ _
    have hlim := I1.nolimit
    obtain ⟨hp, g, dr, tk, os⟩ := s1
    refine wpAny_call (ex_made F SF T I1.kIn hlim (by have := hr.dp; omega) fun h' tk' e d M => ?_)
    show MkP X pins σ Q (.ref e) ⟨h', g, dr, tk', os⟩
    obtain ⟨oe, fv, hoe, hc, hd, hdat, h1⟩ := M.obj
    have hns := M.ns
    obtain ⟨G', g1, g2⟩ := restrict h' fun b => decide (b ≠ e)
    have gk : ∀ b, b ≠ e → G'.get? b = h'.get? b := fun b hb => g1 b (decide_eq_true hb)
    have ge : G'.get? e = none := g2 e (by simp)
    have old : ∀ b o, hp.get? b = some o → G'.get? b = some o := fun b o q => (gk b (Nat.ne_of_lt (Nat.lt_of_lt_of_le (Heap.lt_size q) M.new))).trans (M.keep b o q)
    have ob : ObjOk X.prog X.w (upd H1 d (.xd [(("line" : Str), v)])) G' d (.xd [(("line" : Str), v)]) :=
      ⟨_, hns.at (fun o q => (gk d M.dne).trans q), fun f => relO rv f⟩
    have J : Inv X pins σ (upd H1 d (.xd [(("line" : Str), v)])) ⟨G', g, dr, tk', os⟩ := I1.laid (t' := tk') old M.dbig ob
    refine ⟨e, oe, fv, ⟨G', g, dr, tk', os⟩, _, .ref C, some d, rfl, J, fun b o q => ?_, ge, hoe, ⟨hc, hd⟩, hdat, h1, ?_, rfl, I1.bare, raises_own T.exC T.tyC, q1 d (I1.hok.fresh M.dbig)⟩
    · by_cases hb : b = e
      · have q' : G'.get? b = some o := q
        rw [hb, ge] at q'; cases q'
      · exact (gk b hb).symm.trans q
    · rw [upd_ne (Ne.symm M.dne)]
      exact I1.hok.fresh M.new
end
end ExLine
namespace ExLine
section
variable {X : Cx} {C : Addr} {qual : Str} {newId B initId : String} {bmB : List Value} {nm : Str}
theorem d_mk {a : Expr} {g : EF} {p pos : Pos} {k : Nat} (F : ExcBaseFacts B newId initId bmB) (SF : StoreFacts B bmB "object.__setattr__" "object") (T : ∃ fI, Txt X.K X.mg qual newId bmB nm C fI) (hr : Room k X.A) (hk : 2 ≤ k) (ha : PD X a g) (hg : Gl X nm)
    (hdb : (nm == ("__debug__" : Str)) = false := by decide) (he : starEach (a :: []) X.env = (false, eval a X.env) :: starEach [] X.env := by rfl) (hpl : (backTo pos (starEach [] X.env)).any (·.1) = false := by rfl) :
    ∃ te, Sd X.K te g ∧ PMk X (.Call (.Name nm p) [a] [] pos) (fun σ H Q => tCons te tNil σ H fun vs H1 => ∃ v, vs = [v] ∧ ∀ d, H1 d = none → Q (.ref C) (some d) (upd H1 d (.xd [(("line" : Str), v)]))) := by
  obtain ⟨te, p1, d1⟩ := ha.run
  obtain ⟨fI, T⟩ := T
  exact ⟨te, d1, pmk F SF T hr hk (pa_cons p1 pa_nil he) hg hdb he hpl⟩
end
section
variable {K : PySem.W.Frag} {mg : Str → Option Value} {C : Addr} {qual : Str} {newId : String} {bmB : List Value} {nm : Str}
theorem e_gC (T : ∃ fI, Txt K mg qual newId bmB nm C fI) : mg nm = some (.ref C) := T.elim fun _ t => t.gC
theorem e_aC (T : ∃ fI, Txt K mg qual newId bmB nm C fI) : PySem.W.nsIn K mainGlobals nm = some (some (.ref C)) := T.elim fun _ t => t.aC
theorem e_te (T : ∃ fI, Txt K mg qual newId bmB nm C fI) : PySem.W.exmOne K (.ref C) (.ref C) = some true := T.elim fun _ t => t.te
theorem e_fld (T : ∃ fI, Txt K mg qual newId bmB nm C fI) : ∀ C', PySem.W.nsIn K mainGlobals nm = some (some (.ref C')) → FldOk K C' "line" := fun C' h => by
  obtain ⟨_, t⟩ := T
  rw [t.aC] at h
  cases h
  exact ⟨t.ga, t.gg, t.exC, t.hdC, t.no⟩
theorem e_is {cv : Value} {b : Bool} (T : ∃ fI, Txt K mg qual newId bmB nm C fI) (ok : IsOkE K C) (kit : PySem.W.kitOne K (.ref C) cv = some b) : ∀ C', PySem.W.nsIn K mainGlobals nm = some (some (.ref C')) → IsOkE K C' ∧ PySem.W.kitOne K (.ref C') cv = some b := fun C' h => by
  obtain ⟨_, t⟩ := T
  rw [t.aC] at h
  cases h
  exact ⟨ok, kit⟩
end
end ExLine
end DL
namespace DL
open PySem PySem.Spec PyProof.Rows L2
/-! ### evaluation -/
theorem fMul_i {i j : Int} : fMul (.int i) (.int j) = if CMulW i j then some (.int (i * j)) else none := rfl
theorem fDiv_i {i j : Int} : fDiv (.int i) (.int j) = if CDivW i j then some (.int (i / j)) else none := rfl
theorem fMod_i {i j : Int} : fMod (.int i) (.int j) = if 0 < j then some (.int (i % j)) else none := rfl
theorem fPow_i {i j : Int} : fPow (.int i) (.int j) = if CPowW i j then some (.int (i ^ j.toNat)) else none := rfl
theorem fSub_i {i j : Int} : fSub (.int i) (.int j) = some (.int (i - j)) := rfl
theorem fAdd_i {i j : Int} : fAdd (.int i) (.int j) = some (.int (i + j)) := rfl
theorem fAdd_l {i j : List PyData} : fAdd (.list i) (.list j) = if i.length + j.length ≤ big then some (.list (i ++ j)) else none := by
  simp only [fAdd, fI, fCat, fAddS, Option.none_or, Option.or_none]
theorem fLt_i {i j : Int} : fLt (.int i) (.int j) = some (.bool (decide (i < j))) := rfl
theorem fLe_i {i j : Int} : fLe (.int i) (.int j) = some (.bool (decide (i ≤ j))) := rfl
theorem fGt_i {i j : Int} : fGt (.int i) (.int j) = some (.bool (decide (j < i))) := rfl
theorem fGe_i {i j : Int} : fGe (.int i) (.int j) = some (.bool (decide (j ≤ i))) := rfl
theorem mulW {i j : Int} {n m : Nat} (hi : i.natAbs < 2 ^ n) (hj : j.natAbs < 2 ^ m) (h : n + m < 1000000) : CMulW i j := by
  unfold CMulW
  have a : ∀ (x n : Nat), x < 2 ^ n → x.log2 ≤ n := fun x n h => by
    by_cases h0 : x = 0
    · subst h0
      simp
    · exact Nat.le_of_lt ((Nat.log2_lt h0).mpr h)
  have := a _ _ hi
  have := a _ _ hj
  omega
theorem atI_0 {α : Type} {a : α} {l : List α} : atI (a :: l) 0 = some a := by simp [atI, ixN]
theorem atI_1 {α : Type} {a b : α} {l : List α} : atI (a :: b :: l) 1 = some b := by
  have : (1 : Int) < (l.length : Int) + 1 + 1 := by omega
  simp [atI, ixN, this]
theorem atI_2 {α : Type} {a b c : α} {l : List α} : atI (a :: b :: c :: l) 2 = some c := by
  have : (2 : Int) < (l.length : Int) + 1 + 1 + 1 := by omega
  simp [atI, ixN, this]
theorem atI_nat {α : Type} {l : List α} {n : Nat} : atI l (n : Int) = l[n]? := by
  unfold atI ixN
  rw [if_pos (by omega)]
  by_cases h : n < l.length
  · rw [if_pos (by omega)]
    simp
  · rw [if_neg (by omega), List.getElem?_eq_none (by omega)]
    rfl
theorem atI_last {α : Type} {l : List α} {a : α} : atI (l ++ [a]) (-1) = some a := by
  unfold atI ixN
  rw [if_neg (by omega), if_pos (by simp; omega)]
  have : ((-1 : Int) + ((l ++ [a]).length : Nat)).toNat = l.length := by simp; omega
  rw [this]
  simp
theorem atI_of {α : Type} {l : List α} {i : Int} {n : Nat} (h : i = n) : atI l i = l[n]? := by rw [h, atI_nat]
theorem cd_2 {i : Int} : CDivW i 2 := ⟨by decide, by decide +kernel⟩
theorem cd_3 {i : Int} : CDivW i 3 := ⟨by decide, by decide +kernel⟩
theorem cd_4 {i : Int} : CDivW i 4 := ⟨by decide, by decide +kernel⟩
theorem cd_5 {i : Int} : CDivW i 5 := ⟨by decide, by decide +kernel⟩
theorem cd_6 {i : Int} : CDivW i 6 := ⟨by decide, by decide +kernel⟩
theorem cd_7 {i : Int} : CDivW i 7 := ⟨by decide, by decide +kernel⟩
theorem cd_12 {i : Int} : CDivW i 12 := ⟨by decide, by decide +kernel⟩
theorem cd_20 {i : Int} : CDivW i 20 := ⟨by decide, by decide +kernel⟩
theorem cd_28 {i : Int} : CDivW i 28 := ⟨by decide, by decide +kernel⟩
theorem cd_60 {i : Int} : CDivW i 60 := ⟨by decide, by decide +kernel⟩
theorem cd_1000000 {i : Int} : CDivW i 1000000 := ⟨by decide, by decide +kernel⟩
theorem atI_3 {α : Type} {a b c d : α} {l : List α} : atI (a :: b :: c :: d :: l) 3 = some d := atI_of (n := 3) rfl
theorem atI_4 {α : Type} {a b c d e : α} {l : List α} : atI (a :: b :: c :: d :: e :: l) 4 = some e := atI_of (n := 4) rfl
theorem shaped_int {i : Int} : SeqAt.shaped (.int i) = true := by simp [SeqAt.shaped, PyData.canLay0, PyData.depth]
theorem shaped_bool {i : Bool} : SeqAt.shaped (.bool i) = true := by simp [SeqAt.shaped, PyData.canLay0, PyData.depth]
theorem shaped_none : SeqAt.shaped .none = true := by simp [SeqAt.shaped, PyData.canLay0, PyData.depth]
theorem shaped_L {ns : List Int} : SeqAt.shaped (.list (ns.map .int)) = true := PySem.W.shaped_ints ns
theorem shaped_nil : SeqAt.shaped (.list []) = true := shaped_L (ns := [])
theorem fEq_int {i j : Int} : fEq (.int i) (.int j) = some (.bool (decide (i = j))) := by
  simp [fEq, shaped_int, PyData.eqv, BEq.beq]
theorem fNe_int {i j : Int} : fNe (.int i) (.int j) = some (.bool (!decide (i = j))) := by
  simp [fNe, shaped_int, PyData.eqv, BEq.beq]
theorem eqvAll_ints : ∀ {a b : List Int}, PyData.eqvAll (a.map .int) (b.map .int) = decide (a = b)
  | [], [] => by simp [PyData.eqvAll]
  | [], _ :: _ => by simp [PyData.eqvAll]
  | _ :: _, [] => by simp [PyData.eqvAll]
  | x :: a, y :: b => by
    have ih := eqvAll_ints (a := a) (b := b)
    simp only [List.map_cons, PyData.eqvAll, PyData.eqv, ih]
    by_cases h : x = y
    · simp [h]
    · simp [h]
theorem fEq_L {a b : List Int} : fEq (.list (a.map .int)) (.list (b.map .int)) = some (.bool (decide (a = b))) := by
  simp [fEq, shaped_L, PyData.eqv, eqvAll_ints]
theorem fNe_L {a b : List Int} : fNe (.list (a.map .int)) (.list (b.map .int)) = some (.bool (!decide (a = b))) := by
  simp [fNe, shaped_L, PyData.eqv, eqvAll_ints]
theorem fNe_L0 {a : List Int} : fNe (.list (a.map .int)) (.list []) = some (.bool (!decide (a = []))) := fNe_L (b := [])
theorem fEq_L0 {a : List Int} : fEq (.list (a.map .int)) (.list []) = some (.bool (decide (a = []))) := fEq_L (b := [])
theorem fEq_str {a b : Str} (ha : SeqAt.shaped (.str a) = true) (hb : SeqAt.shaped (.str b) = true) : fEq (.str a) (.str b) = some (.bool (a == b)) := by
  simp [fEq, ha, hb, PyData.eqv]
theorem sIx_none {n : Nat} {d : Nat} : HT.sIx n d none = d := rfl
theorem sIx_nat {n d k : Nat} : HT.sIx n d (some (k : Int)) = min k n := by
  unfold HT.sIx
  simp
  omega
theorem fSl_take {ds : List PyData} {k : Nat} : fSl (.list ds) none (some (k : Int)) = some (.list (ds.take k)) := by
  simp only [fSl, sIx_none, sIx_nat, List.drop_zero, Nat.sub_zero]
  congr 2
  by_cases h : k ≤ ds.length
  · rw [Nat.min_eq_left h]
  · rw [Nat.min_eq_right (by omega), List.take_of_length_le (Nat.le_refl _), List.take_of_length_le (by omega)]
theorem fSl_drop {ds : List PyData} {k : Nat} : fSl (.list ds) (some (k : Int)) none = some (.list (ds.drop k)) := by
  simp only [fSl, sIx_none, sIx_nat]
  congr 2
  by_cases h : k ≤ ds.length
  · rw [Nat.min_eq_left h, List.take_of_length_le (by simp)]
  · rw [Nat.min_eq_right (by omega), List.drop_of_length_le (Nat.le_refl _), List.drop_of_length_le (by omega)]
    simp
theorem fSl_both {ds : List PyData} {j k : Nat} : fSl (.list ds) (some (j : Int)) (some (k : Int)) = some (.list ((ds.take k).drop j)) := by
  simp only [fSl, sIx_nat]
  congr 2
  rw [List.drop_take]
  by_cases h : k ≤ ds.length
  · rw [Nat.min_eq_left h]
    by_cases h' : j ≤ ds.length
    · rw [Nat.min_eq_left h']
    · rw [Nat.min_eq_right (by omega), List.drop_of_length_le (Nat.le_refl _), List.drop_of_length_le (by omega)]
      simp
  · rw [Nat.min_eq_right (by omega)]
    by_cases h' : j ≤ ds.length
    · rw [Nat.min_eq_left h', List.take_of_length_le (by simp), List.take_of_length_le (by simp; omega)]
    · rw [Nat.min_eq_right (by omega), List.drop_of_length_le (Nat.le_refl _), List.drop_of_length_le (by omega)]
      simp
theorem rngD_zero {n : Nat} : rngD 0 n = (List.range n).map fun i => .int (i : Nat) := by simp [rngD]
noncomputable def rg1 (ds : List PyData) (ρ : Rho) : Option (List PyData × Rho) := match ds with
  | [.int j] => if small62 j then some (rngD 0 j.toNat, ρ) else none
  | _ => none
noncomputable def rg2 (ds : List PyData) (ρ : Rho) : Option (List PyData × Rho) := match ds with
  | [.int i, .int j] => if small62 i ∧ small62 j then some (rngD i (j - i).toNat, ρ) else none
  | _ => none
theorem iRange1_eq {g : AF} {ρ : Rho} : iRange1 g ρ = (g ρ).bind fun p => (resA p.2 p.1).bind fun ds => rg1 ds p.2 := id (Eq.refl _)
theorem iRange2_eq {g : AF} {ρ : Rho} : iRange2 g ρ = (g ρ).bind fun p => (resA p.2 p.1).bind fun ds => rg2 ds p.2 := id (Eq.refl _)
theorem small_of {i : Int} (h : -1000000000 ≤ i) (h' : i ≤ 1000000000) : small62 i := by
  have : (2 : Int) ^ 62 = 4611686018427387904 := by decide
  unfold small62
  rw [this]
  omega
theorem rg1_nat {n : Nat} (h : n ≤ 1000000) {ρ : Rho} : rg1 [.int (n : Nat)] ρ = some (rngD 0 n, ρ) := by
  show (if small62 (n : Int) then some (rngD 0 ((n : Int)).toNat, ρ) else none) = _
  rw [if_pos (small_of (by omega) (by omega)), Int.toNat_natCast]
theorem rg2_of {i j : Int} (h : -1000000 ≤ i) (h' : i ≤ 1000000) (g : -1000000 ≤ j) (g' : j ≤ 1000000) {ρ : Rho} : rg2 [.int i, .int j] ρ = some (rngD i (j - i).toNat, ρ) := by
  show (if small62 i ∧ small62 j then some (rngD i (j - i).toNat, ρ) else none) = _
  rw [if_pos ⟨small_of (by omega) (by omega), small_of (by omega) (by omega)⟩]
theorem rg1_2 {ρ : Rho} : rg1 [.int 2] ρ = some (rngD 0 2, ρ) := rg1_nat (n := 2) (by decide)
theorem rg1_3 {ρ : Rho} : rg1 [.int 3] ρ = some (rngD 0 3, ρ) := rg1_nat (n := 3) (by decide)
theorem rg1_4 {ρ : Rho} : rg1 [.int 4] ρ = some (rngD 0 4, ρ) := rg1_nat (n := 4) (by decide)
/-- a loop whose turns go on -/
theorem forGo_inv {t : TGf} {b : SF} : ∀ (ds : List PyData) (I : Nat → Rho → Prop) (k : Nat) (ρ : Rho), I k ρ →
    (∀ i d ρ, ds[i]? = some d → I (k + i) ρ → ∃ ρ1 ρ2, t d ρ = some ρ1 ∧ (b ρ1 = some (.nx ρ2) ∨ b ρ1 = some (.ct ρ2)) ∧ I (k + i + 1) ρ2) → ∃ ρ', forGo t b ds ρ = some (.nx ρ') ∧ I (k + ds.length) ρ'
  | [], I, k, ρ, h, _ => ⟨ρ, rfl, h⟩
  | d :: ds, I, k, ρ, h, st => by
    obtain ⟨ρ1, ρ2, e1, e2, h2⟩ := st 0 d ρ rfl h
    obtain ⟨ρ', e3, h3⟩ := forGo_inv ds I (k + 1) ρ2 h2 fun i d' ρ hi hI => by
      have := st (i + 1) d' ρ (by simpa using hi) (by rw [show k + (i + 1) = k + 1 + i by omega]; exact hI)
      rw [show k + (i + 1) + 1 = k + 1 + i + 1 by omega] at this
      exact this
    refine ⟨ρ', ?_, by rw [show k + (d :: ds).length = k + 1 + ds.length by simp; omega]; exact h3⟩
    rcases e2 with e2 | e2
    · simp only [forGo, e1, Option.bind_some, e2, e3]
    · simp only [forGo, e1, Option.bind_some, e2, e3]
theorem for_inv {t : TGf} {b : SF} {ds : List PyData} {I : Nat → Rho → Prop} {ρ : Rho} (h : I 0 ρ)
    (st : ∀ i d ρ, ds[i]? = some d → I i ρ → ∃ ρ1 ρ2, t d ρ = some ρ1 ∧ (b ρ1 = some (.nx ρ2) ∨ b ρ1 = some (.ct ρ2)) ∧ I (i + 1) ρ2) : ∃ ρ', forGo t b ds ρ = some (.nx ρ') ∧ I ds.length ρ' := by
  have := forGo_inv ds I 0 ρ h fun i d ρ hi hI => by
    rw [Nat.zero_add] at hI ⊢
    exact st i d ρ hi hI
  rwa [Nat.zero_add] at this
/-- a comprehension whose turns all give a value -/
theorem lcGo_inv {t : TGf} {c : BF} {g : EF} {vs : List Nat} : ∀ (ds : List PyData) (I : Nat → List PyData → Rho → Prop) (k : Nat) (acc : List PyData) (ρ : Rho), I k acc ρ → acc.length + ds.length ≤ big →
    (∀ i d acc ρ, ds[i]? = some d → I (k + i) acc ρ → ∃ ρ1 ρ2, t d (wipeR ρ vs) = some ρ1 ∧ ((∃ e ρ3, c ρ1 = some (true, ρ2) ∧ g ρ2 = some (.d e, ρ3) ∧ I (k + i + 1) (acc ++ [e]) ρ3) ∨ (c ρ1 = some (false, ρ2) ∧ I (k + i + 1) acc ρ2))) →
    ∃ acc' ρ', lcGo t c g vs ds acc ρ = some (acc', ρ') ∧ I (k + ds.length) acc' ρ'
  | [], I, k, acc, ρ, h, _, _ => ⟨acc, ρ, rfl, h⟩
  | d :: ds, I, k, acc, ρ, h, hz, st => by
    rw [List.length_cons] at hz
    have next : ∀ i d' acc ρ, ds[i]? = some d' → I (k + 1 + i) acc ρ → _ := fun i d' acc ρ hi hI => by
      have := st (i + 1) d' acc ρ (by simpa using hi) (by rw [show k + (i + 1) = k + 1 + i by omega]; exact hI)
      rw [show k + (i + 1) + 1 = k + 1 + i + 1 by omega] at this
      exact this
    obtain ⟨ρ1, ρ2, e1, ⟨e, ρ3, e2, e3, h2⟩ | ⟨e2, h2⟩⟩ := st 0 d acc ρ rfl h
    · obtain ⟨acc', ρ', e4, h4⟩ := lcGo_inv ds I (k + 1) (acc ++ [e]) ρ3 h2 (by rw [List.length_append, List.length_singleton]; omega) next
      refine ⟨acc', ρ', ?_, by rw [show k + (d :: ds).length = k + 1 + ds.length by simp; omega]; exact h4⟩
      have : acc.length < big := by omega
      simp only [lcGo, e1, Option.bind_some, e2, if_true, e3, if_pos this, e4]
    · obtain ⟨acc', ρ', e4, h4⟩ := lcGo_inv ds I (k + 1) acc ρ2 h2 (by omega) next
      refine ⟨acc', ρ', ?_, by rw [show k + (d :: ds).length = k + 1 + ds.length by simp; omega]; exact h4⟩
      simp only [lcGo, e1, Option.bind_some, e2, Bool.false_eq_true, if_false, e4]
theorem lc_inv {t : TGf} {c : BF} {g : EF} {vs : List Nat} {ds : List PyData} {I : Nat → List PyData → Rho → Prop} {ρ : Rho} (h : I 0 [] ρ) (hz : ds.length ≤ big)
    (st : ∀ i d acc ρ, ds[i]? = some d → I i acc ρ → ∃ ρ1 ρ2, t d (wipeR ρ vs) = some ρ1 ∧ ((∃ e ρ3, c ρ1 = some (true, ρ2) ∧ g ρ2 = some (.d e, ρ3) ∧ I (i + 1) (acc ++ [e]) ρ3) ∨ (c ρ1 = some (false, ρ2) ∧ I (i + 1) acc ρ2))) :
    ∃ acc' ρ', lcGo t c g vs ds [] ρ = some (acc', ρ') ∧ I ds.length acc' ρ' := by
  have := lcGo_inv ds I 0 [] ρ h (by simpa using hz) fun i d acc ρ hi hI => by
    rw [Nat.zero_add] at hI ⊢
    exact st i d acc ρ hi hI
  rwa [Nat.zero_add] at this
/-- .. that leave the slots as they were but for their own -/
theorem lc_map {t : TGf} {c : BF} {g : EF} {vs : List Nat} {ds : List PyData} {S : Rho → Prop} {ρ : Rho} (f : PyData → PyData) (h : S ρ) (hz : ds.length ≤ big)
    (st : ∀ d ∈ ds, ∀ ρ, S ρ → ∃ ρ1 ρ2 ρ3, t d (wipeR ρ vs) = some ρ1 ∧ c ρ1 = some (true, ρ2) ∧ g ρ2 = some (.d (f d), ρ3) ∧ S ρ3) :
    ∃ ρ', lcGo t c g vs ds [] ρ = some (ds.map f, ρ') ∧ S ρ' := by
  obtain ⟨acc, ρ', e1, e2, e3⟩ := lc_inv (t := t) (c := c) (g := g) (vs := vs) (ds := ds) (I := fun i acc ρ => acc = (ds.take i).map f ∧ S ρ) ⟨rfl, h⟩ hz fun i d acc ρ hi ⟨ha, hS⟩ => by
    obtain ⟨ρ1, ρ2, ρ3, q1, q2, q3, q4⟩ := st d (List.mem_of_getElem? hi) ρ hS
    refine ⟨ρ1, ρ2, q1, .inl ⟨_, ρ3, q2, q3, ?_, q4⟩⟩
    rw [List.take_succ, hi, ha]
    simp
  rw [List.take_of_length_le (Nat.le_refl _)] at e2
  subst e2
  exact ⟨ρ', e1, e3⟩
theorem lc_filter {t : TGf} {c : BF} {g : EF} {vs : List Nat} {ds : List PyData} {S : Rho → Prop} {ρ : Rho} (p : PyData → Bool) (f : PyData → PyData) (h : S ρ) (hz : ds.length ≤ big)
    (st : ∀ d ∈ ds, ∀ ρ, S ρ → ∃ ρ1 ρ2, t d (wipeR ρ vs) = some ρ1 ∧ c ρ1 = some (p d, ρ2) ∧ S ρ2 ∧ (p d = true → ∃ ρ3, g ρ2 = some (.d (f d), ρ3) ∧ S ρ3)) :
    ∃ ρ', lcGo t c g vs ds [] ρ = some ((ds.filter p).map f, ρ') ∧ S ρ' := by
  obtain ⟨acc, ρ', e1, e2, e3⟩ := lc_inv (t := t) (c := c) (g := g) (vs := vs) (ds := ds) (I := fun i acc ρ => acc = ((ds.take i).filter p).map f ∧ S ρ) ⟨rfl, h⟩ hz fun i d acc ρ hi ⟨ha, hS⟩ => by
    obtain ⟨ρ1, ρ2, q1, q2, q3, q4⟩ := st d (List.mem_of_getElem? hi) ρ hS
    refine ⟨ρ1, ρ2, q1, ?_⟩
    cases hp : p d with
    | true =>
      obtain ⟨ρ3, q5, q6⟩ := q4 hp
      refine .inl ⟨_, ρ3, by rw [q2, hp], q5, ?_, q6⟩
      rw [List.take_succ, hi, ha]
      simp [hp]
    | false =>
      refine .inr ⟨by rw [q2, hp], ?_, q3⟩
      rw [List.take_succ, hi, ha]
      simp [hp]
  rw [List.take_of_length_le (Nat.le_refl _)] at e2
  subst e2
  exact ⟨ρ', e1, e3⟩
/-- .. over what stands for things of a type -/
theorem lc_filterM {α : Type} {t : TGf} {c : BF} {g : EF} {vs : List Nat} {S : Rho → Prop} {ρ : Rho} (enc : α → PyData) (ts : List α) (p : α → Bool) (f : α → PyData) (h : S ρ) (hz : ts.length ≤ 1000000)
    (st : ∀ a ∈ ts, ∀ ρ, S ρ → ∃ ρ1 ρ2, t (enc a) (wipeR ρ vs) = some ρ1 ∧ c ρ1 = some (p a, ρ2) ∧ S ρ2 ∧ (p a = true → ∃ ρ3, g ρ2 = some (.d (f a), ρ3) ∧ S ρ3)) :
    ∃ ρ', lcGo t c g vs (ts.map enc) [] ρ = some ((ts.filter p).map f, ρ') ∧ S ρ' := by
  obtain ⟨acc, ρ', e1, e2, e3⟩ := lc_inv (t := t) (c := c) (g := g) (vs := vs) (ds := ts.map enc) (I := fun i acc ρ => acc = ((ts.take i).filter p).map f ∧ S ρ) ⟨rfl, h⟩ (by rw [List.length_map]; exact hz) fun i d acc ρ hi ⟨ha, hS⟩ => by
    rw [List.getElem?_map] at hi
    obtain ⟨a, h1, rfl⟩ := Option.map_eq_some_iff.mp hi
    obtain ⟨ρ1, ρ2, q1, q2, q3, q4⟩ := st a (List.mem_of_getElem? h1) ρ hS
    refine ⟨ρ1, ρ2, q1, ?_⟩
    cases hp : p a with
    | true =>
      obtain ⟨ρ3, q5, q6⟩ := q4 hp
      refine .inl ⟨_, ρ3, by rw [q2, hp], q5, ?_, q6⟩
      rw [List.take_succ, h1, ha]
      simp [hp]
    | false =>
      refine .inr ⟨by rw [q2, hp], ?_, q3⟩
      rw [List.take_succ, h1, ha]
      simp [hp]
  rw [List.length_map, List.take_of_length_le (Nat.le_refl _)] at e2
  subst e2
  exact ⟨ρ', e1, e3⟩
theorem lc_mapM {α : Type} {t : TGf} {c : BF} {g : EF} {vs : List Nat} {S : Rho → Prop} {ρ : Rho} (enc : α → PyData) (ts : List α) (f : α → PyData) (h : S ρ) (hz : ts.length ≤ 1000000)
    (st : ∀ a ∈ ts, ∀ ρ, S ρ → ∃ ρ1 ρ2 ρ3, t (enc a) (wipeR ρ vs) = some ρ1 ∧ c ρ1 = some (true, ρ2) ∧ g ρ2 = some (.d (f a), ρ3) ∧ S ρ2 ∧ S ρ3) :
    ∃ ρ', lcGo t c g vs (ts.map enc) [] ρ = some (ts.map f, ρ') ∧ S ρ' := by
  obtain ⟨ρ', e1, e2⟩ := lc_filterM (t := t) (c := c) (g := g) (vs := vs) enc ts (fun _ => true) f h hz fun a ha ρ hS => by
    obtain ⟨ρ1, ρ2, ρ3, q1, q2, q3, q4, q5⟩ := st a ha ρ hS
    exact ⟨ρ1, ρ2, q1, q2, q4, fun _ => ⟨ρ3, q3, q5⟩⟩
  have : ts.filter (fun _ => true) = ts := by simp
  rw [this] at e1
  exact ⟨ρ', e1, e2⟩
/-- the first number of n from i on that a test takes -/
def firstH (p : Nat → Bool) : Nat → Nat → Option Nat
  | 0, _ => none
  | n + 1, i => if p i = true then some i else firstH p n (i + 1)
theorem firstH_congr {p q : Nat → Bool} : ∀ (n i : Nat), (∀ j, i ≤ j → j < i + n → p j = q j) → firstH p n i = firstH q n i
  | 0, _, _ => rfl
  | n + 1, i, h => by
    simp only [firstH, h i (Nat.le_refl _) (by omega)]
    rw [firstH_congr n (i + 1) fun j h1 h2 => h j (by omega) (by omega)]
theorem firstH_none {p : Nat → Bool} : ∀ (n i : Nat), firstH p n i = none ↔ ∀ j, i ≤ j → j < i + n → p j = false
  | 0, i => ⟨fun _ j h1 h2 => by omega, fun _ => rfl⟩
  | n + 1, i => by
    simp only [firstH]
    constructor
    · intro h j h1 h2
      split at h
      · cases h
      · rename_i hp
        by_cases e : j = i
        · rw [e]; simpa using hp
        · exact (firstH_none n (i + 1)).mp h j (by omega) (by omega)
    · intro h
      rw [if_neg (by rw [h i (Nat.le_refl _) (by omega)]; exact Bool.false_ne_true)]
      exact (firstH_none n (i + 1)).mpr fun j h1 h2 => h j (by omega) (by omega)
theorem firstH_some {p : Nat → Bool} : ∀ {n i r : Nat}, firstH p n i = some r → i ≤ r ∧ r < i + n ∧ p r = true
  | n + 1, i, r, h => by
    simp only [firstH] at h
    split at h
    · rename_i hp
      cases h
      exact ⟨Nat.le_refl _, by omega, hp⟩
    · obtain ⟨a, b, c⟩ := firstH_some h
      exact ⟨by omega, by omega, c⟩
end DL
namespace Lw
open PySem PySem.Spec PyProof.Rows L2 DL
def topS (i : Nat) : Stmt := PySem.Challenge.pw_halfsearch_k71_texts_that_are_none.main.body.getD i (.Pass ⟨0, 0, 0, 0⟩)
def c_FIGURES : PyData := .str "0123456789"
def c_LABELS : PyData := .tuple ([("dead" : Str), ("found" : Str), ("high" : Str), ("low" : Str)].map .str)
theorem bt_ValueError : bootBuiltins "ValueError" = some (.type "ValueError") := by decide +kernel
theorem bt_all : bootBuiltins "all" = some (.builtin "all") := by decide +kernel
theorem bt_int : bootBuiltins "int" = some (.type "int") := by decide +kernel
theorem bt_isinstance : bootBuiltins "isinstance" = some (.builtin "isinstance") := by decide +kernel
theorem bt_len : bootBuiltins "len" = some (.builtin "len") := by decide +kernel
theorem bt_repr : bootBuiltins "repr" = some (.builtin "repr") := by decide +kernel
theorem bt_str : bootBuiltins "str" = some (.type "str") := by decide +kernel
structure Tx (K : PySem.W.Frag) (mg : Str → Option Value) (f : Nat → Addr) (fd : Nat → FuncData) : Prop where
  F5 : Fun K "number_of" "number_of" (topS 5) (f 5) (fd 5)
  m5 : mg "number_of" = some (.ref (f 5))
  b5 : Binds K (fd 5) ["text"] []
  F6 : Fun K "parse_list" "parse_list" (topS 6) (f 6) (fd 6)
  m6 : mg "parse_list" = some (.ref (f 6))
  b6 : Binds K (fd 6) ["text"] []
  F8 : Fun K "_law_draws" "_law_draws" (topS 8) (f 8) (fd 8)
  m8 : mg "_law_draws" = some (.ref (f 8))
  b8 : Binds K (fd 8) ["cell"] []
  F9 : Fun K "_law_next" "_law_next" (topS 9) (f 9) (fd 9)
  m9 : mg "_law_next" = some (.ref (f 9))
  b9 : Binds K (fd 9) ["draws"] []
  F10 : Fun K "_law_number" "_law_number" (topS 10) (f 10) (fd 10)
  m10 : mg "_law_number" = some (.ref (f 10))
  b10 : Binds K (fd 10) ["text"] []
  F11 : Fun K "_law_due" "_law_due" (topS 11) (f 11) (fd 11)
  m11 : mg "_law_due" = some (.ref (f 11))
  b11 : Binds K (fd 11) ["text"] []
  F12 : Fun K "_law_told" "_law_told" (topS 12) (f 12) (fd 12)
  m12 : mg "_law_told" = some (.ref (f 12))
  b12 : Binds K (fd 12) ["text"] []
  F13 : Fun K "_law_line" "_law_line" (topS 13) (f 13) (fd 13)
  m13 : mg "_law_line" = some (.ref (f 13))
  b13 : Binds K (fd 13) ["draws", "at"] []
  F14 : Fun K "_law_right" "_law_right" (topS 14) (f 14) (fd 14)
  m14 : mg "_law_right" = some (.ref (f 14))
  b14 : Binds K (fd 14) ["draws"] []
  F15 : Fun K "law" "law" (topS 15) (f 15) (fd 15)
  m15 : mg "law" = some (.ref (f 15))
  b15 : Binds K (fd 15) ["script"] []
  z_ValueError : mg "ValueError" = none
  z_all : mg "all" = none
  z_enumerate : mg "enumerate" = none
  z_int : mg "int" = none
  z_isinstance : mg "isinstance" = none
  z_len : mg "len" = none
  z_range : mg "range" = none
  z_repr : mg "repr" = none
  z_str : mg "str" = none
  e_InvalidText : ∃ fI, ExLine.Txt K mg "InvalidText.__init__" "ValueError.__new__" [.type "ValueError", .type "Exception", .type "BaseException", .type "object"] "InvalidText" (f 1) fI
  i_InvalidText : IsOkE K (f 1)
  g_InvalidText : mg "InvalidText" = some (.ref (f 1))
  a_InvalidText : PySem.W.nsIn K mainGlobals "InvalidText" = some (some (.ref (f 1)))
  xm_InvalidText_InvalidText : PySem.W.exmOne K (.ref (f 1)) (.ref (f 1)) = some true
  x_InvalidText_ValueError : PySem.W.kitOne K (.ref (f 1)) (.type "ValueError") = some true
  d_FIGURES : ∀ {X : Cx} {pos : Pos}, X.K = K → X.mg = mg → Gl X "FIGURES" → PD X (.Name "FIGURES" pos) (gC c_FIGURES)
  d_LABELS : ∀ {X : Cx} {pos : Pos}, X.K = K → X.mg = mg → Gl X "LABELS" → PD X (.Name "LABELS" pos) (gC c_LABELS)
section
variable {P : Program} {w : World} {K : PySem.W.Frag} {mg : Str → Option Value} {base : Heap} {f : Nat → Addr} {fd : Nat → FuncData}
/-! number_of -/
theorem sc_number_of : FnScope ["text", "figures", "sign"] ["text"] (defScope (topS 5)) := ⟨rfl, rfl, rfl, by decide +kernel, rfl, by decide +kernel, by decide +kernel⟩
noncomputable def g_number_of : SF :=
  (sSeq (sSet 1 (gIf (gTest (gOp fEqX (gSl (gVar 0) oNo (oInt (gC (.int 1)))) (gC (.str "-")))) (gSl (gVar 0) (oInt (gC (.int 1))) oNo) (gVar 0)))
  (sSeq (sIf (bOr (gTest (gOp fEqX (gVar 1) (gC (.str "")))) (bNot (gTru (gCB cAll (gCons (gF (fLc (iTxt (gVar 1)) (gtName 2) bYes (gOp fInS (gVar 2) (gC c_FIGURES)) [2])) gNil))))) (sRet (gC .none)) sNext)
  (sSeq (sIf (bAnd (gTest (gOp fEqX (gOp fIx (gVar 1) (gC (.int 0))) (gC (.str "0")))) (gTest (gOp fNeX (gVar 0) (gC (.str "0"))))) (sRet (gC .none)) sNext)
  (sRet (gCB cIntS (gCons (gVar 0) gNil))))))
noncomputable def F_number_of : FnF := runF 1 3 g_number_of
theorem ok_number_of (T : Tx K mg f fd) : FnOk P w K mg base CX0 1 (f 5) (fd 5) ["text"] (spD K 1 F_number_of) := by
  have sc := sc_number_of
  exact fn_rule T.F5 sc_number_of rfl (by decide) fun cdv A outer s H E hr =>
  (z_cons (z_set 1 sc.nd (dif (bcm cm_eqX (dsl (dv 0) o_no (o_int dint)) dstr (nomark _)) (dsl (dv 0) (o_int dint) o_no) (dv 0)))
  (z_cons (z_if (PBW.pb (bw_or (bcm cm_eqX (dv 1) dstr (nomark _)) (bw_or1 (bnot (btru (dcb (cr_all rfl) cs_all (by rfl) T.z_all bt_all (da_cons (dof (f_lc (own := [("sign", 2)]) (ts := [2]) rfl sc.nd (i_txt (dv 1)) (blkOk_by (N := ["text", "figures", "sign"]) (sc := defScope (topS 5)) (by decide +kernel)) (by decide) (fun _ _ _ _ _ => (t_name 2 sc.nd)) (fun _ _ _ _ _ => c_nil) (fun _ _ _ _ _ => (dcm cm_inS (dv 2) (T.d_FIGURES rfl rfl (by rfl)) (by with_unfolding_all rfl))))) da_nil))))))) (z_one (z_ret dnon)) z_nil)
  (z_cons (z_if (PBW.pb (bw_and (bcm cm_eqX (dsubs (dv 1) dint) dstr (nomark _)) (bw_and1 (bcm cm_neX (dv 0) dstr (nomark _))))) (z_one (z_ret dnon)) z_nil)
  (z_one (z_ret (dct call_int_str cs_intS (by rfl) T.z_int bt_int (da_cons (dv 0) da_nil)))))))
/-! parse_list -/
theorem sc_parse_list : FnScope ["text", "values", "labels", "lines", "node", "line", "parts"] ["text"] (defScope (topS 6)) := ⟨rfl, rfl, rfl, by decide +kernel, rfl, by decide +kernel, by decide +kernel⟩
noncomputable def g_parse_list : SF :=
  (sSeq (sSetO 1 (fLst gNil))
  (sSeq (sSetO 2 (fLst gNil))
  (sSeq (sSet 3 (gIf (gTest (gOp fNeX (gVar 0) (gC (.str "")))) (gSplit (gVar 0) (gC (.str "\n"))) (gF (fLst gNil))))
  (sSeq (sFor (iEnumD (gCons (gVar 3) gNil)) (gtTup 2 (gtCons (gtName 4) (gtCons (gtName 5) gtNil))) (sSeq (sSet 6 (gSplit (gVar 5) (gC (.str " "))))
  (sSeq (sIf (bOr (gTest (gOp fNe (gCB cLen (gCons (gVar 6) gNil)) (gC (.int 3)))) (bOr (gTest (gOp fNe (gCall F_number_of (gCons (gOp fIx (gVar 6) (gC (.int 0))) gNil)) (gVar 4))) (gTest (gOp fIsN (gCall F_number_of (gCons (gOp fIx (gVar 6) (gC (.int 1))) gNil)) (gC .none))))) sNever sNext)
  (sSeq (sIf (gTest (gOp fNotInV (gOp fIx (gVar 6) (gC (.int 2))) (gC c_LABELS))) sNever sNext)
  (sSeq (sApp 1 (gCall F_number_of (gCons (gOp fIx (gVar 6) (gC (.int 1))) gNil)))
  (sApp 2 (gOp fIx (gVar 6) (gC (.int 2)))))))))
  (sRet (gTup (gCons (gVar 1) (gCons (gVar 2) gNil))))))))
noncomputable def F_parse_list : FnF := runF 1 7 g_parse_list
theorem ok_parse_list (T : Tx K mg f fd) : FnOk P w K mg base CX0 3 (f 6) (fd 6) ["text"] (spD K 1 F_parse_list) := by
  have sc := sc_parse_list
  exact fn_rule T.F6 sc_parse_list rfl (by decide) fun cdv A outer s H E hr =>
  (z_cons (z_setO 1 sc.nd (flst da_nil))
  (z_cons (z_setO 2 sc.nd (flst da_nil))
  (z_cons (z_set 3 sc.nd (dif (bcm cm_neX (dv 0) dstr (nomark _)) (d_split (dv 0) dstr) (dof (flst da_nil))))
  (z_cons (z_for PassesOwn.never rfl (i_enum (by rfl) T.z_enumerate (da_cons (dv 3) da_nil)) (t_tup rfl (ts_cons (t_name 4 sc.nd) (ts_cons (t_name 5 sc.nd) ts_nil))) (z_cons (z_set 6 sc.nd (d_split (dv 5) dstr))
  (z_cons (z_if (PBW.pb (bw_or (bcm (cm_ne hr) (dcb call_len cs_len (by rfl) T.z_len bt_len (da_cons (dv 6) da_nil)) dint (nomark _)) (bw_or (bcm (cm_ne hr) (dcall (ok_number_of T) (hr.mono (by decide)) (by rfl) T.m5 T.F5.kp T.b5 (da_cons (dsubs (dv 6) dint) da_nil) (len_cons len_nil)) (dv 4) (nomark _)) (bw_or1 (bcm cm_is (dcall (ok_number_of T) (hr.mono (by decide)) (by rfl) T.m5 T.F5.kp T.b5 (da_cons (dsubs (dv 6) dint) da_nil) (len_cons len_nil)) dnon (nomark _)))))) (z_one z_never) z_nil)
  (z_cons (z_if (bcm cm_notinV (dsubs (dv 6) dint) (T.d_LABELS rfl rfl (by rfl)) (by with_unfolding_all rfl)) (z_one z_never) z_nil)
  (z_cons (z_app 1 (dcall (ok_number_of T) (hr.mono (by decide)) (by rfl) T.m5 T.F5.kp T.b5 (da_cons (dsubs (dv 6) dint) da_nil) (len_cons len_nil)))
  (z_one (z_app 2 (dsubs (dv 6) dint))))))))
  (z_one (z_ret (dtup (da_cons (dv 1) (da_cons (dv 2) da_nil)))))))))
/-! parse_list, raising -/
noncomputable def gX_parse_list : XFn :=
  (xNext (sSetO 1 (fLst gNil)) (xNext (sSetO 2 (fLst gNil)) (xNext (sSet 3 (gIf (gTest (gOp fNeX (gVar 0) (gC (.str "")))) (gSplit (gVar 0) (gC (.str "\n"))) (gF (fLst gNil)))) (xFor (iEnumD (gCons (gVar 3) gNil)) (gtTup 2 (gtCons (gtName 4) (gtCons (gtName 5) gtNil))) (xNext (sSet 6 (gSplit (gVar 5) (gC (.str " ")))) (xOr (xIf (bOr (gTest (gOp fNe (gCB cLen (gCons (gVar 6) gNil)) (gC (.int 3)))) (bOr (gTest (gOp fNe (gCall F_number_of (gCons (gOp fIx (gVar 6) (gC (.int 0))) gNil)) (gVar 4))) (gTest (gOp fIsN (gCall F_number_of (gCons (gOp fIx (gVar 6) (gC (.int 1))) gNil)) (gC .none))))) (xRaise "InvalidText" "line" (gOp fAdd (gVar 4) (gC (.int 1)))) xNo) (xNext (sIf (bOr (gTest (gOp fNe (gCB cLen (gCons (gVar 6) gNil)) (gC (.int 3)))) (bOr (gTest (gOp fNe (gCall F_number_of (gCons (gOp fIx (gVar 6) (gC (.int 0))) gNil)) (gVar 4))) (gTest (gOp fIsN (gCall F_number_of (gCons (gOp fIx (gVar 6) (gC (.int 1))) gNil)) (gC .none))))) sNever sNext) (xIf (gTest (gOp fNotInV (gOp fIx (gVar 6) (gC (.int 2))) (gC c_LABELS))) (xRaise "InvalidText" "line" (gOp fAdd (gVar 4) (gC (.int 1)))) xNo)))) (sSeq (sSet 6 (gSplit (gVar 5) (gC (.str " "))))
  (sSeq (sIf (bOr (gTest (gOp fNe (gCB cLen (gCons (gVar 6) gNil)) (gC (.int 3)))) (bOr (gTest (gOp fNe (gCall F_number_of (gCons (gOp fIx (gVar 6) (gC (.int 0))) gNil)) (gVar 4))) (gTest (gOp fIsN (gCall F_number_of (gCons (gOp fIx (gVar 6) (gC (.int 1))) gNil)) (gC .none))))) sNever sNext)
  (sSeq (sIf (gTest (gOp fNotInV (gOp fIx (gVar 6) (gC (.int 2))) (gC c_LABELS))) sNever sNext)
  (sSeq (sApp 1 (gCall F_number_of (gCons (gOp fIx (gVar 6) (gC (.int 1))) gNil)))
  (sApp 2 (gOp fIx (gVar 6) (gC (.int 2))))))))))))
noncomputable def X_parse_list : XFn := runX 1 7 gX_parse_list
theorem okX_parse_list (T : Tx K mg f fd) : FnOk P w K mg base (L2.CX P w) 3 (f 6) (fd 6) ["text"] (spX K 1 X_parse_list) := by
  have sc := sc_parse_list
  exact fn_ruleX T.F6 sc_parse_list rfl (by decide) fun cdv A outer s H E hr =>
  (xs_next (fr := false) (z_setO 1 sc.nd (flst da_nil)) (xs_next (fr := false) (z_setO 2 sc.nd (flst da_nil)) (xs_next (fr := false) (z_set 3 sc.nd (dif (bcm cm_neX (dv 0) dstr (nomark _)) (d_split (dv 0) dstr) (dof (flst da_nil)))) (xs_head (x_for (fr := false) (passes_of rfl) rfl (i_enum (by rfl) T.z_enumerate (da_cons (dv 3) da_nil)) (t_tup rfl (ts_cons (t_name 4 sc.nd) (ts_cons (t_name 5 sc.nd) ts_nil))) (xs_next (fr := false) (z_set 6 sc.nd (d_split (dv 5) dstr)) (xs_or (xs_head (x_if (PBW.pb (bw_or (bcm (cm_ne hr) (dcb call_len cs_len (by rfl) T.z_len bt_len (da_cons (dv 6) da_nil)) dint (nomark _)) (bw_or (bcm (cm_ne hr) (dcall (ok_number_of T) (hr.mono (by decide)) (by rfl) T.m5 T.F5.kp T.b5 (da_cons (dsubs (dv 6) dint) da_nil) (len_cons len_nil)) (dv 4) (nomark _)) (bw_or1 (bcm cm_is (dcall (ok_number_of T) (hr.mono (by decide)) (by rfl) T.m5 T.F5.kp T.b5 (da_cons (dsubs (dv 6) dint) da_nil) (len_cons len_nil)) dnon (nomark _)))))) (xs_head (x_raise rfl T.a_InvalidText (ExLine.d_mk PySem.F.excBase_ValueError PySem.F.store_ValueError T.e_InvalidText hr (by decide) (dadd (dv 4) dint) (by rfl)))) xs_no)) (xs_next (fr := false) (z_if (PBW.pb (bw_or (bcm (cm_ne hr) (dcb call_len cs_len (by rfl) T.z_len bt_len (da_cons (dv 6) da_nil)) dint (nomark _)) (bw_or (bcm (cm_ne hr) (dcall (ok_number_of T) (hr.mono (by decide)) (by rfl) T.m5 T.F5.kp T.b5 (da_cons (dsubs (dv 6) dint) da_nil) (len_cons len_nil)) (dv 4) (nomark _)) (bw_or1 (bcm cm_is (dcall (ok_number_of T) (hr.mono (by decide)) (by rfl) T.m5 T.F5.kp T.b5 (da_cons (dsubs (dv 6) dint) da_nil) (len_cons len_nil)) dnon (nomark _)))))) (z_one z_never) z_nil) (xs_head (x_if (bcm cm_notinV (dsubs (dv 6) dint) (T.d_LABELS rfl rfl (by rfl)) (by with_unfolding_all rfl)) (xs_head (x_raise rfl T.a_InvalidText (ExLine.d_mk PySem.F.excBase_ValueError PySem.F.store_ValueError T.e_InvalidText hr (by decide) (dadd (dv 4) dint) (by rfl)))) xs_no))))) (z_cons (z_set 6 sc.nd (d_split (dv 5) dstr))
  (z_cons (z_if (PBW.pb (bw_or (bcm (cm_ne hr) (dcb call_len cs_len (by rfl) T.z_len bt_len (da_cons (dv 6) da_nil)) dint (nomark _)) (bw_or (bcm (cm_ne hr) (dcall (ok_number_of T) (hr.mono (by decide)) (by rfl) T.m5 T.F5.kp T.b5 (da_cons (dsubs (dv 6) dint) da_nil) (len_cons len_nil)) (dv 4) (nomark _)) (bw_or1 (bcm cm_is (dcall (ok_number_of T) (hr.mono (by decide)) (by rfl) T.m5 T.F5.kp T.b5 (da_cons (dsubs (dv 6) dint) da_nil) (len_cons len_nil)) dnon (nomark _)))))) (z_one z_never) z_nil)
  (z_cons (z_if (bcm cm_notinV (dsubs (dv 6) dint) (T.d_LABELS rfl rfl (by rfl)) (by with_unfolding_all rfl)) (z_one z_never) z_nil)
  (z_cons (z_app 1 (dcall (ok_number_of T) (hr.mono (by decide)) (by rfl) T.m5 T.F5.kp T.b5 (da_cons (dsubs (dv 6) dint) da_nil) (len_cons len_nil)))
  (z_one (z_app 2 (dsubs (dv 6) dint))))))))))))
/-! _law_draws, a new list -/
theorem sc__law_draws : FnScope ["cell"] ["cell"] (defScope (topS 8)) := ⟨rfl, rfl, rfl, by decide +kernel, rfl, by decide +kernel, by decide +kernel⟩
noncomputable def gR__law_draws : SF :=
  (sRetF (fLst (gCons (gOp fMod (gCB cInt (gCons (gVar 0) gNil)) (gOp fPow (gOp fPow (gOp fPow (gC (.int 10)) (gC (.int 60))) (gC (.int 60))) (gC (.int 4)))) (gCons (gC (.int 0)) (gCons (gOp fGe (gVar 0) (gOp fPow (gC (.int 10)) (gC (.int 18)))) gNil)))))
noncomputable def R__law_draws : FnF := runR 1 1 gR__law_draws
theorem okR__law_draws (T : Tx K mg f fd) : FnOk P w K mg base CX0 1 (f 8) (fd 8) ["cell"] (spF K 1 R__law_draws) := by
  have sc := sc__law_draws
  exact fn_ruleR T.F8 sc__law_draws rfl (by decide) fun cdv A outer s H E hr =>
  (z_one (z_retF (flst (da_cons (dmod (dct call_int1 cs_int (by rfl) T.z_int bt_int (da_cons (dv 0) da_nil)) (dpow (dpow (dpow dint dint) dint) dint)) (da_cons dint (da_cons (dcm cm_ge (dv 0) (dpow dint dint) (nomark _)) da_nil))))))
/-! _law_next -/
theorem sc__law_next : FnScope ["draws", "k", "number"] ["draws"] (defScope (topS 9)) := ⟨rfl, rfl, rfl, by decide +kernel, rfl, by decide +kernel, by decide +kernel⟩
noncomputable def g__law_next : SF :=
  (sSeq (sPutIx 0 (gOp fAdd (gOp fIx (gVar 0) (gC (.int 1))) (gC (.int 1))) (gC (.int 1)))
  (sSeq (sSet 1 (gOp fIx (gVar 0) (gC (.int 1))))
  (sSeq (sIf (gTru (gOp fIx (gVar 0) (gC (.int 2)))) (sSeq (sSet 2 (gOp fMod (gCB cInt (gCons (gOp fIx (gVar 0) (gC (.int 0))) gNil)) (gOp fPow (gC (.int 10)) (gC (.int 6)))))
  (sSeq (sPutIx 0 (gOp fDiv (gOp fIx (gVar 0) (gC (.int 0))) (gOp fPow (gC (.int 10)) (gC (.int 6)))) (gC (.int 0)))
  (sRet (gVar 2)))) sNext)
  (sSeq (sSet 2 (gOp fMod (gCB cInt (gCons (gOp fMul (gOp fAdd (gOp fAdd (gOp fMod (gCB cInt (gCons (gOp fIx (gVar 0) (gC (.int 0))) gNil)) (gC (.int 1000003))) (gOp fMul (gOp fMul (gVar 1) (gVar 1)) (gC (.int 7919)))) (gVar 1)) (gC (.int 48271))) gNil)) (gC (.int 2147483629))))
  (sSeq (sSet 2 (gOp fMod (gCB cInt (gCons (gOp fMul (gVar 2) (gVar 2)) gNil)) (gC (.int 2147483587))))
  (sRet (gOp fDiv (gOp fMod (gCB cInt (gCons (gOp fMul (gVar 2) (gOp fAdd (gVar 2) (gC (.int 2)))) gNil)) (gC (.int 2147483579))) (gC (.int 7)))))))))
noncomputable def F__law_next : FnF := runF 1 3 g__law_next
theorem ok__law_next (T : Tx K mg f fd) : FnOk P w K mg base CX0 1 (f 9) (fd 9) ["draws"] (spD K 1 F__law_next) := by
  have sc := sc__law_next
  exact fn_rule T.F9 sc__law_next rfl (by decide) fun cdv A outer s H E hr =>
  (z_cons (z_putIx 0 (dadd (dsubs (dv 0) dint) dint) dint)
  (z_cons (z_set 1 sc.nd (dsubs (dv 0) dint))
  (z_cons (z_if (btru (dsubs (dv 0) dint)) (z_cons (z_set 2 sc.nd (dmod (dct call_int1 cs_int (by rfl) T.z_int bt_int (da_cons (dsubs (dv 0) dint) da_nil)) (dpow dint dint)))
  (z_cons (z_putIx 0 (ddiv (dsubs (dv 0) dint) (dpow dint dint)) dint)
  (z_one (z_ret (dv 2))))) z_nil)
  (z_cons (z_set 2 sc.nd (dmod (dct call_int1 cs_int (by rfl) T.z_int bt_int (da_cons (dmul (dadd (dadd (dmod (dct call_int1 cs_int (by rfl) T.z_int bt_int (da_cons (dsubs (dv 0) dint) da_nil)) dint) (dmul (dmul (dv 1) (dv 1)) dint)) (dv 1)) dint) da_nil)) dint))
  (z_cons (z_set 2 sc.nd (dmod (dct call_int1 cs_int (by rfl) T.z_int bt_int (da_cons (dmul (dv 2) (dv 2)) da_nil)) dint))
  (z_one (z_ret (ddiv (dmod (dct call_int1 cs_int (by rfl) T.z_int bt_int (da_cons (dmul (dv 2) (dadd (dv 2) dint)) da_nil)) dint) dint))))))))
/-! _law_number -/
theorem sc__law_number : FnScope ["text", "rest", "sign"] ["text"] (defScope (topS 10)) := ⟨rfl, rfl, rfl, by decide +kernel, rfl, by decide +kernel, by decide +kernel⟩
noncomputable def g__law_number : SF :=
  (sSeq (sSet 1 (gIf (gTest (gOp fEqX (gSl (gVar 0) oNo (oInt (gC (.int 1)))) (gC (.str "-")))) (gSl (gVar 0) (oInt (gC (.int 1))) oNo) (gVar 0)))
  (sSeq (sIf (bOr (gTest (gOp fEqX (gVar 1) (gC (.str "")))) (gTest (gOp fNe0 (gF (fLc (iTxt (gVar 1)) (gtName 2) (gTest (gOp fNotInS (gVar 2) (gC (.str "0123456789")))) (gVar 2) [2])) (gF (fLst gNil))))) (sRet (gC .none)) sNext)
  (sRet (gIf (bAnd (gTest (gOp fEqX (gOp fIx (gVar 1) (gC (.int 0))) (gC (.str "0")))) (gTest (gOp fNeX (gVar 0) (gC (.str "0"))))) (gC .none) (gCB cIntS (gCons (gVar 0) gNil))))))
noncomputable def F__law_number : FnF := runF 1 3 g__law_number
theorem ok__law_number (T : Tx K mg f fd) : FnOk P w K mg base CX0 1 (f 10) (fd 10) ["text"] (spD K 1 F__law_number) := by
  have sc := sc__law_number
  exact fn_rule T.F10 sc__law_number rfl (by decide) fun cdv A outer s H E hr =>
  (z_cons (z_set 1 sc.nd (dif (bcm cm_eqX (dsl (dv 0) o_no (o_int dint)) dstr (nomark _)) (dsl (dv 0) (o_int dint) o_no) (dv 0)))
  (z_cons (z_if (PBW.pb (bw_or (bcm cm_eqX (dv 1) dstr (nomark _)) (bw_or1 (bcm (cm_ne0 hr) (dof (f_lc (own := [("sign", 2)]) (ts := [2]) rfl sc.nd (i_txt (dv 1)) (blkOk_by (N := ["text", "rest", "sign"]) (sc := defScope (topS 10)) (by decide +kernel)) (by decide) (fun _ _ _ _ _ => (t_name 2 sc.nd)) (fun _ _ _ _ _ => (c_one (bcm cm_notinS (dv 2) dstr (by with_unfolding_all rfl)))) (fun _ _ _ _ _ => (dv 2)))) (dof (flst da_nil)) (nomark _))))) (z_one (z_ret dnon)) z_nil)
  (z_one (z_ret (dif (PBW.pb (bw_and (bcm cm_eqX (dsubs (dv 1) dint) dstr (nomark _)) (bw_and1 (bcm cm_neX (dv 0) dstr (nomark _))))) dnon (dct call_int_str cs_intS (by rfl) T.z_int bt_int (da_cons (dv 0) da_nil)))))))
/-! _law_due -/
theorem sc__law_due : FnScope ["text", "values", "words", "at", "line", "parts"] ["text"] (defScope (topS 11)) := ⟨rfl, rfl, rfl, by decide +kernel, rfl, by decide +kernel, by decide +kernel⟩
noncomputable def g__law_due : SF :=
  (sSeq (sSetO 1 (fLst gNil))
  (sSeq (sSetO 2 (fLst gNil))
  (sSeq (sFor (iEnumD (gCons (gIf (gTest (gOp fNeX (gVar 0) (gC (.str "")))) (gSplit (gVar 0) (gC (.str "\n"))) (gF (fLst gNil))) gNil)) (gtTup 2 (gtCons (gtName 3) (gtCons (gtName 4) gtNil))) (sSeq (sSet 5 (gSplit (gVar 4) (gC (.str " "))))
  (sSeq (sIf (bOr (gTest (gOp fNe (gCB cLen (gCons (gVar 5) gNil)) (gC (.int 3)))) (bOr (gTest (gOp fNeX (gOp fIx (gVar 5) (gC (.int 0))) (gCB cStr (gCons (gVar 3) gNil)))) (gTest (gOp fIsN (gCall F__law_number (gCons (gOp fIx (gVar 5) (gC (.int 1))) gNil)) (gC .none))))) (sRet (gF (fLst (gCons (gC (.str "raised")) (gCons (gOp fAdd (gVar 3) (gC (.int 1))) gNil))))) sNext)
  (sSeq (sIf (gTest (gOp fNotInV (gOp fIx (gVar 5) (gC (.int 2))) (gF (fLst (gCons (gC (.str "dead")) (gCons (gC (.str "found")) (gCons (gC (.str "high")) (gCons (gC (.str "low")) gNil)))))))) (sRet (gF (fLst (gCons (gC (.str "raised")) (gCons (gOp fAdd (gVar 3) (gC (.int 1))) gNil))))) sNext)
  (sSeq (sApp 1 (gCall F__law_number (gCons (gOp fIx (gVar 5) (gC (.int 1))) gNil)))
  (sApp 2 (gOp fIx (gVar 5) (gC (.int 2)))))))))
  (sRet (gF (fLst (gCons (gC (.str "told")) (gCons (gTup (gCons (gVar 1) (gCons (gVar 2) gNil))) gNil))))))))
noncomputable def F__law_due : FnF := runF 1 6 g__law_due
theorem ok__law_due (T : Tx K mg f fd) : FnOk P w K mg base CX0 2 (f 11) (fd 11) ["text"] (spD K 1 F__law_due) := by
  have sc := sc__law_due
  exact fn_rule T.F11 sc__law_due rfl (by decide) fun cdv A outer s H E hr =>
  (z_cons (z_setO 1 sc.nd (flst da_nil))
  (z_cons (z_setO 2 sc.nd (flst da_nil))
  (z_cons (z_for PassesOwn.never rfl (i_enum (by rfl) T.z_enumerate (da_cons (dif (bcm cm_neX (dv 0) dstr (nomark _)) (d_split (dv 0) dstr) (dof (flst da_nil))) da_nil)) (t_tup rfl (ts_cons (t_name 3 sc.nd) (ts_cons (t_name 4 sc.nd) ts_nil))) (z_cons (z_set 5 sc.nd (d_split (dv 4) dstr))
  (z_cons (z_if (PBW.pb (bw_or (bcm (cm_ne hr) (dcb call_len cs_len (by rfl) T.z_len bt_len (da_cons (dv 5) da_nil)) dint (nomark _)) (bw_or (bcm cm_neX (dsubs (dv 5) dint) (dct call_str_int cs_str (by rfl) T.z_str bt_str (da_cons (dv 3) da_nil)) (nomark _)) (bw_or1 (bcm cm_is (dcall (ok__law_number T) (hr.mono (by decide)) (by rfl) T.m10 T.F10.kp T.b10 (da_cons (dsubs (dv 5) dint) da_nil) (len_cons len_nil)) dnon (nomark _)))))) (z_one (z_ret (dof (flst (da_cons dstr (da_cons (dadd (dv 3) dint) da_nil)))))) z_nil)
  (z_cons (z_if (bcm cm_notinV (dsubs (dv 5) dint) (dof (flst (da_cons dstr (da_cons dstr (da_cons dstr (da_cons dstr da_nil)))))) (by with_unfolding_all rfl)) (z_one (z_ret (dof (flst (da_cons dstr (da_cons (dadd (dv 3) dint) da_nil)))))) z_nil)
  (z_cons (z_app 1 (dcall (ok__law_number T) (hr.mono (by decide)) (by rfl) T.m10 T.F10.kp T.b10 (da_cons (dsubs (dv 5) dint) da_nil) (len_cons len_nil)))
  (z_one (z_app 2 (dsubs (dv 5) dint))))))))
  (z_one (z_ret (dof (flst (da_cons dstr (da_cons (dtup (da_cons (dv 1) (da_cons (dv 2) da_nil))) da_nil)))))))))
/-! _law_told -/
theorem sc__law_told : FnScope ["text", "kept", "told", "e"] ["text"] (defScope (topS 12)) := ⟨rfl, rfl, rfl, by decide +kernel, rfl, by decide +kernel, by decide +kernel⟩
noncomputable def g__law_told : SF :=
  (sSeq (sSet 1 (gC .none))
  (sSeq (sSet 2 (gC .none))
  (sSeq (sTry ["InvalidText"] 3 1 (xCall X_parse_list (gCons (gVar 0) gNil)) (sSet 2 (gCall F_parse_list (gCons (gVar 0) gNil))))
  (sSeq (sIf (gTest (gOp fIsN (gVar 1) (gC .none))) (sRet (gF (fLst (gCons (gC (.str "told")) (gCons (gVar 2) gNil))))) sNext)
  (sRet (gIf (gTru (gIsE [("InvalidText", true)] (gVar 1))) (gF (fLst (gCons (gC (.str "raised")) (gCons (gFld "line" ["InvalidText"] (gVar 1)) gNil)))) (gF (fLst (gCons (gC (.str "other")) gNil)))))))))
noncomputable def F__law_told : FnF := runF 1 4 g__law_told
theorem ok__law_told (T : Tx K mg f fd) : FnOk P w K mg base CX0 4 (f 12) (fd 12) ["text"] (spD K 1 F__law_told) := by
  have sc := sc__law_told
  exact fn_rule T.F12 sc__law_told rfl (by decide) fun cdv A outer s H E hr =>
  (z_cons (z_set 1 sc.nd dnon)
  (z_cons (z_set 2 sc.nd dnon)
  (z_cons (z_try 3 1 rfl rfl rfl sc.nd rfl (tab_cons (hits_of T.a_InvalidText (hits_name (by rfl) T.g_InvalidText T.xm_InvalidText_InvalidText)) tab_nil) (tx_set 2 sc.nd (txe_call (okX_parse_list T) (hr.mono (by decide)) (by rfl) T.m6 T.F6.kp T.b6 (ta_var 0 ta_nil) (len_cons len_nil))) (z_one (z_set 2 sc.nd (dcall (ok_parse_list T) (hr.mono (by decide)) (by rfl) T.m6 T.F6.kp T.b6 (da_cons (dv 0) da_nil) (len_cons len_nil)))))
  (z_cons (z_if (bcm cm_is (dv 1) dnon (nomark _)) (z_one (z_ret (dof (flst (da_cons dstr (da_cons (dv 2) da_nil)))))) z_nil)
  (z_one (z_ret (dif (btru (d_isE (by rfl) T.z_isinstance bt_isinstance (by rfl) T.z_ValueError bt_ValueError (dv 1) (tab2_cons (e_is2 T.a_InvalidText T.i_InvalidText T.x_InvalidText_ValueError) tab2_nil))) (dof (flst (da_cons dstr (da_cons (d_fld (dv 1) (tab_cons (ExLine.e_fld T.e_InvalidText) tab_nil)) da_nil)))) (dof (flst (da_cons dstr da_nil))))))))))
/-! _law_line -/
theorem sc__law_line : FnScope ["draws", "at", "pick", "number", "word", "sign"] ["draws", "at"] (defScope (topS 13)) := ⟨rfl, rfl, rfl, by decide +kernel, rfl, by decide +kernel, by decide +kernel⟩
noncomputable def g__law_line : SF :=
  (sSeq (sSet 2 (gCall F__law_next (gCons (gVar 0) gNil)))
  (sSeq (sSet 3 (gOp fIx (gF (fLst (gCons (gC (.str "0")) (gCons (gC (.str "7")) (gCons (gC (.str "-7")) (gCons (gC (.str "12")) (gCons (gC (.str "-0")) (gCons (gC (.str "007")) (gCons (gC (.str "")) (gCons (gC (.str "+3")) (gCons (gC (.str "3.")) (gCons (gC (.str "--2")) (gCons (gC (.str "1_0")) (gCons (gC (.str "5:")) gNil)))))))))))))) (gOp fMod (gCB cInt (gCons (gVar 2) gNil)) (gC (.int 12)))))
  (sSeq (sSet 4 (gOp fIx (gF (fLst (gCons (gC (.str "found")) (gCons (gC (.str "low")) (gCons (gC (.str "high")) (gCons (gC (.str "dead")) (gCons (gC (.str "Found")) (gCons (gC (.str "lost")) (gCons (gC (.str "")) gNil))))))))) (gOp fMul (gOp fMod (gCB cInt (gCons (gOp fDiv (gVar 2) (gC (.int 12))) gNil)) (gC (.int 7))) (gCB cInt (gCons (gOp fLt (gOp fMod (gCB cInt (gCons (gVar 2) gNil)) (gC (.int 5))) (gC (.int 3))) gNil)))))
  (sSeq (sSet 5 (gIf (gTest (gOp fEq (gOp fMod (gCB cInt (gCons (gVar 2) gNil)) (gC (.int 31))) (gC (.int 0)))) (gOp fIx (gF (fLst (gCons (gC (.str "  ")) (gCons (gC (.str "/")) (gCons (gC (.str "")) gNil))))) (gOp fMod (gCB cInt (gCons (gOp fDiv (gVar 2) (gC (.int 84))) gNil)) (gC (.int 3)))) (gC (.str " "))))
  (sSeq (sIf (bAnd (gTest (gOp fGe (gOp fMod (gCB cInt (gCons (gVar 2) gNil)) (gC (.int 12))) (gC (.int 4)))) (gTest (gOp fGt (gOp fMod (gCB cInt (gCons (gVar 2) gNil)) (gC (.int 7))) (gC (.int 0))))) (sSet 3 (gC (.str "5"))) sNext)
  (sRet (gOp fAdd (gOp fAdd (gOp fAdd (gOp fAdd (gCB cStr (gCons (gVar 1) gNil)) (gVar 5)) (gVar 3)) (gC (.str " "))) (gVar 4))))))))
noncomputable def F__law_line : FnF := runF 2 6 g__law_line
theorem ok__law_line (T : Tx K mg f fd) : FnOk P w K mg base CX0 2 (f 13) (fd 13) ["draws", "at"] (spD K 2 F__law_line) := by
  have sc := sc__law_line
  exact fn_rule T.F13 sc__law_line rfl (by decide) fun cdv A outer s H E hr =>
  (z_cons (z_set 2 sc.nd (dcall (ok__law_next T) (hr.mono (by decide)) (by rfl) T.m9 T.F9.kp T.b9 (da_cons (dv 0) da_nil) (len_cons len_nil)))
  (z_cons (z_set 3 sc.nd (dsubs (dof (flst (da_cons dstr (da_cons dstr (da_cons dstr (da_cons dstr (da_cons dstr (da_cons dstr (da_cons dstr (da_cons dstr (da_cons dstr (da_cons dstr (da_cons dstr (da_cons dstr da_nil)))))))))))))) (dmod (dct call_int1 cs_int (by rfl) T.z_int bt_int (da_cons (dv 2) da_nil)) dint)))
  (z_cons (z_set 4 sc.nd (dsubs (dof (flst (da_cons dstr (da_cons dstr (da_cons dstr (da_cons dstr (da_cons dstr (da_cons dstr (da_cons dstr da_nil))))))))) (dmul (dmod (dct call_int1 cs_int (by rfl) T.z_int bt_int (da_cons (ddiv (dv 2) dint) da_nil)) dint) (dct call_int1 cs_int (by rfl) T.z_int bt_int (da_cons (dcm cm_lt (dmod (dct call_int1 cs_int (by rfl) T.z_int bt_int (da_cons (dv 2) da_nil)) dint) dint (nomark _)) da_nil)))))
  (z_cons (z_set 5 sc.nd (dif (bcm (cm_eq hr) (dmod (dct call_int1 cs_int (by rfl) T.z_int bt_int (da_cons (dv 2) da_nil)) dint) dint (nomark _)) (dsubs (dof (flst (da_cons dstr (da_cons dstr (da_cons dstr da_nil))))) (dmod (dct call_int1 cs_int (by rfl) T.z_int bt_int (da_cons (ddiv (dv 2) dint) da_nil)) dint)) dstr))
  (z_cons (z_if (PBW.pb (bw_and (bcm cm_ge (dmod (dct call_int1 cs_int (by rfl) T.z_int bt_int (da_cons (dv 2) da_nil)) dint) dint (nomark _)) (bw_and1 (bcm cm_gt (dmod (dct call_int1 cs_int (by rfl) T.z_int bt_int (da_cons (dv 2) da_nil)) dint) dint (nomark _))))) (z_one (z_set 3 sc.nd dstr)) z_nil)
  (z_one (z_ret (dadd (dadd (dadd (dadd (dct call_str_int cs_str (by rfl) T.z_str bt_str (da_cons (dv 1) da_nil)) (dv 5)) (dv 3)) dstr) (dv 4)))))))))
/-! _law_right -/
theorem sc__law_right : FnScope ["draws", "lines", "k", "pick", "at", "text", "sign"] ["draws"] (defScope (topS 14)) := ⟨rfl, rfl, rfl, by decide +kernel, rfl, by decide +kernel, by decide +kernel⟩
noncomputable def g__law_right : SF :=
  (sSeq (sSet 1 (gF (fLc (iRange1 (gCons (gOp fMod (gCB cInt (gCons (gCall F__law_next (gCons (gVar 0) gNil)) gNil)) (gC (.int 13))) gNil)) (gtName 4) bYes (gCall F__law_line (gCons (gVar 0) (gCons (gVar 4) gNil))) [4])))
  (sSeq (sFor (iRange1 (gCons (gOp fMod (gCB cInt (gCons (gCall F__law_next (gCons (gVar 0) gNil)) gNil)) (gC (.int 3))) gNil)) (gtName 2) (sSeq (sSet 3 (gCall F__law_next (gCons (gVar 0) gNil)))
  (sSeq (sSet 4 (gOp fMod (gCB cInt (gCons (gOp fDiv (gVar 3) (gC (.int 8))) gNil)) (gOp fAdd (gCB cLen (gCons (gVar 1) gNil)) (gC (.int 1)))))
  (sSeq (sIf (gTest (gOp fEq (gOp fMod (gCB cInt (gCons (gVar 3) gNil)) (gC (.int 8))) (gC (.int 0)))) (sSet 1 (gOp fAdd (gSl (gVar 1) oNo (oInt (gVar 4))) (gSl (gVar 1) (oInt (gOp fAdd (gVar 4) (gC (.int 1)))) oNo))) sNext)
  (sSeq (sIf (gTest (gOp fEq (gOp fMod (gCB cInt (gCons (gVar 3) gNil)) (gC (.int 8))) (gC (.int 1)))) (sSet 1 (gOp fAdd (gOp fAdd (gSl (gVar 1) oNo (oInt (gVar 4))) (gF (fLst (gCons (gOp fIx (gF (fLst (gCons (gC (.str "")) (gCons (gC (.str " ")) (gCons (gC (.str "0 1 low")) (gCons (gC (.str "1 1 found")) (gCons (gC (.str "0 1 low ")) gNil))))))) (gOp fMod (gCB cInt (gCons (gOp fDiv (gVar 3) (gC (.int 128))) gNil)) (gC (.int 5)))) gNil)))) (gSl (gVar 1) (oInt (gVar 4)) oNo))) sNext)
  (sIf (gTest (gOp fEq (gOp fMod (gCB cInt (gCons (gVar 3) gNil)) (gC (.int 8))) (gC (.int 2)))) (sSet 1 (gOp fAdd (gOp fAdd (gSl (gVar 1) oNo (oInt (gVar 4))) (gSl (gVar 1) (oInt (gOp fSub (gVar 4) (gC (.int 1)))) (oInt (gVar 4)))) (gSl (gVar 1) (oInt (gVar 4)) oNo))) sNext))))))
  (sSeq (sSet 5 (gJoin (gC (.str "\n")) (gVar 1)))
  (sSeq (sSet 3 (gCall F__law_next (gCons (gVar 0) gNil)))
  (sSeq (sSet 4 (gOp fMod (gCB cInt (gCons (gOp fDiv (gVar 3) (gC (.int 4))) gNil)) (gOp fAdd (gCB cLen (gCons (gVar 5) gNil)) (gC (.int 1)))))
  (sSeq (sIf (gTest (gOp fEq (gOp fMod (gCB cInt (gCons (gVar 3) gNil)) (gC (.int 4))) (gC (.int 0)))) (sSeq (sSet 6 (gOp fIx (gF (fLst (gCons (gC (.str " ")) (gCons (gC (.str "\n")) (gCons (gC (.str "0")) (gCons (gC (.str "-")) (gCons (gC (.str "x")) (gCons (gC (.str "f")) (gCons (gC (.str "+")) (gCons (gC (.str "_")) (gCons (gC (.str ":")) (gCons (gC (.str "/")) gNil)))))))))))) (gOp fMod (gCB cInt (gCons (gOp fDiv (gVar 3) (gC (.int 64))) gNil)) (gC (.int 10)))))
  (sSet 5 (gOp fAdd (gOp fAdd (gSl (gVar 5) oNo (oInt (gVar 4))) (gVar 6)) (gSl (gVar 5) (oInt (gVar 4)) oNo)))) sNext)
  (sSeq (sIf (gTest (gOp fEq (gOp fMod (gCB cInt (gCons (gVar 3) gNil)) (gC (.int 4))) (gC (.int 1)))) (sSet 5 (gOp fAdd (gSl (gVar 5) oNo (oInt (gVar 4))) (gSl (gVar 5) (oInt (gOp fAdd (gVar 4) (gC (.int 1)))) oNo))) sNext)
  (sRet (gOp fEqX (gRepD (gCall F__law_told (gCons (gVar 5) gNil))) (gRepD (gCall F__law_due (gCons (gVar 5) gNil))))))))))))
noncomputable def F__law_right : FnF := runF 1 7 g__law_right
theorem ok__law_right (T : Tx K mg f fd) : FnG P w K mg base 5 (f 14) (fd 14) ["draws"] (spD K 1 F__law_right) := by
  have sc := sc__law_right
  exact fn_ruleG T.F14 sc__law_right rfl (by decide) fun cdv A outer s H E hq hr =>
  (z_cons (z_setLc 1 (own := [("at", 4)]) (ts := [4]) rfl sc.nd (i_range1 (by rfl) T.z_range (da_cons (dmod (dct call_int1 cs_int (by rfl) T.z_int bt_int (da_cons (dcall (ok__law_next T) (hr.mono (by decide)) (by rfl) T.m9 T.F9.kp T.b9 (da_cons (dv 0) da_nil) (len_cons len_nil)) da_nil)) dint) da_nil)) (blkOk_by (N := ["draws", "lines", "k", "pick", "at", "text", "sign"]) (sc := defScope (topS 14)) (by decide +kernel)) (by decide) (fun _ _ _ _ _ => (t_name 4 sc.nd)) (fun _ _ _ _ _ => c_nil) (fun _ _ _ _ _ => (dcall (ok__law_line T) (hr.mono (by decide)) (by rfl) T.m13 T.F13.kp T.b13 (da_cons (dv 0) (da_cons (dv 4) da_nil)) (len_cons (len_cons len_nil)))))
  (z_cons (z_for PassesOwn.never rfl (i_range1 (by rfl) T.z_range (da_cons (dmod (dct call_int1 cs_int (by rfl) T.z_int bt_int (da_cons (dcall (ok__law_next T) (hr.mono (by decide)) (by rfl) T.m9 T.F9.kp T.b9 (da_cons (dv 0) da_nil) (len_cons len_nil)) da_nil)) dint) da_nil)) (t_name 2 sc.nd) (z_cons (z_set 3 sc.nd (dcall (ok__law_next T) (hr.mono (by decide)) (by rfl) T.m9 T.F9.kp T.b9 (da_cons (dv 0) da_nil) (len_cons len_nil)))
  (z_cons (z_set 4 sc.nd (dmod (dct call_int1 cs_int (by rfl) T.z_int bt_int (da_cons (ddiv (dv 3) dint) da_nil)) (dadd (dcb call_len cs_len (by rfl) T.z_len bt_len (da_cons (dv 1) da_nil)) dint)))
  (z_cons (z_if (bcm (cm_eq hr) (dmod (dct call_int1 cs_int (by rfl) T.z_int bt_int (da_cons (dv 3) da_nil)) dint) dint (nomark _)) (z_one (z_set 1 sc.nd (dadd (dsl (dv 1) o_no (o_int (dv 4))) (dsl (dv 1) (o_int (dadd (dv 4) dint)) o_no)))) z_nil)
  (z_cons (z_if (bcm (cm_eq hr) (dmod (dct call_int1 cs_int (by rfl) T.z_int bt_int (da_cons (dv 3) da_nil)) dint) dint (nomark _)) (z_one (z_set 1 sc.nd (dadd (dadd (dsl (dv 1) o_no (o_int (dv 4))) (dof (flst (da_cons (dsubs (dof (flst (da_cons dstr (da_cons dstr (da_cons dstr (da_cons dstr (da_cons dstr da_nil))))))) (dmod (dct call_int1 cs_int (by rfl) T.z_int bt_int (da_cons (ddiv (dv 3) dint) da_nil)) dint)) da_nil)))) (dsl (dv 1) (o_int (dv 4)) o_no)))) z_nil)
  (z_one (z_if (bcm (cm_eq hr) (dmod (dct call_int1 cs_int (by rfl) T.z_int bt_int (da_cons (dv 3) da_nil)) dint) dint (nomark _)) (z_one (z_set 1 sc.nd (dadd (dadd (dsl (dv 1) o_no (o_int (dv 4))) (dsl (dv 1) (o_int (dsub (dv 4) dint)) (o_int (dv 4)))) (dsl (dv 1) (o_int (dv 4)) o_no)))) z_nil)))))))
  (z_cons (z_set 5 sc.nd (d_join dstr (dv 1)))
  (z_cons (z_set 3 sc.nd (dcall (ok__law_next T) (hr.mono (by decide)) (by rfl) T.m9 T.F9.kp T.b9 (da_cons (dv 0) da_nil) (len_cons len_nil)))
  (z_cons (z_set 4 sc.nd (dmod (dct call_int1 cs_int (by rfl) T.z_int bt_int (da_cons (ddiv (dv 3) dint) da_nil)) (dadd (dcb call_len cs_len (by rfl) T.z_len bt_len (da_cons (dv 5) da_nil)) dint)))
  (z_cons (z_if (bcm (cm_eq hr) (dmod (dct call_int1 cs_int (by rfl) T.z_int bt_int (da_cons (dv 3) da_nil)) dint) dint (nomark _)) (z_cons (z_set 6 sc.nd (dsubs (dof (flst (da_cons dstr (da_cons dstr (da_cons dstr (da_cons dstr (da_cons dstr (da_cons dstr (da_cons dstr (da_cons dstr (da_cons dstr (da_cons dstr da_nil)))))))))))) (dmod (dct call_int1 cs_int (by rfl) T.z_int bt_int (da_cons (ddiv (dv 3) dint) da_nil)) dint)))
  (z_one (z_set 5 sc.nd (dadd (dadd (dsl (dv 5) o_no (o_int (dv 4))) (dv 6)) (dsl (dv 5) (o_int (dv 4)) o_no))))) z_nil)
  (z_cons (z_if (bcm (cm_eq hr) (dmod (dct call_int1 cs_int (by rfl) T.z_int bt_int (da_cons (dv 3) da_nil)) dint) dint (nomark _)) (z_one (z_set 5 sc.nd (dadd (dsl (dv 5) o_no (o_int (dv 4))) (dsl (dv 5) (o_int (dadd (dv 4) dint)) o_no)))) z_nil)
  (z_one (z_ret (dcm cm_eqX (d_repE hq hr (by rfl) T.z_repr bt_repr (dcall (ok__law_told T) (hr.mono (by decide)) (by rfl) T.m12 T.F12.kp T.b12 (da_cons (dv 5) da_nil) (len_cons len_nil))) (d_repE hq hr (by rfl) T.z_repr bt_repr (dcall (ok__law_due T) (hr.mono (by decide)) (by rfl) T.m11 T.F11.kp T.b11 (da_cons (dv 5) da_nil) (len_cons len_nil))) (nomark _)))))))))))
/-! law -/
theorem sc_law : FnScope ["script", "cell", "draws", "turn"] ["script"] (defScope (topS 15)) := ⟨rfl, rfl, rfl, by decide +kernel, rfl, by decide +kernel, by decide +kernel⟩
noncomputable def g_law : SF :=
  (sSeq (sFor (iSeq (gOp fAdd (gSl (gVar 0) oNo (oInt (gC (.int 6)))) (gF (fLst (gCons (gC (.int 0)) gNil))))) (gtName 1) (sSeq (sSetO 2 (fCall R__law_draws (gCons (gVar 1) gNil)))
  (sFor (iRange1 (gCons (gC (.int 6)) gNil)) (gtName 3) (sIf (bNot (gTru (gCall F__law_right (gCons (gVar 2) gNil)))) (sRet (gC (.bool false))) sNext))))
  (sRet (gC (.bool true))))
noncomputable def F_law : FnF := runF 1 4 g_law
theorem ok_law (T : Tx K mg f fd) : FnG P w K mg base 6 (f 15) (fd 15) ["script"] (spD K 1 F_law) := by
  have sc := sc_law
  exact fn_ruleG T.F15 sc_law rfl (by decide) fun cdv A outer s H E hq hr =>
  (z_cons (z_for PassesOwn.never rfl (i_seq (dadd (dsl (dv 0) o_no (o_int dint)) (dof (flst (da_cons dint da_nil))))) (t_name 1 sc.nd) (z_cons (z_setO 2 sc.nd (fcall (okR__law_draws T) (hr.mono (by decide)) (by rfl) T.m8 T.F8.kp T.b8 (da_cons (dv 1) da_nil) (len_cons len_nil)))
  (z_one (z_for PassesOwn.never rfl (i_range1 (by rfl) T.z_range (da_cons dint da_nil)) (t_name 3 sc.nd) (z_one (z_if (bnot (btru (dcallG (ok__law_right T) hq (hr.mono (by decide)) (by rfl) T.m14 T.F14.kp T.b14 (da_cons (dv 2) da_nil) (len_cons len_nil)))) (z_one (z_ret dbl)) z_nil))))))
  (z_one (z_ret dbl)))
end
/-! the end -/
def spLawB (K : PySem.W.Frag) : Sp := fun vs H Q _ => ∃ (a : Addr) (ns : List Int), vs = [V.ref a] ∧ SqL K H a (ns.map V.int) ∧ ns.length ≤ 63 ∧ (∀ z ∈ ns, Builtin.Int.intBits z ≤ 1048576) ∧ ∀ H', Q (.bl true) H'
abbrev LawTrue : Prop := ∀ ns : List Int, ns.length ≤ 63 → (∀ z ∈ ns, Builtin.Int.intBits z ≤ 1048576) → ∃ outs, F_law [.w (ns.map .int)] = some (.bool true, outs)
theorem spLaw_of {K : PySem.W.Frag} (hl : LawTrue) (vs : List V) (H : Hp) (Q : VK) (E : XK) (h : spLawB K vs H Q E) : spD K 1 F_law vs H Q E := law_in hl h
theorem all_mk {l : PySem.W.OpenLaw} {w : World} {K : PySem.W.Frag} {h : Heap} {mg : Str → Option Value} {fa f5 f6 f8 f9 f10 f11 f12 f13 f14 f15 : Addr} (hl : LawTrue) (X : K.In h) (G : h.Ns mainGlobals mg) (hfa : mg "law" = some (.ref fa))
    {od5 od6 od8 od9 od10 od11 od12 od13 od14 od15 an5 an6 an8 an9 an10 an11 an12 an13 an14 an15 : Option Addr} {sl5 sl6 sl8 sl9 sl10 sl11 sl12 sl13 sl14 sl15 : Array (Option Value)} {oc5 oc6 oc8 oc9 oc10 oc11 oc12 oc13 oc14 oc15 kV5 kV6 kV8 kV9 kV10 kV11 kV12 kV13 kV14 kV15 dc5 dc6 dc8 dc9 dc10 dc11 dc12 dc13 dc14 dc15 pm5 pm6 pm8 pm9 pm10 pm11 pm12 pm13 pm14 pm15 cd5 cd6 cd8 cd9 cd10 cd11 cd12 cd13 cd14 cd15 ct5 ct6 ct8 ct9 ct10 ct11 ct12 ct13 ct14 ct15 : Value}
    (a5 : PySem.W.nsIn K mainGlobals "number_of" = some (some (.ref f5))) (l5 : K.lookup f5 = some ⟨oc5, od5, .func (PySem.W.fnOf "number_of" "number_of" (defArgs (topS 5)) (defBody (topS 5)) (defScope (topS 5)) .none kV5 dc5 pm5 an5 cd5 ct5), sl5⟩) (c5 : PySem.W.codeIn K cd5 "number_of" = true) (k5 : PySem.W.keepIn K (.ref f5) = true)
    (a6 : PySem.W.nsIn K mainGlobals "parse_list" = some (some (.ref f6))) (l6 : K.lookup f6 = some ⟨oc6, od6, .func (PySem.W.fnOf "parse_list" "parse_list" (defArgs (topS 6)) (defBody (topS 6)) (defScope (topS 6)) .none kV6 dc6 pm6 an6 cd6 ct6), sl6⟩) (c6 : PySem.W.codeIn K cd6 "parse_list" = true) (k6 : PySem.W.keepIn K (.ref f6) = true)
    (a8 : PySem.W.nsIn K mainGlobals "_law_draws" = some (some (.ref f8))) (l8 : K.lookup f8 = some ⟨oc8, od8, .func (PySem.W.fnOf "_law_draws" "_law_draws" (defArgs (topS 8)) (defBody (topS 8)) (defScope (topS 8)) .none kV8 dc8 pm8 an8 cd8 ct8), sl8⟩) (c8 : PySem.W.codeIn K cd8 "_law_draws" = true) (k8 : PySem.W.keepIn K (.ref f8) = true)
    (a9 : PySem.W.nsIn K mainGlobals "_law_next" = some (some (.ref f9))) (l9 : K.lookup f9 = some ⟨oc9, od9, .func (PySem.W.fnOf "_law_next" "_law_next" (defArgs (topS 9)) (defBody (topS 9)) (defScope (topS 9)) .none kV9 dc9 pm9 an9 cd9 ct9), sl9⟩) (c9 : PySem.W.codeIn K cd9 "_law_next" = true) (k9 : PySem.W.keepIn K (.ref f9) = true)
    (a10 : PySem.W.nsIn K mainGlobals "_law_number" = some (some (.ref f10))) (l10 : K.lookup f10 = some ⟨oc10, od10, .func (PySem.W.fnOf "_law_number" "_law_number" (defArgs (topS 10)) (defBody (topS 10)) (defScope (topS 10)) .none kV10 dc10 pm10 an10 cd10 ct10), sl10⟩) (c10 : PySem.W.codeIn K cd10 "_law_number" = true) (k10 : PySem.W.keepIn K (.ref f10) = true)
    (a11 : PySem.W.nsIn K mainGlobals "_law_due" = some (some (.ref f11))) (l11 : K.lookup f11 = some ⟨oc11, od11, .func (PySem.W.fnOf "_law_due" "_law_due" (defArgs (topS 11)) (defBody (topS 11)) (defScope (topS 11)) .none kV11 dc11 pm11 an11 cd11 ct11), sl11⟩) (c11 : PySem.W.codeIn K cd11 "_law_due" = true) (k11 : PySem.W.keepIn K (.ref f11) = true)
    (a12 : PySem.W.nsIn K mainGlobals "_law_told" = some (some (.ref f12))) (l12 : K.lookup f12 = some ⟨oc12, od12, .func (PySem.W.fnOf "_law_told" "_law_told" (defArgs (topS 12)) (defBody (topS 12)) (defScope (topS 12)) .none kV12 dc12 pm12 an12 cd12 ct12), sl12⟩) (c12 : PySem.W.codeIn K cd12 "_law_told" = true) (k12 : PySem.W.keepIn K (.ref f12) = true)
    (a13 : PySem.W.nsIn K mainGlobals "_law_line" = some (some (.ref f13))) (l13 : K.lookup f13 = some ⟨oc13, od13, .func (PySem.W.fnOf "_law_line" "_law_line" (defArgs (topS 13)) (defBody (topS 13)) (defScope (topS 13)) .none kV13 dc13 pm13 an13 cd13 ct13), sl13⟩) (c13 : PySem.W.codeIn K cd13 "_law_line" = true) (k13 : PySem.W.keepIn K (.ref f13) = true)
    (a14 : PySem.W.nsIn K mainGlobals "_law_right" = some (some (.ref f14))) (l14 : K.lookup f14 = some ⟨oc14, od14, .func (PySem.W.fnOf "_law_right" "_law_right" (defArgs (topS 14)) (defBody (topS 14)) (defScope (topS 14)) .none kV14 dc14 pm14 an14 cd14 ct14), sl14⟩) (c14 : PySem.W.codeIn K cd14 "_law_right" = true) (k14 : PySem.W.keepIn K (.ref f14) = true)
    (a15 : PySem.W.nsIn K mainGlobals "law" = some (some (.ref f15))) (l15 : K.lookup f15 = some ⟨oc15, od15, .func (PySem.W.fnOf "law" "law" (defArgs (topS 15)) (defBody (topS 15)) (defScope (topS 15)) .none kV15 dc15 pm15 an15 cd15 ct15), sl15⟩) (c15 : PySem.W.codeIn K cd15 "law" = true) (k15 : PySem.W.keepIn K (.ref f15) = true)
    {tC_FIGURES : Tok} (s_FIGURES : PySem.W.nsIn K mainGlobals "FIGURES" = some (some (.str "0123456789" tC_FIGURES)))
    {aC_LABELS : Addr} {oC_LABELS : Obj} {iC_LABELS : Array Value} {nC_LABELS : Nat} (s_LABELS : PySem.W.nsIn K mainGlobals "LABELS" = some (some (.ref aC_LABELS))) (t_LABELS : K.lookup aC_LABELS = some oC_LABELS) (u_LABELS : oC_LABELS.cls = .type "tuple" ∧ oC_LABELS.data = .seq iC_LABELS nC_LABELS ∧ iC_LABELS.size ≤ sizeLine ∧ Vals ([("dead" : Str), ("found" : Str), ("high" : Str), ("low" : Str)].map V.str) iC_LABELS.toList)
    (z_ValueError : PySem.W.nsIn K mainGlobals "ValueError" = some none)
    (z_all : PySem.W.nsIn K mainGlobals "all" = some none)
    (z_enumerate : PySem.W.nsIn K mainGlobals "enumerate" = some none)
    (z_int : PySem.W.nsIn K mainGlobals "int" = some none)
    (z_isinstance : PySem.W.nsIn K mainGlobals "isinstance" = some none)
    (z_len : PySem.W.nsIn K mainGlobals "len" = some none)
    (z_range : PySem.W.nsIn K mainGlobals "range" = some none)
    (z_repr : PySem.W.nsIn K mainGlobals "repr" = some none)
    (z_str : PySem.W.nsIn K mainGlobals "str" = some none)
    {f1 fi1 : Addr} {oc1 dc1 pm1 cd1 ct1 : Value} {od1 an1 : Option Addr} {sl1 : Array (Option Value)}
    (eaC1 : PySem.W.nsIn K mainGlobals "InvalidText" = some (some (.ref f1)))
    (eini1 : PySem.W.excInitIn K f1 [.type "ValueError", .type "Exception", .type "BaseException", .type "object"] "ValueError.__new__" = true)
    (eov1 : PySem.W.excOver K f1 [.type "ValueError", .type "Exception", .type "BaseException", .type "object"] = true)
    (ent1 : PySem.W.takerIn K f1 "line" = some none)
    (esa1 : PySem.W.findIn K (.ref f1) "__setattr__" = some (some (.builtin "object.__setattr__")))
    (ega1 : PySem.W.findIn K (.ref f1) "__getattribute__" = some (some (.builtin "BaseException.__getattribute__")))
    (egg1 : PySem.W.findIn K (.ref f1) "__getattr__" = some none)
    (eno1 : PySem.W.findIn K (.ref f1) "line" = some none)
    (eiC1 : PySem.W.findIn K (.ref f1) "__init__" = some (some (.ref fi1)))
    (etC1 : PySem.W.typeIn K (.ref fi1) = some (.type "function"))
    (ekC1 : PySem.W.keepIn K (.ref f1) = true)
    (eeC1 : PySem.W.subIn K (.ref f1) (.type "BaseException") = some true)
    (ety1 : PySem.W.typeIn K (.ref f1) = some (.type "type"))
    (ehd1 : PySem.W.hasDictIn K f1 = true)
    (eis1 : PySem.W.isClsIn K f1 = true)
    (ess1 : PySem.W.subIn K (.ref f1) (.ref f1) = some true)
    (el1 : K.lookup fi1 = some ⟨oc1, od1, .func (PySem.W.fnOf "__init__" "InvalidText.__init__" (ExLine.iA ⟨4, 17, 4, 21⟩ ⟨4, 23, 4, 27⟩) (ExLine.iB ⟨5, 8, 5, 12⟩ ⟨5, 8, 5, 17⟩ ⟨5, 20, 5, 24⟩ ⟨5, 8, 5, 24⟩) ExLine.iS .none .none dc1 pm1 an1 cd1 ct1), sl1⟩)
    (ecd1 : PySem.W.codeIn K cd1 "InvalidText.__init__" = true)
    (eha1 : PySem.W.findIn K (.ref f1) "__class__" = some (some (.builtin "object.__class__")))
    (ehn1 : PySem.W.specialIn K (.builtin "object.__class__") "__get__" = some (some (.builtin "getset_descriptor.__get__")))
    (eht1 : PySem.W.takesIn K (.builtin "object.__class__") = some true)
    (ehm1 : PySem.W.mroIn K f1 (.type "object") = some true)
    (ex_InvalidText_ValueError : PySem.W.subIn K (.ref f1) (.type "ValueError") = some true)
    : ∃ fd : FuncData, (∀ (s : Shared) (v : Value), BindsTo s fd ⟨[v], []⟩ [("script", v)]) ∧ ∀ base : Heap, K.In base → base.Ns mainGlobals mg → FnG l.prog w K mg base 6 fa fd ["script"] (spLawB K) := by
  have e0 : f15 = fa := by
    have e := (PySem.W.mg_of X G a15).symm.trans hfa
    cases e
    rfl
  subst e0
  have F5 := fun_mk (st := topS 5) l5 c5 k5
  have F6 := fun_mk (st := topS 6) l6 c6 k6
  have F8 := fun_mk (st := topS 8) l8 c8 k8
  have F9 := fun_mk (st := topS 9) l9 c9 k9
  have F10 := fun_mk (st := topS 10) l10 c10 k10
  have F11 := fun_mk (st := topS 11) l11 c11 k11
  have F12 := fun_mk (st := topS 12) l12 c12 k12
  have F13 := fun_mk (st := topS 13) l13 c13 k13
  have F14 := fun_mk (st := topS 14) l14 c14 k14
  have F15 := fun_mk (st := topS 15) l15 c15 k15
  have T : Tx K mg (fun i => [0, f1, 0, 0, 0, f5, f6, 0, f8, f9, f10, f11, f12, f13, f14, f15].getD i 0) (fun i => [(PySem.W.fnOf "number_of" "number_of" (defArgs (topS 5)) (defBody (topS 5)) (defScope (topS 5)) .none kV5 dc5 pm5 an5 cd5 ct5), (PySem.W.fnOf "number_of" "number_of" (defArgs (topS 5)) (defBody (topS 5)) (defScope (topS 5)) .none kV5 dc5 pm5 an5 cd5 ct5), (PySem.W.fnOf "number_of" "number_of" (defArgs (topS 5)) (defBody (topS 5)) (defScope (topS 5)) .none kV5 dc5 pm5 an5 cd5 ct5), (PySem.W.fnOf "number_of" "number_of" (defArgs (topS 5)) (defBody (topS 5)) (defScope (topS 5)) .none kV5 dc5 pm5 an5 cd5 ct5), (PySem.W.fnOf "number_of" "number_of" (defArgs (topS 5)) (defBody (topS 5)) (defScope (topS 5)) .none kV5 dc5 pm5 an5 cd5 ct5), (PySem.W.fnOf "number_of" "number_of" (defArgs (topS 5)) (defBody (topS 5)) (defScope (topS 5)) .none kV5 dc5 pm5 an5 cd5 ct5), (PySem.W.fnOf "parse_list" "parse_list" (defArgs (topS 6)) (defBody (topS 6)) (defScope (topS 6)) .none kV6 dc6 pm6 an6 cd6 ct6), (PySem.W.fnOf "number_of" "number_of" (defArgs (topS 5)) (defBody (topS 5)) (defScope (topS 5)) .none kV5 dc5 pm5 an5 cd5 ct5), (PySem.W.fnOf "_law_draws" "_law_draws" (defArgs (topS 8)) (defBody (topS 8)) (defScope (topS 8)) .none kV8 dc8 pm8 an8 cd8 ct8), (PySem.W.fnOf "_law_next" "_law_next" (defArgs (topS 9)) (defBody (topS 9)) (defScope (topS 9)) .none kV9 dc9 pm9 an9 cd9 ct9), (PySem.W.fnOf "_law_number" "_law_number" (defArgs (topS 10)) (defBody (topS 10)) (defScope (topS 10)) .none kV10 dc10 pm10 an10 cd10 ct10), (PySem.W.fnOf "_law_due" "_law_due" (defArgs (topS 11)) (defBody (topS 11)) (defScope (topS 11)) .none kV11 dc11 pm11 an11 cd11 ct11), (PySem.W.fnOf "_law_told" "_law_told" (defArgs (topS 12)) (defBody (topS 12)) (defScope (topS 12)) .none kV12 dc12 pm12 an12 cd12 ct12), (PySem.W.fnOf "_law_line" "_law_line" (defArgs (topS 13)) (defBody (topS 13)) (defScope (topS 13)) .none kV13 dc13 pm13 an13 cd13 ct13), (PySem.W.fnOf "_law_right" "_law_right" (defArgs (topS 14)) (defBody (topS 14)) (defScope (topS 14)) .none kV14 dc14 pm14 an14 cd14 ct14), (PySem.W.fnOf "law" "law" (defArgs (topS 15)) (defBody (topS 15)) (defScope (topS 15)) .none kV15 dc15 pm15 an15 cd15 ct15)].getD i (PySem.W.fnOf "number_of" "number_of" (defArgs (topS 5)) (defBody (topS 5)) (defScope (topS 5)) .none kV5 dc5 pm5 an5 cd5 ct5)) :=
    { F5 := F5
      m5 := PySem.W.mg_of X G a5
      b5 := Fun.binds (ps := ["text"]) F5 fun _ _ _ _ _ _ us hl => match us, hl with | [_], _ => rfl
      F6 := F6
      m6 := PySem.W.mg_of X G a6
      b6 := Fun.binds (ps := ["text"]) F6 fun _ _ _ _ _ _ us hl => match us, hl with | [_], _ => rfl
      F8 := F8
      m8 := PySem.W.mg_of X G a8
      b8 := Fun.binds (ps := ["cell"]) F8 fun _ _ _ _ _ _ us hl => match us, hl with | [_], _ => rfl
      F9 := F9
      m9 := PySem.W.mg_of X G a9
      b9 := Fun.binds (ps := ["draws"]) F9 fun _ _ _ _ _ _ us hl => match us, hl with | [_], _ => rfl
      F10 := F10
      m10 := PySem.W.mg_of X G a10
      b10 := Fun.binds (ps := ["text"]) F10 fun _ _ _ _ _ _ us hl => match us, hl with | [_], _ => rfl
      F11 := F11
      m11 := PySem.W.mg_of X G a11
      b11 := Fun.binds (ps := ["text"]) F11 fun _ _ _ _ _ _ us hl => match us, hl with | [_], _ => rfl
      F12 := F12
      m12 := PySem.W.mg_of X G a12
      b12 := Fun.binds (ps := ["text"]) F12 fun _ _ _ _ _ _ us hl => match us, hl with | [_], _ => rfl
      F13 := F13
      m13 := PySem.W.mg_of X G a13
      b13 := Fun.binds (ps := ["draws", "at"]) F13 fun _ _ _ _ _ _ us hl => match us, hl with | [_, _], _ => rfl
      F14 := F14
      m14 := PySem.W.mg_of X G a14
      b14 := Fun.binds (ps := ["draws"]) F14 fun _ _ _ _ _ _ us hl => match us, hl with | [_], _ => rfl
      F15 := F15
      m15 := PySem.W.mg_of X G a15
      b15 := Fun.binds (ps := ["script"]) F15 fun _ _ _ _ _ _ us hl => match us, hl with | [_], _ => rfl
      d_FIGURES := fun hK hM hG => ⟨_, pe_glob (v := .str "0123456789") hG (by rw [hM]; exact PySem.W.mg_of X G s_FIGURES) ⟨_, rfl⟩, sd_c fun _ => .str _⟩
      d_LABELS := fun hK hM hG => d_strs hG (by rw [hM]; exact PySem.W.mg_of X G s_LABELS) (by rw [hK]; exact t_LABELS) u_LABELS.1 u_LABELS.2.1 u_LABELS.2.2.1 u_LABELS.2.2.2
      z_ValueError := PySem.W.mg_none_of X G z_ValueError
      z_all := PySem.W.mg_none_of X G z_all
      z_enumerate := PySem.W.mg_none_of X G z_enumerate
      z_int := PySem.W.mg_none_of X G z_int
      z_isinstance := PySem.W.mg_none_of X G z_isinstance
      z_len := PySem.W.mg_none_of X G z_len
      z_range := PySem.W.mg_none_of X G z_range
      z_repr := PySem.W.mg_none_of X G z_repr
      z_str := PySem.W.mg_none_of X G z_str
      e_InvalidText := ⟨fi1, ⟨PySem.W.mg_of X G eaC1, eaC1, eini1, eov1, ent1, esa1, ega1, egg1, eno1, eiC1, etC1, ekC1, eeC1, ety1, ehd1, exm_mine eeC1 eis1 ety1 ess1, ⟨_, _, _, _, _, _, _, _, _, _, _, _, _, _, el1, ecd1⟩⟩⟩
      i_InvalidText := ⟨eis1, ega1, egg1, eeC1, eha1, ehn1, eht1, ehm1⟩
      g_InvalidText := PySem.W.mg_of X G eaC1
      a_InvalidText := eaC1
      xm_InvalidText_InvalidText := exm_mine eeC1 eis1 ety1 ess1
      x_InvalidText_ValueError := kit_sub ex_InvalidText_ValueError (by decide +kernel) }
  exact ⟨(fun i => [(PySem.W.fnOf "number_of" "number_of" (defArgs (topS 5)) (defBody (topS 5)) (defScope (topS 5)) .none kV5 dc5 pm5 an5 cd5 ct5), (PySem.W.fnOf "number_of" "number_of" (defArgs (topS 5)) (defBody (topS 5)) (defScope (topS 5)) .none kV5 dc5 pm5 an5 cd5 ct5), (PySem.W.fnOf "number_of" "number_of" (defArgs (topS 5)) (defBody (topS 5)) (defScope (topS 5)) .none kV5 dc5 pm5 an5 cd5 ct5), (PySem.W.fnOf "number_of" "number_of" (defArgs (topS 5)) (defBody (topS 5)) (defScope (topS 5)) .none kV5 dc5 pm5 an5 cd5 ct5), (PySem.W.fnOf "number_of" "number_of" (defArgs (topS 5)) (defBody (topS 5)) (defScope (topS 5)) .none kV5 dc5 pm5 an5 cd5 ct5), (PySem.W.fnOf "number_of" "number_of" (defArgs (topS 5)) (defBody (topS 5)) (defScope (topS 5)) .none kV5 dc5 pm5 an5 cd5 ct5), (PySem.W.fnOf "parse_list" "parse_list" (defArgs (topS 6)) (defBody (topS 6)) (defScope (topS 6)) .none kV6 dc6 pm6 an6 cd6 ct6), (PySem.W.fnOf "number_of" "number_of" (defArgs (topS 5)) (defBody (topS 5)) (defScope (topS 5)) .none kV5 dc5 pm5 an5 cd5 ct5), (PySem.W.fnOf "_law_draws" "_law_draws" (defArgs (topS 8)) (defBody (topS 8)) (defScope (topS 8)) .none kV8 dc8 pm8 an8 cd8 ct8), (PySem.W.fnOf "_law_next" "_law_next" (defArgs (topS 9)) (defBody (topS 9)) (defScope (topS 9)) .none kV9 dc9 pm9 an9 cd9 ct9), (PySem.W.fnOf "_law_number" "_law_number" (defArgs (topS 10)) (defBody (topS 10)) (defScope (topS 10)) .none kV10 dc10 pm10 an10 cd10 ct10), (PySem.W.fnOf "_law_due" "_law_due" (defArgs (topS 11)) (defBody (topS 11)) (defScope (topS 11)) .none kV11 dc11 pm11 an11 cd11 ct11), (PySem.W.fnOf "_law_told" "_law_told" (defArgs (topS 12)) (defBody (topS 12)) (defScope (topS 12)) .none kV12 dc12 pm12 an12 cd12 ct12), (PySem.W.fnOf "_law_line" "_law_line" (defArgs (topS 13)) (defBody (topS 13)) (defScope (topS 13)) .none kV13 dc13 pm13 an13 cd13 ct13), (PySem.W.fnOf "_law_right" "_law_right" (defArgs (topS 14)) (defBody (topS 14)) (defScope (topS 14)) .none kV14 dc14 pm14 an14 cd14 ct14), (PySem.W.fnOf "law" "law" (defArgs (topS 15)) (defBody (topS 15)) (defScope (topS 15)) .none kV15 dc15 pm15 an15 cd15 ct15)].getD i (PySem.W.fnOf "number_of" "number_of" (defArgs (topS 5)) (defBody (topS 5)) (defScope (topS 5)) .none kV5 dc5 pm5 an5 cd5 ct5)) 15, fun s v => .of_eq rfl, fun base _ _ => (ok_law (P := l.prog) (w := w) (base := base) T).imp (spLaw_of hl)⟩
theorem walk {l : PySem.W.OpenLaw} {q : Program} {loose : List Str} {XP : (Str → Option Value) → Heap → Prop} {YP : World → Heap → Prop} {d : DefRec} {K : Params → PySem.W.Frag} (hn : l.most = some 63) (hdf : d.params.defaults = [])
    (hY : ∀ (w : World) (h : Heap), YP w h → (K w.params).In h)
    (F : ∀ (w : World) (mg : Str → Option Value) (fa : Addr) (h : Heap), (K w.params).In h → h.Ns mainGlobals mg → mg d.name = some (.ref fa) →
      ∃ fd : FuncData, (∀ (s : Shared) (u : Value), BindsTo s fd ⟨[u], []⟩ [("script", u)]) ∧ ∀ base : Heap, (K w.params).In base → base.Ns mainGlobals mg → FnG l.prog w (K w.params) mg base 6 fa fd ["script"] (spLawB (K w.params))) :
    PySem.W.WalkO q loose XP YP l.row.toRowW d [] (fun f vs => PySem.call f vs) :=
  DL.walk_ofG (n := 63) (k := 6) (x := "script") (sp := fun w => spLawB (K w.params)) hn (by decide) hdf ⟨rfl, by decide, by decide⟩ hY F (fun _ _ a ns hl hb _ hS => ⟨a, ns, rfl, hS, hl, hb, fun _ => rfl⟩)
end Lw
namespace Lw
open PySem PySem.Spec PyProof.Rows L2 DL
/-! ### draws -/
/-- a list of draws from which m more may be drawn -/
def Dr (m : Nat) (ds : List PyData) : Prop := ∃ (z k : Int) (b : Bool), ds = [.int z, .int k, .bool b] ∧ 0 ≤ k ∧ k + m < 2 ^ 64
theorem Dr.mono {m m' : Nat} {ds : List PyData} (h : Dr m ds) (q : m' ≤ m) : Dr m' ds := by
  obtain ⟨z, k, b, e, h1, h2⟩ := h
  exact ⟨z, k, b, e, h1, by omega⟩
theorem na {i : Int} {n : Nat} (h0 : 0 ≤ i) (h : i < 2 ^ n) : i.natAbs < 2 ^ n := by
  have : ((i.natAbs : Nat) : Int) < ((2 ^ n : Nat) : Int) := by
    rw [Int.natAbs_of_nonneg h0]
    exact_mod_cast h
  exact_mod_cast this
theorem na_mul {a b : Int} {n m : Nat} (ha : a.natAbs < 2 ^ n) (hb : b.natAbs < 2 ^ m) : (a * b).natAbs < 2 ^ (n + m) := by
  rw [Int.natAbs_mul, Nat.pow_add]
  exact Nat.mul_lt_mul'' ha hb
theorem p10_6 : (10 : Int) ^ 6 = 1000000 := by decide
theorem cp6 : CPowW 10 6 := by decide +kernel
theorem e__law_next {m : Nat} {ds : List PyData} (h : Dr (m + 1) ds) : ∃ (n : Int) (ds' : List PyData), F__law_next [.l true ds] = some (.int n, [.l true ds']) ∧ 0 ≤ n ∧ n < 2 ^ 31 ∧ Dr m ds' := by
  obtain ⟨z, k, b, rfl, h1, h2⟩ := h
  have i1 : ixN 3 1 = some 1 := by decide
  have i0 : ixN 3 0 = some 0 := by decide
  have d6 : CDivW z 1000000 := ⟨by decide, by decide +kernel⟩
  cases b with
  | true =>
    refine ⟨z % 1000000, [.int (z / 1000000), .int (k + 1), .bool true], ?_, by omega, by omega, ⟨_, _, _, rfl, by omega, by omega⟩⟩
    simp [F__law_next, g__law_next, i1, i0, p10_6, cp6, d6, Nat.reduceLeDiff, Nat.reduceSub, cd_2, cd_3, cd_4, cd_5, cd_6, cd_7, cd_12, cd_20, cd_28, cd_60, cd_1000000, big, fEq_int, fNe_int, DL.atI_0, DL.atI_1, DL.atI_2, runF, runR, gVar, gC, DL.gNil, DL.gCons, gOp, gUn, fNeg, gTest, gTru, gChain, gIf, gAndV, gOrV, gNotV, bNot, bAnd, bOr, gCall, fCall, toSls, toSl, slotsOf, put, putL, sameKind, res, resA, gCB, fCB, gF, fLst, DL.gTup, allD, gRep, gSl, oNo, oInt, wipeR, restR, noL, fLc, bYes, fSumL, lists_map, cSorted, cSortSet, DL.ints_map, gIsi, noD, tyN, isiB, sNext, sSeq, sNever, sBreak, sCont, sExpr, sRet, sRetN, sRetF, sRetO, sIf, sFrz, frzAt, sSet, sSetO, sAsg, sPar, gtName, gtNil, gtCons, gtTup, gtLst, stay, iSeq, iTpl, iRange1_eq, iRange2_eq, rg1_2, rg1_3, rg1_4, iEnumD, iZipD, sFor, sApp, sPutIx, sAug, getL, frz, frz1, fLt_i, fLe_i, fGt_i, fGe_i, fIsN, fNotN, fAdd_i, fAdd_l, fSub_i, fMul_i, fDiv_i, fMod_i, fPow_i, fIx, fTru, cLen, cInt, List.getElem?_cons_zero, List.getElem?_cons_succ, List.getElem?_nil, List.set_cons_zero, List.set_cons_succ, List.set_nil, List.replicate, List.cons_append, List.nil_append, List.append_nil, List.map_cons, List.map_nil, List.take_succ_cons, List.take_zero, List.take_nil, List.nodup_nil, List.nodup_cons, List.not_mem_nil, List.mem_cons, List.length_cons, List.length_nil, Option.bind_some, Option.bind_none, Option.map_some, Option.map_none, Option.some_or, Option.none_or, Option.or_none, Nat.reduceAdd, Nat.reduceSub, if_true, if_false, ite_true, ite_false, reduceIte, Bool.false_eq_true, Bool.not_true, Bool.not_false, decide_true, decide_false, and_self, and_true, true_and, not_false_eq_true, not_true_eq_false, or_false, false_or, or_true, true_or, reduceCtorEq, forall_const, implies_true, Bool.true_and, Bool.and_true, Bool.false_and, Bool.and_false, Bool.or_true, Bool.or_false, Bool.true_or, Bool.false_or]
  | false =>
    have c1 : CMulW (k + 1) (k + 1) := mulW (n := 64) (m := 64) (na (by omega) (by omega)) (na (by omega) (by omega)) (by omega)
    have s1 : 0 ≤ (k + 1) * (k + 1) := Int.mul_nonneg (by omega) (by omega)
    have s2 : ((k + 1) * (k + 1)).natAbs < 2 ^ (64 + 64) := na_mul (na (by omega) (by omega)) (na (by omega) (by omega))
    have c2 : CMulW ((k + 1) * (k + 1)) 7919 := mulW (n := 128) (m := 13) s2 (by decide) (by omega)
    generalize hkk : (k + 1) * (k + 1) = kk at *
    have z1 := Int.emod_nonneg z (b := 1000003) (by omega)
    have z2 := Int.emod_lt_of_pos z (b := 1000003) (by omega)
    generalize hzz : z % 1000003 = zz at *
    have c3 : CMulW (zz + kk * 7919 + (k + 1)) 48271 := mulW (n := 150) (m := 16) (na (by omega) (by omega)) (by decide) (by omega)
    have t1 := Int.emod_nonneg ((zz + kk * 7919 + (k + 1)) * 48271) (b := 2147483629) (by omega)
    have t2 := Int.emod_lt_of_pos ((zz + kk * 7919 + (k + 1)) * 48271) (b := 2147483629) (by omega)
    generalize e1 : (zz + kk * 7919 + (k + 1)) * 48271 % 2147483629 = n1 at *
    have c4 : CMulW n1 n1 := mulW (n := 31) (m := 31) (na (by omega) (by omega)) (na (by omega) (by omega)) (by omega)
    have t3 := Int.emod_nonneg (n1 * n1) (b := 2147483587) (by omega)
    have t4 := Int.emod_lt_of_pos (n1 * n1) (b := 2147483587) (by omega)
    generalize e2 : n1 * n1 % 2147483587 = n2 at *
    have c5 : CMulW n2 (n2 + 2) := mulW (n := 31) (m := 32) (na (by omega) (by omega)) (na (by omega) (by omega)) (by omega)
    have t5 := Int.emod_nonneg (n2 * (n2 + 2)) (b := 2147483579) (by omega)
    have t6 := Int.emod_lt_of_pos (n2 * (n2 + 2)) (b := 2147483579) (by omega)
    generalize e3 : n2 * (n2 + 2) % 2147483579 = n3 at *
    have d7 : CDivW n3 7 := ⟨by decide, by decide +kernel⟩
    refine ⟨n3 / 7, [.int z, .int (k + 1), .bool false], ?_, by omega, by omega, ⟨_, _, _, rfl, by omega, by omega⟩⟩
    simp [F__law_next, g__law_next, i1, i0, hkk, hzz, e1, e2, e3, c1, c2, c3, c4, c5, d7, Nat.reduceLeDiff, Nat.reduceSub, cd_2, cd_3, cd_4, cd_5, cd_6, cd_7, cd_12, cd_20, cd_28, cd_60, cd_1000000, big, fEq_int, fNe_int, DL.atI_0, DL.atI_1, DL.atI_2, runF, runR, gVar, gC, DL.gNil, DL.gCons, gOp, gUn, fNeg, gTest, gTru, gChain, gIf, gAndV, gOrV, gNotV, bNot, bAnd, bOr, gCall, fCall, toSls, toSl, slotsOf, put, putL, sameKind, res, resA, gCB, fCB, gF, fLst, DL.gTup, allD, gRep, gSl, oNo, oInt, wipeR, restR, noL, fLc, bYes, fSumL, lists_map, cSorted, cSortSet, DL.ints_map, gIsi, noD, tyN, isiB, sNext, sSeq, sNever, sBreak, sCont, sExpr, sRet, sRetN, sRetF, sRetO, sIf, sFrz, frzAt, sSet, sSetO, sAsg, sPar, gtName, gtNil, gtCons, gtTup, gtLst, stay, iSeq, iTpl, iRange1_eq, iRange2_eq, rg1_2, rg1_3, rg1_4, iEnumD, iZipD, sFor, sApp, sPutIx, sAug, getL, frz, frz1, fLt_i, fLe_i, fGt_i, fGe_i, fIsN, fNotN, fAdd_i, fAdd_l, fSub_i, fMul_i, fDiv_i, fMod_i, fPow_i, fIx, fTru, cLen, cInt, List.getElem?_cons_zero, List.getElem?_cons_succ, List.getElem?_nil, List.set_cons_zero, List.set_cons_succ, List.set_nil, List.replicate, List.cons_append, List.nil_append, List.append_nil, List.map_cons, List.map_nil, List.take_succ_cons, List.take_zero, List.take_nil, List.nodup_nil, List.nodup_cons, List.not_mem_nil, List.mem_cons, List.length_cons, List.length_nil, Option.bind_some, Option.bind_none, Option.map_some, Option.map_none, Option.some_or, Option.none_or, Option.or_none, Nat.reduceAdd, Nat.reduceSub, if_true, if_false, ite_true, ite_false, reduceIte, Bool.false_eq_true, Bool.not_true, Bool.not_false, decide_true, decide_false, and_self, and_true, true_and, not_false_eq_true, not_true_eq_false, or_false, false_or, or_true, true_or, reduceCtorEq, forall_const, implies_true, Bool.true_and, Bool.and_true, Bool.false_and, Bool.and_false, Bool.or_true, Bool.or_false, Bool.true_or, Bool.false_or]
theorem pw1 : (10 : Int) ^ 18 = 1000000000000000000 := by decide
theorem e__law_draws (c : Int) : ∃ ds, R__law_draws [.v (.int c)] = some (.list ds, [.v (.int c)]) ∧ Dr (2 ^ 60) ds := by
  have c1 : CPowW 10 60 := by decide +kernel
  have c2 : CPowW (10 ^ 60) 60 := by decide +kernel
  have c3 : CPowW ((10 ^ 60) ^ 60) 4 := by decide +kernel
  have c4 : CPowW 10 18 := by decide +kernel
  have p3 : (0 : Int) < ((10 ^ 60) ^ 60) ^ 4 := by decide +kernel
  have t60 : (60 : Int).toNat = 60 := rfl
  have t4 : (4 : Int).toNat = 4 := rfl
  have t18 : (18 : Int).toNat = 18 := rfl
  refine ⟨[.int (c % ((10 ^ 60) ^ 60) ^ 4), .int 0, .bool (decide (10 ^ 18 ≤ c))], ?_, _, _, _, rfl, by omega, by omega⟩
  generalize h2 : ((10 : Int) ^ 60) = a at *
  generalize h3 : (a ^ 60 : Int) = b at *
  generalize h4 : (b ^ 4 : Int) = d at *
  generalize h5 : ((10 : Int) ^ 18) = e at *
  simp only [R__law_draws, gR__law_draws, c1, t60, h2, c2, h3, t4, c3, h4, p3, t18, c4, h5, Nat.sub_self, Nat.reduceLeDiff, Nat.reduceSub, cd_2, cd_3, cd_4, cd_5, cd_6, cd_7, cd_12, cd_20, cd_28, cd_60, cd_1000000, big, fEq_int, fNe_int, DL.atI_0, DL.atI_1, DL.atI_2, runF, runR, gVar, gC, DL.gNil, DL.gCons, gOp, gUn, fNeg, gTest, gTru, gChain, gIf, gAndV, gOrV, gNotV, bNot, bAnd, bOr, gCall, fCall, toSls, toSl, slotsOf, put, putL, sameKind, res, resA, gCB, fCB, gF, fLst, DL.gTup, allD, gRep, gSl, oNo, oInt, wipeR, restR, noL, fLc, bYes, fSumL, lists_map, cSorted, cSortSet, DL.ints_map, gIsi, noD, tyN, isiB, sNext, sSeq, sNever, sBreak, sCont, sExpr, sRet, sRetN, sRetF, sRetO, sIf, sFrz, frzAt, sSet, sSetO, sAsg, sPar, gtName, gtNil, gtCons, gtTup, gtLst, stay, iSeq, iTpl, iRange1_eq, iRange2_eq, rg1_2, rg1_3, rg1_4, iEnumD, iZipD, sFor, sApp, sPutIx, sAug, getL, frz, frz1, fLt_i, fLe_i, fGt_i, fGe_i, fIsN, fNotN, fAdd_i, fAdd_l, fSub_i, fMul_i, fDiv_i, fMod_i, fPow_i, fIx, fTru, cLen, cInt, List.getElem?_cons_zero, List.getElem?_cons_succ, List.getElem?_nil, List.set_cons_zero, List.set_cons_succ, List.set_nil, List.replicate, List.cons_append, List.nil_append, List.append_nil, List.map_cons, List.map_nil, List.take_succ_cons, List.take_zero, List.take_nil, List.nodup_nil, List.nodup_cons, List.not_mem_nil, List.mem_cons, List.length_cons, List.length_nil, Option.bind_some, Option.bind_none, Option.map_some, Option.map_none, Option.some_or, Option.none_or, Option.or_none, Nat.reduceAdd, Nat.reduceSub, if_true, if_false, ite_true, ite_false, reduceIte, Bool.false_eq_true, Bool.not_true, Bool.not_false, decide_true, decide_false, and_self, and_true, true_and, not_false_eq_true, not_true_eq_false, or_false, false_or, or_true, true_or, reduceCtorEq, forall_const, implies_true, Bool.true_and, Bool.and_true, Bool.false_and, Bool.and_false, Bool.or_true, Bool.or_false, Bool.true_or, Bool.false_or]
  all_goals rfl
end Lw
set_option maxHeartbeats 1000000
namespace Lw
open PySem PySem.Spec PyProof.Rows L2 DL TL
/-! ### whole numbers as texts -/
theorem beq_tl (x y : Str) : (x == y) = decide (tl x = tl y) := by
  by_cases h : tl x = tl y
  · rw [ext_tl h]; simp
  · rw [decide_eq_false h]
    exact beq_eq_false_iff_ne.mpr fun e => h (by rw [e])
theorem cut_1 (z : Str) : tl (cutS z none (some 1)) = (tl z).take 1 := by
  have h : tl (cutS z none (some 1)) = ((tl z).drop (HT.sIx z.length 0 none)).take (HT.sIx z.length z.length (some ((1 : Nat) : Int)) - HT.sIx z.length 0 none) := rfl
  rw [h, sIx_none, sIx_nat, List.drop_zero, Nat.sub_zero, len_tl]
  exact (List.take_eq_take_min ..).symm
theorem cut_r (z : Str) : tl (cutS z (some 1) none) = (tl z).drop 1 := by
  have h : tl (cutS z (some 1) none) = ((tl z).drop (HT.sIx z.length 0 (some ((1 : Nat) : Int)))).take (HT.sIx z.length z.length none - HT.sIx z.length 0 (some ((1 : Nat) : Int))) := rfl
  rw [h, sIx_none, sIx_nat, len_tl]
  cases hz : tl z with
  | nil => simp
  | cons a r =>
    rw [List.length_cons]
    have : min 1 (r.length + 1) = 1 := by omega
    rw [this, List.drop_one, List.tail_cons]
    exact List.take_of_length_le (by omega)
def figL (L : List Nat) : List Nat := if L.take 1 = [45] then L.drop 1 else L
def digB (c : Nat) : Bool := decide (48 ≤ c) && decide (c ≤ 57)
def numB (L : List Nat) : Bool := !decide (figL L = []) && (figL L).all digB && !(decide ((figL L).take 1 = [48]) && !decide (L = [48]))
def numO (s : Str) : Option Int := if numB (tl s) = true then PySem.intText? s else none
def oI : Option Int → PyData
  | none => .none
  | some i => .int i
theorem tl_dash : tl "-" = [45] := by decide +kernel
theorem tl_emp : tl "" = [] := by decide +kernel
theorem tl_0 : tl "0" = [48] := by decide +kernel
theorem tl_figs : tl "0123456789" = [48, 49, 50, 51, 52, 53, 54, 55, 56, 57] := by decide +kernel
theorem dig_mem (c : Nat) : decide (c ∈ tl "0123456789") = digB c := by
  rw [tl_figs]
  unfold digB
  by_cases h : 48 ≤ c ∧ c ≤ 57
  · rw [decide_eq_true h.1, decide_eq_true h.2]
    refine decide_eq_true ?_
    obtain ⟨h1, h2⟩ := h
    have : c = 48 ∨ c = 49 ∨ c = 50 ∨ c = 51 ∨ c = 52 ∨ c = 53 ∨ c = 54 ∨ c = 55 ∨ c = 56 ∨ c = 57 := by omega
    simpa using this
  · have : (decide (48 ≤ c) && decide (c ≤ 57)) = false := by
      rw [← Bool.not_eq_true, Bool.and_eq_true, decide_eq_true_eq, decide_eq_true_eq]
      exact h
    rw [this]
    refine decide_eq_false fun hm => h ?_
    simp only [List.mem_cons, List.not_mem_nil, or_false] at hm
    omega
theorem num_val {s : Str} (h : numB (tl s) = true) (hl : s.length ≤ 640) : (∃ v, PySem.intText? s = some v ∧ v.natAbs ≤ NumText.digitsVal (figL (tl s))) ∧ ((tl s).take 1 ≠ [45] → PySem.intText? s = some ((NumText.digitsVal (tl s) : Nat) : Int)) ∧ ((tl s).take 1 = [45] → ∃ v, PySem.intText? s = some v ∧ v ≤ 0 ∧ (tl s) ≠ [48]) ∧ NumText.AllDigits (figL (tl s)) ∧ figL (tl s) ≠ [] := by
  simp only [numB, Bool.and_eq_true, Bool.not_eq_true', decide_eq_false_iff_not] at h
  obtain ⟨⟨h1, h2⟩, h3⟩ := h
  have ad : NumText.AllDigits (figL (tl s)) := fun c hc => by
    have := List.all_eq_true.mp h2 c hc
    simpa [digB] using this
  by_cases hd : (tl s).take 1 = [45]
  · obtain ⟨cs, hcs⟩ : ∃ cs, tl s = 45 :: cs := by
      cases ht : tl s with
      | nil => rw [ht] at hd; cases hd
      | cons a r =>
        rw [ht] at hd
        have : a = 45 := by simpa using hd
        exact ⟨r, by rw [this]⟩
    have fe : figL (tl s) = cs := by rw [figL, if_pos hd, hcs]; rfl
    rw [fe] at ad h1 ⊢
    have iv := PySem.intText_neg (x := s) hcs ad h1 (by omega)
    exact ⟨⟨_, iv, by omega⟩, fun z => absurd hd z, fun _ => ⟨_, iv, by omega, by rw [hcs]; intro z; cases z⟩, ad, h1⟩
  · have fe : figL (tl s) = tl s := by rw [figL, if_neg hd]
    rw [fe] at ad h1 ⊢
    have iv : PySem.intText? s = some ((NumText.digitsVal (tl s) : Nat) : Int) := PySem.intText_digits (x := s) ad h1 (by omega)
    exact ⟨⟨_, iv, by omega⟩, fun _ => iv, fun z => absurd z hd, ad, h1⟩
/-! ### the program's reading, the law's -/
noncomputable def fgS : SF := (sSet 1 (gIf (gTest (gOp fEqX (gSl (gVar 0) oNo (oInt (gC (.int 1)))) (gC (.str "-")))) (gSl (gVar 0) (oInt (gC (.int 1))) oNo) (gVar 0)))
theorem fg_ev {s : Str} (hs : s.length ≤ 640) : ∃ f : Str, fgS [.v (.str s), .un, .un] = some (.nx [.v (.str s), .v (.str f), .un]) ∧ tl f = figL (tl s) ∧ f.length ≤ 640 := by
  have h0 : s.length ≤ 1000000 := by omega
  have s1 : fSl (.str s) none (some 1) = some (.str (cutS s none (some 1))) := by
    show (if s.length ≤ big then _ else _) = _
    rw [if_pos h0]
  have s2 : fSl (.str s) (some 1) none = some (.str (cutS s (some 1) none)) := by
    show (if s.length ≤ big then _ else _) = _
    rw [if_pos h0]
  have e1 : fEqX (.str (cutS s none (some 1))) (.str "-") = some (.bool (decide ((tl s).take 1 = [45]))) := by
    show some (PyData.bool (_ == _)) = _
    rw [beq_tl, cut_1, tl_dash]
  by_cases hd : (tl s).take 1 = [45]
  · rw [decide_eq_true hd] at e1
    refine ⟨cutS s (some 1) none, ?_, by rw [cut_r, figL, if_pos hd], Nat.le_trans (cutS_length _ _ _) hs⟩
    generalize cutS s none (some 1) = c1 at *
    generalize cutS s (some 1) none = c2 at *
    simp only [fgS, gIf, s1, s2, e1, Nat.reduceLeDiff, Nat.reduceSub, cd_2, cd_3, cd_4, cd_5, cd_6, cd_7, cd_12, cd_20, cd_28, cd_60, cd_1000000, big, fEq_int, fNe_int, DL.atI_0, DL.atI_1, DL.atI_2, runF, runR, gVar, gC, DL.gNil, DL.gCons, gOp, gUn, fNeg, gTest, gTru, gChain, gIf, gAndV, gOrV, gNotV, bNot, bAnd, bOr, gCall, fCall, toSls, toSl, slotsOf, put, putL, sameKind, res, resA, gCB, fCB, gF, fLst, DL.gTup, allD, gRep, gSl, oNo, oInt, wipeR, restR, noL, fLc, bYes, fSumL, lists_map, cSorted, cSortSet, DL.ints_map, gIsi, noD, tyN, isiB, sNext, sSeq, sNever, sBreak, sCont, sExpr, sRet, sRetN, sRetF, sRetO, sIf, sFrz, frzAt, sSet, sSetO, sAsg, sPar, gtName, gtNil, gtCons, gtTup, gtLst, stay, iSeq, iTpl, iRange1_eq, iRange2_eq, rg1_2, rg1_3, rg1_4, iEnumD, iZipD, sFor, sApp, sPutIx, sAug, getL, frz, frz1, fLt_i, fLe_i, fGt_i, fGe_i, fIsN, fNotN, fAdd_i, fAdd_l, fSub_i, fMul_i, fDiv_i, fMod_i, fPow_i, fIx, fTru, cLen, cInt, List.getElem?_cons_zero, List.getElem?_cons_succ, List.getElem?_nil, List.set_cons_zero, List.set_cons_succ, List.set_nil, List.replicate, List.cons_append, List.nil_append, List.append_nil, List.map_cons, List.map_nil, List.take_succ_cons, List.take_zero, List.take_nil, List.nodup_nil, List.nodup_cons, List.not_mem_nil, List.mem_cons, List.length_cons, List.length_nil, Option.bind_some, Option.bind_none, Option.map_some, Option.map_none, Option.some_or, Option.none_or, Option.or_none, Nat.reduceAdd, Nat.reduceSub, if_true, if_false, ite_true, ite_false, reduceIte, Bool.false_eq_true, Bool.not_true, Bool.not_false, decide_true, decide_false, and_self, and_true, true_and, not_false_eq_true, not_true_eq_false, or_false, false_or, or_true, true_or, reduceCtorEq, forall_const, implies_true, Bool.true_and, Bool.and_true, Bool.false_and, Bool.and_false, Bool.or_true, Bool.or_false, Bool.true_or, Bool.false_or]
  · rw [decide_eq_false hd] at e1
    refine ⟨s, ?_, by rw [figL, if_neg hd], hs⟩
    generalize cutS s none (some 1) = c1 at *
    simp only [fgS, gIf, s1, e1, Nat.reduceLeDiff, Nat.reduceSub, cd_2, cd_3, cd_4, cd_5, cd_6, cd_7, cd_12, cd_20, cd_28, cd_60, cd_1000000, big, fEq_int, fNe_int, DL.atI_0, DL.atI_1, DL.atI_2, runF, runR, gVar, gC, DL.gNil, DL.gCons, gOp, gUn, fNeg, gTest, gTru, gChain, gIf, gAndV, gOrV, gNotV, bNot, bAnd, bOr, gCall, fCall, toSls, toSl, slotsOf, put, putL, sameKind, res, resA, gCB, fCB, gF, fLst, DL.gTup, allD, gRep, gSl, oNo, oInt, wipeR, restR, noL, fLc, bYes, fSumL, lists_map, cSorted, cSortSet, DL.ints_map, gIsi, noD, tyN, isiB, sNext, sSeq, sNever, sBreak, sCont, sExpr, sRet, sRetN, sRetF, sRetO, sIf, sFrz, frzAt, sSet, sSetO, sAsg, sPar, gtName, gtNil, gtCons, gtTup, gtLst, stay, iSeq, iTpl, iRange1_eq, iRange2_eq, rg1_2, rg1_3, rg1_4, iEnumD, iZipD, sFor, sApp, sPutIx, sAug, getL, frz, frz1, fLt_i, fLe_i, fGt_i, fGe_i, fIsN, fNotN, fAdd_i, fAdd_l, fSub_i, fMul_i, fDiv_i, fMod_i, fPow_i, fIx, fTru, cLen, cInt, List.getElem?_cons_zero, List.getElem?_cons_succ, List.getElem?_nil, List.set_cons_zero, List.set_cons_succ, List.set_nil, List.replicate, List.cons_append, List.nil_append, List.append_nil, List.map_cons, List.map_nil, List.take_succ_cons, List.take_zero, List.take_nil, List.nodup_nil, List.nodup_cons, List.not_mem_nil, List.mem_cons, List.length_cons, List.length_nil, Option.bind_some, Option.bind_none, Option.map_some, Option.map_none, Option.some_or, Option.none_or, Option.or_none, Nat.reduceAdd, Nat.reduceSub, if_true, if_false, ite_true, ite_false, reduceIte, Bool.false_eq_true, Bool.not_true, Bool.not_false, decide_true, decide_false, and_self, and_true, true_and, not_false_eq_true, not_true_eq_false, or_false, false_or, or_true, true_or, reduceCtorEq, forall_const, implies_true, Bool.true_and, Bool.and_true, Bool.false_and, Bool.and_false, Bool.or_true, Bool.or_false, Bool.true_or, Bool.false_or]
noncomputable def inE : EF := gOp fInS (gVar 2) (gC (.str "0123456789"))
theorem in_lc {s0 s1 : Sl} {L : List Nat} (hz : L.length ≤ 1000) (s2 : Sl) : ∃ s2', lcGo (gtName 2) bYes inE [2] (L.map sgn) [] [s0, s1, s2] = some ((L.map digB).map .bool, [s0, s1, s2']) := by
  obtain ⟨ρ', e, s2', rfl⟩ := lc_mapM (t := gtName 2) (c := bYes) (g := inE) (vs := [2]) (S := fun ρ => ∃ s2, ρ = [s0, s1, s2]) (ρ := [s0, s1, s2]) sgn L (fun c => .bool (digB c)) ⟨_, rfl⟩ (by omega) fun c hc ρ ⟨s2, hρ⟩ => by
    subst hρ
    have q : fInS (sgn c) (.str "0123456789") = some (.bool (digB c)) := by
      rw [← dig_mem c]
      rfl
    generalize sgn c = d at *
    exact ⟨[s0, s1, .v d], [s0, s1, .v d], [s0, s1, .v d], rfl, rfl, by simp only [inE, q, Nat.reduceLeDiff, Nat.reduceSub, cd_2, cd_3, cd_4, cd_5, cd_6, cd_7, cd_12, cd_20, cd_28, cd_60, cd_1000000, big, fEq_int, fNe_int, DL.atI_0, DL.atI_1, DL.atI_2, runF, runR, gVar, gC, DL.gNil, DL.gCons, gOp, gUn, fNeg, gTest, gTru, gChain, gIf, gAndV, gOrV, gNotV, bNot, bAnd, bOr, gCall, fCall, toSls, toSl, slotsOf, put, putL, sameKind, res, resA, gCB, fCB, gF, fLst, DL.gTup, allD, gRep, gSl, oNo, oInt, wipeR, restR, noL, fLc, bYes, fSumL, lists_map, cSorted, cSortSet, DL.ints_map, gIsi, noD, tyN, isiB, sNext, sSeq, sNever, sBreak, sCont, sExpr, sRet, sRetN, sRetF, sRetO, sIf, sFrz, frzAt, sSet, sSetO, sAsg, sPar, gtName, gtNil, gtCons, gtTup, gtLst, stay, iSeq, iTpl, iRange1_eq, iRange2_eq, rg1_2, rg1_3, rg1_4, iEnumD, iZipD, sFor, sApp, sPutIx, sAug, getL, frz, frz1, fLt_i, fLe_i, fGt_i, fGe_i, fIsN, fNotN, fAdd_i, fAdd_l, fSub_i, fMul_i, fDiv_i, fMod_i, fPow_i, fIx, fTru, cLen, cInt, List.getElem?_cons_zero, List.getElem?_cons_succ, List.getElem?_nil, List.set_cons_zero, List.set_cons_succ, List.set_nil, List.replicate, List.cons_append, List.nil_append, List.append_nil, List.map_cons, List.map_nil, List.take_succ_cons, List.take_zero, List.take_nil, List.nodup_nil, List.nodup_cons, List.not_mem_nil, List.mem_cons, List.length_cons, List.length_nil, Option.bind_some, Option.bind_none, Option.map_some, Option.map_none, Option.some_or, Option.none_or, Option.or_none, Nat.reduceAdd, Nat.reduceSub, if_true, if_false, ite_true, ite_false, reduceIte, Bool.false_eq_true, Bool.not_true, Bool.not_false, decide_true, decide_false, and_self, and_true, true_and, not_false_eq_true, not_true_eq_false, or_false, false_or, or_true, true_or, reduceCtorEq, forall_const, implies_true, Bool.true_and, Bool.and_true, Bool.false_and, Bool.and_false, Bool.or_true, Bool.or_false, Bool.true_or, Bool.false_or], ⟨_, rfl⟩, _, rfl⟩
  refine ⟨s2', ?_⟩
  rw [e, List.map_map]
  rfl
noncomputable def noC : BF := gTest (gOp fNotInS (gVar 2) (gC (.str "0123456789")))
theorem no_lc {s0 s1 : Sl} {L : List Nat} (hz : L.length ≤ 1000) (s2 : Sl) : ∃ s2', lcGo (gtName 2) noC (gVar 2) [2] (L.map sgn) [] [s0, s1, s2] = some ((L.filter fun c => !digB c).map sgn, [s0, s1, s2']) := by
  obtain ⟨ρ', e, s2', rfl⟩ := lc_filterM (t := gtName 2) (c := noC) (g := gVar 2) (vs := [2]) (S := fun ρ => ∃ s2, ρ = [s0, s1, s2]) (ρ := [s0, s1, s2]) sgn L (fun c => !digB c) sgn ⟨_, rfl⟩ (by omega) fun c hc ρ ⟨s2, hρ⟩ => by
    subst hρ
    have q : fNotInS (sgn c) (.str "0123456789") = some (.bool (!digB c)) := by
      rw [← dig_mem c]
      rfl
    generalize sgn c = d at *
    exact ⟨[s0, s1, .v d], [s0, s1, .v d], rfl, by simp only [noC, q, Nat.reduceLeDiff, Nat.reduceSub, cd_2, cd_3, cd_4, cd_5, cd_6, cd_7, cd_12, cd_20, cd_28, cd_60, cd_1000000, big, fEq_int, fNe_int, DL.atI_0, DL.atI_1, DL.atI_2, runF, runR, gVar, gC, DL.gNil, DL.gCons, gOp, gUn, fNeg, gTest, gTru, gChain, gIf, gAndV, gOrV, gNotV, bNot, bAnd, bOr, gCall, fCall, toSls, toSl, slotsOf, put, putL, sameKind, res, resA, gCB, fCB, gF, fLst, DL.gTup, allD, gRep, gSl, oNo, oInt, wipeR, restR, noL, fLc, bYes, fSumL, lists_map, cSorted, cSortSet, DL.ints_map, gIsi, noD, tyN, isiB, sNext, sSeq, sNever, sBreak, sCont, sExpr, sRet, sRetN, sRetF, sRetO, sIf, sFrz, frzAt, sSet, sSetO, sAsg, sPar, gtName, gtNil, gtCons, gtTup, gtLst, stay, iSeq, iTpl, iRange1_eq, iRange2_eq, rg1_2, rg1_3, rg1_4, iEnumD, iZipD, sFor, sApp, sPutIx, sAug, getL, frz, frz1, fLt_i, fLe_i, fGt_i, fGe_i, fIsN, fNotN, fAdd_i, fAdd_l, fSub_i, fMul_i, fDiv_i, fMod_i, fPow_i, fIx, fTru, cLen, cInt, List.getElem?_cons_zero, List.getElem?_cons_succ, List.getElem?_nil, List.set_cons_zero, List.set_cons_succ, List.set_nil, List.replicate, List.cons_append, List.nil_append, List.append_nil, List.map_cons, List.map_nil, List.take_succ_cons, List.take_zero, List.take_nil, List.nodup_nil, List.nodup_cons, List.not_mem_nil, List.mem_cons, List.length_cons, List.length_nil, Option.bind_some, Option.bind_none, Option.map_some, Option.map_none, Option.some_or, Option.none_or, Option.or_none, Nat.reduceAdd, Nat.reduceSub, if_true, if_false, ite_true, ite_false, reduceIte, Bool.false_eq_true, Bool.not_true, Bool.not_false, decide_true, decide_false, and_self, and_true, true_and, not_false_eq_true, not_true_eq_false, or_false, false_or, or_true, true_or, reduceCtorEq, forall_const, implies_true, Bool.true_and, Bool.and_true, Bool.false_and, Bool.and_false, Bool.or_true, Bool.or_false, Bool.true_or, Bool.false_or], ⟨_, rfl⟩, fun _ => ⟨[s0, s1, .v d], rfl, _, rfl⟩⟩
  exact ⟨s2', e⟩
theorem head_ev {f : Str} {c : Nat} {r : List Nat} (h : tl f = c :: r) : atI (tl f) 0 = some c ∧ fEqX (.str { cps := #[c] }) (.str "0") = some (.bool (decide ((tl f).take 1 = [48]))) := by
  constructor
  · rw [h]
    exact DL.atI_0
  · show some (PyData.bool (_ == _)) = _
    rw [beq_tl, tl_0, h]
    rfl
theorem bools_map : ∀ bs : List Bool, bools? (bs.map .bool) = some bs
  | [] => rfl
  | b :: r => by simp [bools?, bools_map r]
noncomputable def nmT : SF := (sSeq (sIf (bOr (gTest (gOp fEqX (gVar 1) (gC (.str "")))) (bNot (gTru (gCB cAll (DL.gCons (gF (fLc (iTxt (gVar 1)) (gtName 2) bYes inE [2])) DL.gNil))))) (sRet (gC .none)) sNext)
  (sSeq (sIf (bAnd (gTest (gOp fEqX (gOp fIx (gVar 1) (gC (.int 0))) (gC (.str "0")))) (gTest (gOp fNeX (gVar 0) (gC (.str "0"))))) (sRet (gC .none)) sNext)
  (sRet (gCB cIntS (DL.gCons (gVar 0) DL.gNil)))))
noncomputable def lwT : SF := (sSeq (sIf (bOr (gTest (gOp fEqX (gVar 1) (gC (.str "")))) (gTest (gOp fNe0 (gF (fLc (iTxt (gVar 1)) (gtName 2) noC (gVar 2) [2])) (gF (fLst DL.gNil))))) (sRet (gC .none)) sNext)
  (sRet (gIf (bAnd (gTest (gOp fEqX (gOp fIx (gVar 1) (gC (.int 0))) (gC (.str "0")))) (gTest (gOp fNeX (gVar 0) (gC (.str "0"))))) (gC .none) (gCB cIntS (DL.gCons (gVar 0) DL.gNil)))))
theorem rest_ev {s f : Str} (hs : s.length ≤ 640) (hf : tl f = figL (tl s)) (hl : f.length ≤ 640) : (∃ ρ', nmT [.v (.str s), .v (.str f), .un] = some (.rt (oI (numO s)) (.v (.str s) :: ρ'))) ∧ (∃ ρ', lwT [.v (.str s), .v (.str f), .un] = some (.rt (oI (numO s)) (.v (.str s) :: ρ'))) := by
  have e0 : fEqX (.str f) (.str "") = some (.bool (decide (figL (tl s) = []))) := by
    show some (PyData.bool (_ == _)) = _
    rw [beq_tl, tl_emp, hf]
  have ez : fNeX (.str s) (.str "0") = some (.bool (!decide (tl s = [48]))) := by
    show some (PyData.bool (!(_ == _))) = _
    rw [beq_tl, tl_0]
  have lz : (tl f).length ≤ 1000 := by rw [← len_tl]; omega
  have ef : f.cps.toList = tl f := rfl
  by_cases h1 : figL (tl s) = []
  · rw [decide_eq_true h1] at e0
    have nb : numO s = none := by
      rw [numO, if_neg]
      rw [numB, decide_eq_true h1]
      simp
    rw [nb]
    exact ⟨⟨_, by simp only [nmT, e0, oI, Nat.reduceLeDiff, Nat.reduceSub, cd_2, cd_3, cd_4, cd_5, cd_6, cd_7, cd_12, cd_20, cd_28, cd_60, cd_1000000, big, fEq_int, fNe_int, DL.atI_0, DL.atI_1, DL.atI_2, runF, runR, gVar, gC, DL.gNil, DL.gCons, gOp, gUn, fNeg, gTest, gTru, gChain, gIf, gAndV, gOrV, gNotV, bNot, bAnd, bOr, gCall, fCall, toSls, toSl, slotsOf, put, putL, sameKind, res, resA, gCB, fCB, gF, fLst, DL.gTup, allD, gRep, gSl, oNo, oInt, wipeR, restR, noL, fLc, bYes, fSumL, lists_map, cSorted, cSortSet, DL.ints_map, gIsi, noD, tyN, isiB, sNext, sSeq, sNever, sBreak, sCont, sExpr, sRet, sRetN, sRetF, sRetO, sIf, sFrz, frzAt, sSet, sSetO, sAsg, sPar, gtName, gtNil, gtCons, gtTup, gtLst, stay, iSeq, iTpl, iRange1_eq, iRange2_eq, rg1_2, rg1_3, rg1_4, iEnumD, iZipD, sFor, sApp, sPutIx, sAug, getL, frz, frz1, fLt_i, fLe_i, fGt_i, fGe_i, fIsN, fNotN, fAdd_i, fAdd_l, fSub_i, fMul_i, fDiv_i, fMod_i, fPow_i, fIx, fTru, cLen, cInt, List.getElem?_cons_zero, List.getElem?_cons_succ, List.getElem?_nil, List.set_cons_zero, List.set_cons_succ, List.set_nil, List.replicate, List.cons_append, List.nil_append, List.append_nil, List.map_cons, List.map_nil, List.take_succ_cons, List.take_zero, List.take_nil, List.nodup_nil, List.nodup_cons, List.not_mem_nil, List.mem_cons, List.length_cons, List.length_nil, Option.bind_some, Option.bind_none, Option.map_some, Option.map_none, Option.some_or, Option.none_or, Option.or_none, Nat.reduceAdd, Nat.reduceSub, if_true, if_false, ite_true, ite_false, reduceIte, Bool.false_eq_true, Bool.not_true, Bool.not_false, decide_true, decide_false, and_self, and_true, true_and, not_false_eq_true, not_true_eq_false, or_false, false_or, or_true, true_or, reduceCtorEq, forall_const, implies_true, Bool.true_and, Bool.and_true, Bool.false_and, Bool.and_false, Bool.or_true, Bool.or_false, Bool.true_or, Bool.false_or]; rfl⟩, ⟨_, by simp only [lwT, e0, oI, Nat.reduceLeDiff, Nat.reduceSub, cd_2, cd_3, cd_4, cd_5, cd_6, cd_7, cd_12, cd_20, cd_28, cd_60, cd_1000000, big, fEq_int, fNe_int, DL.atI_0, DL.atI_1, DL.atI_2, runF, runR, gVar, gC, DL.gNil, DL.gCons, gOp, gUn, fNeg, gTest, gTru, gChain, gIf, gAndV, gOrV, gNotV, bNot, bAnd, bOr, gCall, fCall, toSls, toSl, slotsOf, put, putL, sameKind, res, resA, gCB, fCB, gF, fLst, DL.gTup, allD, gRep, gSl, oNo, oInt, wipeR, restR, noL, fLc, bYes, fSumL, lists_map, cSorted, cSortSet, DL.ints_map, gIsi, noD, tyN, isiB, sNext, sSeq, sNever, sBreak, sCont, sExpr, sRet, sRetN, sRetF, sRetO, sIf, sFrz, frzAt, sSet, sSetO, sAsg, sPar, gtName, gtNil, gtCons, gtTup, gtLst, stay, iSeq, iTpl, iRange1_eq, iRange2_eq, rg1_2, rg1_3, rg1_4, iEnumD, iZipD, sFor, sApp, sPutIx, sAug, getL, frz, frz1, fLt_i, fLe_i, fGt_i, fGe_i, fIsN, fNotN, fAdd_i, fAdd_l, fSub_i, fMul_i, fDiv_i, fMod_i, fPow_i, fIx, fTru, cLen, cInt, List.getElem?_cons_zero, List.getElem?_cons_succ, List.getElem?_nil, List.set_cons_zero, List.set_cons_succ, List.set_nil, List.replicate, List.cons_append, List.nil_append, List.append_nil, List.map_cons, List.map_nil, List.take_succ_cons, List.take_zero, List.take_nil, List.nodup_nil, List.nodup_cons, List.not_mem_nil, List.mem_cons, List.length_cons, List.length_nil, Option.bind_some, Option.bind_none, Option.map_some, Option.map_none, Option.some_or, Option.none_or, Option.or_none, Nat.reduceAdd, Nat.reduceSub, if_true, if_false, ite_true, ite_false, reduceIte, Bool.false_eq_true, Bool.not_true, Bool.not_false, decide_true, decide_false, and_self, and_true, true_and, not_false_eq_true, not_true_eq_false, or_false, false_or, or_true, true_or, reduceCtorEq, forall_const, implies_true, Bool.true_and, Bool.and_true, Bool.false_and, Bool.and_false, Bool.or_true, Bool.or_false, Bool.true_or, Bool.false_or]; rfl⟩⟩
  · rw [decide_eq_false h1] at e0
    obtain ⟨x2, e1⟩ := in_lc (s0 := .v (.str s)) (s1 := .v (.str f)) lz .un
    obtain ⟨y2, e2⟩ := no_lc (s0 := .v (.str s)) (s1 := .v (.str f)) lz .un
    have b1 := bools_map ((tl f).map digB)
    have a1 : ((tl f).map digB).all id = (tl f).all digB := by rw [List.all_map]; rfl
    have n0 := fNe0_L (((tl f).filter fun c => !digB c).map sgn)
    have ne : (((tl f).filter fun c => !digB c).map sgn).isEmpty = (tl f).all digB := by
      induction tl f with
      | nil => rfl
      | cons a r ih =>
        cases ha : digB a with
        | true => simp [ha] at ih ⊢; exact ih
        | false => simp [ha]
    rw [ne] at n0
    cases h2 : (tl f).all digB with
    | false =>
      rw [h2] at a1 n0
      have nb : numO s = none := by
        rw [numO, if_neg]
        rw [numB, ← hf, h2]
        simp
      rw [nb]
      generalize (tl f).map digB = BL at *
      generalize ((tl f).filter fun c => !digB c).map sgn = FL at *
      exact ⟨⟨_, by simp only [nmT, iTxt, ef, e0, e1, cAll, b1, a1, oI, Nat.reduceLeDiff, Nat.reduceSub, cd_2, cd_3, cd_4, cd_5, cd_6, cd_7, cd_12, cd_20, cd_28, cd_60, cd_1000000, big, fEq_int, fNe_int, DL.atI_0, DL.atI_1, DL.atI_2, runF, runR, gVar, gC, DL.gNil, DL.gCons, gOp, gUn, fNeg, gTest, gTru, gChain, gIf, gAndV, gOrV, gNotV, bNot, bAnd, bOr, gCall, fCall, toSls, toSl, slotsOf, put, putL, sameKind, res, resA, gCB, fCB, gF, fLst, DL.gTup, allD, gRep, gSl, oNo, oInt, wipeR, restR, noL, fLc, bYes, fSumL, lists_map, cSorted, cSortSet, DL.ints_map, gIsi, noD, tyN, isiB, sNext, sSeq, sNever, sBreak, sCont, sExpr, sRet, sRetN, sRetF, sRetO, sIf, sFrz, frzAt, sSet, sSetO, sAsg, sPar, gtName, gtNil, gtCons, gtTup, gtLst, stay, iSeq, iTpl, iRange1_eq, iRange2_eq, rg1_2, rg1_3, rg1_4, iEnumD, iZipD, sFor, sApp, sPutIx, sAug, getL, frz, frz1, fLt_i, fLe_i, fGt_i, fGe_i, fIsN, fNotN, fAdd_i, fAdd_l, fSub_i, fMul_i, fDiv_i, fMod_i, fPow_i, fIx, fTru, cLen, cInt, List.getElem?_cons_zero, List.getElem?_cons_succ, List.getElem?_nil, List.set_cons_zero, List.set_cons_succ, List.set_nil, List.replicate, List.cons_append, List.nil_append, List.append_nil, List.map_cons, List.map_nil, List.take_succ_cons, List.take_zero, List.take_nil, List.nodup_nil, List.nodup_cons, List.not_mem_nil, List.mem_cons, List.length_cons, List.length_nil, Option.bind_some, Option.bind_none, Option.map_some, Option.map_none, Option.some_or, Option.none_or, Option.or_none, Nat.reduceAdd, Nat.reduceSub, if_true, if_false, ite_true, ite_false, reduceIte, Bool.false_eq_true, Bool.not_true, Bool.not_false, decide_true, decide_false, and_self, and_true, true_and, not_false_eq_true, not_true_eq_false, or_false, false_or, or_true, true_or, reduceCtorEq, forall_const, implies_true, Bool.true_and, Bool.and_true, Bool.false_and, Bool.and_false, Bool.or_true, Bool.or_false, Bool.true_or, Bool.false_or]; rfl⟩, ⟨_, by simp only [lwT, iTxt, ef, e0, e2, n0, oI, Nat.reduceLeDiff, Nat.reduceSub, cd_2, cd_3, cd_4, cd_5, cd_6, cd_7, cd_12, cd_20, cd_28, cd_60, cd_1000000, big, fEq_int, fNe_int, DL.atI_0, DL.atI_1, DL.atI_2, runF, runR, gVar, gC, DL.gNil, DL.gCons, gOp, gUn, fNeg, gTest, gTru, gChain, gIf, gAndV, gOrV, gNotV, bNot, bAnd, bOr, gCall, fCall, toSls, toSl, slotsOf, put, putL, sameKind, res, resA, gCB, fCB, gF, fLst, DL.gTup, allD, gRep, gSl, oNo, oInt, wipeR, restR, noL, fLc, bYes, fSumL, lists_map, cSorted, cSortSet, DL.ints_map, gIsi, noD, tyN, isiB, sNext, sSeq, sNever, sBreak, sCont, sExpr, sRet, sRetN, sRetF, sRetO, sIf, sFrz, frzAt, sSet, sSetO, sAsg, sPar, gtName, gtNil, gtCons, gtTup, gtLst, stay, iSeq, iTpl, iRange1_eq, iRange2_eq, rg1_2, rg1_3, rg1_4, iEnumD, iZipD, sFor, sApp, sPutIx, sAug, getL, frz, frz1, fLt_i, fLe_i, fGt_i, fGe_i, fIsN, fNotN, fAdd_i, fAdd_l, fSub_i, fMul_i, fDiv_i, fMod_i, fPow_i, fIx, fTru, cLen, cInt, List.getElem?_cons_zero, List.getElem?_cons_succ, List.getElem?_nil, List.set_cons_zero, List.set_cons_succ, List.set_nil, List.replicate, List.cons_append, List.nil_append, List.append_nil, List.map_cons, List.map_nil, List.take_succ_cons, List.take_zero, List.take_nil, List.nodup_nil, List.nodup_cons, List.not_mem_nil, List.mem_cons, List.length_cons, List.length_nil, Option.bind_some, Option.bind_none, Option.map_some, Option.map_none, Option.some_or, Option.none_or, Option.or_none, Nat.reduceAdd, Nat.reduceSub, if_true, if_false, ite_true, ite_false, reduceIte, Bool.false_eq_true, Bool.not_true, Bool.not_false, decide_true, decide_false, and_self, and_true, true_and, not_false_eq_true, not_true_eq_false, or_false, false_or, or_true, true_or, reduceCtorEq, forall_const, implies_true, Bool.true_and, Bool.and_true, Bool.false_and, Bool.and_false, Bool.or_true, Bool.or_false, Bool.true_or, Bool.false_or]; rfl⟩⟩
    | true =>
      rw [h2] at a1 n0
      obtain ⟨c, r, hc⟩ : ∃ c r, tl f = c :: r := by
        cases hq : tl f with
        | nil => rw [hf] at hq; exact absurd hq h1
        | cons c r => exact ⟨c, r, rfl⟩
      obtain ⟨i0, i1⟩ := head_ev hc
      have hl6 : f.length ≤ 1000000 := by omega
      rw [hf] at i1
      have nb : numB (tl s) = !(decide ((figL (tl s)).take 1 = [48]) && !decide (tl s = [48])) := by
        rw [numB, ← hf, h2, hf, decide_eq_false h1]
        simp
      clear hc ne
      generalize (tl f).map digB = BL at *
      generalize ((tl f).filter fun c => !digB c).map sgn = FL at *
      cases h3 : decide ((figL (tl s)).take 1 = [48]) with
      | false =>
        rw [h3] at i1 nb
        have nb : numB (tl s) = true := by rw [nb]; rfl
        obtain ⟨⟨v, hv, _⟩, _⟩ := num_val nb hs
        have no : numO s = some v := by rw [numO, if_pos nb, hv]
        have ci : cIntS [.str s] = some (.int v) := by
          show (if s.length ≤ 640 then _ else _) = _
          rw [if_pos hs, hv]
          rfl
        rw [no]
        exact ⟨⟨_, by simp only [nmT, iTxt, ef, e0, e1, cAll, b1, a1, i0, i1, hl6, ci, oI, Nat.reduceLeDiff, Nat.reduceSub, cd_2, cd_3, cd_4, cd_5, cd_6, cd_7, cd_12, cd_20, cd_28, cd_60, cd_1000000, big, fEq_int, fNe_int, DL.atI_0, DL.atI_1, DL.atI_2, runF, runR, gVar, gC, DL.gNil, DL.gCons, gOp, gUn, fNeg, gTest, gTru, gChain, gIf, gAndV, gOrV, gNotV, bNot, bAnd, bOr, gCall, fCall, toSls, toSl, slotsOf, put, putL, sameKind, res, resA, gCB, fCB, gF, fLst, DL.gTup, allD, gRep, gSl, oNo, oInt, wipeR, restR, noL, fLc, bYes, fSumL, lists_map, cSorted, cSortSet, DL.ints_map, gIsi, noD, tyN, isiB, sNext, sSeq, sNever, sBreak, sCont, sExpr, sRet, sRetN, sRetF, sRetO, sIf, sFrz, frzAt, sSet, sSetO, sAsg, sPar, gtName, gtNil, gtCons, gtTup, gtLst, stay, iSeq, iTpl, iRange1_eq, iRange2_eq, rg1_2, rg1_3, rg1_4, iEnumD, iZipD, sFor, sApp, sPutIx, sAug, getL, frz, frz1, fLt_i, fLe_i, fGt_i, fGe_i, fIsN, fNotN, fAdd_i, fAdd_l, fSub_i, fMul_i, fDiv_i, fMod_i, fPow_i, fIx, fTru, cLen, cInt, List.getElem?_cons_zero, List.getElem?_cons_succ, List.getElem?_nil, List.set_cons_zero, List.set_cons_succ, List.set_nil, List.replicate, List.cons_append, List.nil_append, List.append_nil, List.map_cons, List.map_nil, List.take_succ_cons, List.take_zero, List.take_nil, List.nodup_nil, List.nodup_cons, List.not_mem_nil, List.mem_cons, List.length_cons, List.length_nil, Option.bind_some, Option.bind_none, Option.map_some, Option.map_none, Option.some_or, Option.none_or, Option.or_none, Nat.reduceAdd, Nat.reduceSub, if_true, if_false, ite_true, ite_false, reduceIte, Bool.false_eq_true, Bool.not_true, Bool.not_false, decide_true, decide_false, and_self, and_true, true_and, not_false_eq_true, not_true_eq_false, or_false, false_or, or_true, true_or, reduceCtorEq, forall_const, implies_true, Bool.true_and, Bool.and_true, Bool.false_and, Bool.and_false, Bool.or_true, Bool.or_false, Bool.true_or, Bool.false_or]; rfl⟩, ⟨_, by simp only [lwT, gIf, iTxt, ef, e0, e2, n0, i0, i1, hl6, ci, oI, Nat.reduceLeDiff, Nat.reduceSub, cd_2, cd_3, cd_4, cd_5, cd_6, cd_7, cd_12, cd_20, cd_28, cd_60, cd_1000000, big, fEq_int, fNe_int, DL.atI_0, DL.atI_1, DL.atI_2, runF, runR, gVar, gC, DL.gNil, DL.gCons, gOp, gUn, fNeg, gTest, gTru, gChain, gIf, gAndV, gOrV, gNotV, bNot, bAnd, bOr, gCall, fCall, toSls, toSl, slotsOf, put, putL, sameKind, res, resA, gCB, fCB, gF, fLst, DL.gTup, allD, gRep, gSl, oNo, oInt, wipeR, restR, noL, fLc, bYes, fSumL, lists_map, cSorted, cSortSet, DL.ints_map, gIsi, noD, tyN, isiB, sNext, sSeq, sNever, sBreak, sCont, sExpr, sRet, sRetN, sRetF, sRetO, sIf, sFrz, frzAt, sSet, sSetO, sAsg, sPar, gtName, gtNil, gtCons, gtTup, gtLst, stay, iSeq, iTpl, iRange1_eq, iRange2_eq, rg1_2, rg1_3, rg1_4, iEnumD, iZipD, sFor, sApp, sPutIx, sAug, getL, frz, frz1, fLt_i, fLe_i, fGt_i, fGe_i, fIsN, fNotN, fAdd_i, fAdd_l, fSub_i, fMul_i, fDiv_i, fMod_i, fPow_i, fIx, fTru, cLen, cInt, List.getElem?_cons_zero, List.getElem?_cons_succ, List.getElem?_nil, List.set_cons_zero, List.set_cons_succ, List.set_nil, List.replicate, List.cons_append, List.nil_append, List.append_nil, List.map_cons, List.map_nil, List.take_succ_cons, List.take_zero, List.take_nil, List.nodup_nil, List.nodup_cons, List.not_mem_nil, List.mem_cons, List.length_cons, List.length_nil, Option.bind_some, Option.bind_none, Option.map_some, Option.map_none, Option.some_or, Option.none_or, Option.or_none, Nat.reduceAdd, Nat.reduceSub, if_true, if_false, ite_true, ite_false, reduceIte, Bool.false_eq_true, Bool.not_true, Bool.not_false, decide_true, decide_false, and_self, and_true, true_and, not_false_eq_true, not_true_eq_false, or_false, false_or, or_true, true_or, reduceCtorEq, forall_const, implies_true, Bool.true_and, Bool.and_true, Bool.false_and, Bool.and_false, Bool.or_true, Bool.or_false, Bool.true_or, Bool.false_or]; rfl⟩⟩
      | true =>
        rw [h3] at i1 nb
        cases h4 : decide (tl s = [48]) with
        | true =>
          rw [h4] at ez nb
          have nb : numB (tl s) = true := by rw [nb]; rfl
          obtain ⟨⟨v, hv, _⟩, _⟩ := num_val nb hs
          have no : numO s = some v := by rw [numO, if_pos nb, hv]
          have ci : cIntS [.str s] = some (.int v) := by
            show (if s.length ≤ 640 then _ else _) = _
            rw [if_pos hs, hv]
            rfl
          rw [no]
          exact ⟨⟨_, by simp only [nmT, iTxt, ef, e0, e1, cAll, b1, a1, i0, i1, hl6, ez, ci, oI, Nat.reduceLeDiff, Nat.reduceSub, cd_2, cd_3, cd_4, cd_5, cd_6, cd_7, cd_12, cd_20, cd_28, cd_60, cd_1000000, big, fEq_int, fNe_int, DL.atI_0, DL.atI_1, DL.atI_2, runF, runR, gVar, gC, DL.gNil, DL.gCons, gOp, gUn, fNeg, gTest, gTru, gChain, gIf, gAndV, gOrV, gNotV, bNot, bAnd, bOr, gCall, fCall, toSls, toSl, slotsOf, put, putL, sameKind, res, resA, gCB, fCB, gF, fLst, DL.gTup, allD, gRep, gSl, oNo, oInt, wipeR, restR, noL, fLc, bYes, fSumL, lists_map, cSorted, cSortSet, DL.ints_map, gIsi, noD, tyN, isiB, sNext, sSeq, sNever, sBreak, sCont, sExpr, sRet, sRetN, sRetF, sRetO, sIf, sFrz, frzAt, sSet, sSetO, sAsg, sPar, gtName, gtNil, gtCons, gtTup, gtLst, stay, iSeq, iTpl, iRange1_eq, iRange2_eq, rg1_2, rg1_3, rg1_4, iEnumD, iZipD, sFor, sApp, sPutIx, sAug, getL, frz, frz1, fLt_i, fLe_i, fGt_i, fGe_i, fIsN, fNotN, fAdd_i, fAdd_l, fSub_i, fMul_i, fDiv_i, fMod_i, fPow_i, fIx, fTru, cLen, cInt, List.getElem?_cons_zero, List.getElem?_cons_succ, List.getElem?_nil, List.set_cons_zero, List.set_cons_succ, List.set_nil, List.replicate, List.cons_append, List.nil_append, List.append_nil, List.map_cons, List.map_nil, List.take_succ_cons, List.take_zero, List.take_nil, List.nodup_nil, List.nodup_cons, List.not_mem_nil, List.mem_cons, List.length_cons, List.length_nil, Option.bind_some, Option.bind_none, Option.map_some, Option.map_none, Option.some_or, Option.none_or, Option.or_none, Nat.reduceAdd, Nat.reduceSub, if_true, if_false, ite_true, ite_false, reduceIte, Bool.false_eq_true, Bool.not_true, Bool.not_false, decide_true, decide_false, and_self, and_true, true_and, not_false_eq_true, not_true_eq_false, or_false, false_or, or_true, true_or, reduceCtorEq, forall_const, implies_true, Bool.true_and, Bool.and_true, Bool.false_and, Bool.and_false, Bool.or_true, Bool.or_false, Bool.true_or, Bool.false_or]; rfl⟩, ⟨_, by simp only [lwT, gIf, iTxt, ef, e0, e2, n0, i0, i1, hl6, ez, ci, oI, Nat.reduceLeDiff, Nat.reduceSub, cd_2, cd_3, cd_4, cd_5, cd_6, cd_7, cd_12, cd_20, cd_28, cd_60, cd_1000000, big, fEq_int, fNe_int, DL.atI_0, DL.atI_1, DL.atI_2, runF, runR, gVar, gC, DL.gNil, DL.gCons, gOp, gUn, fNeg, gTest, gTru, gChain, gIf, gAndV, gOrV, gNotV, bNot, bAnd, bOr, gCall, fCall, toSls, toSl, slotsOf, put, putL, sameKind, res, resA, gCB, fCB, gF, fLst, DL.gTup, allD, gRep, gSl, oNo, oInt, wipeR, restR, noL, fLc, bYes, fSumL, lists_map, cSorted, cSortSet, DL.ints_map, gIsi, noD, tyN, isiB, sNext, sSeq, sNever, sBreak, sCont, sExpr, sRet, sRetN, sRetF, sRetO, sIf, sFrz, frzAt, sSet, sSetO, sAsg, sPar, gtName, gtNil, gtCons, gtTup, gtLst, stay, iSeq, iTpl, iRange1_eq, iRange2_eq, rg1_2, rg1_3, rg1_4, iEnumD, iZipD, sFor, sApp, sPutIx, sAug, getL, frz, frz1, fLt_i, fLe_i, fGt_i, fGe_i, fIsN, fNotN, fAdd_i, fAdd_l, fSub_i, fMul_i, fDiv_i, fMod_i, fPow_i, fIx, fTru, cLen, cInt, List.getElem?_cons_zero, List.getElem?_cons_succ, List.getElem?_nil, List.set_cons_zero, List.set_cons_succ, List.set_nil, List.replicate, List.cons_append, List.nil_append, List.append_nil, List.map_cons, List.map_nil, List.take_succ_cons, List.take_zero, List.take_nil, List.nodup_nil, List.nodup_cons, List.not_mem_nil, List.mem_cons, List.length_cons, List.length_nil, Option.bind_some, Option.bind_none, Option.map_some, Option.map_none, Option.some_or, Option.none_or, Option.or_none, Nat.reduceAdd, Nat.reduceSub, if_true, if_false, ite_true, ite_false, reduceIte, Bool.false_eq_true, Bool.not_true, Bool.not_false, decide_true, decide_false, and_self, and_true, true_and, not_false_eq_true, not_true_eq_false, or_false, false_or, or_true, true_or, reduceCtorEq, forall_const, implies_true, Bool.true_and, Bool.and_true, Bool.false_and, Bool.and_false, Bool.or_true, Bool.or_false, Bool.true_or, Bool.false_or]; rfl⟩⟩
        | false =>
          rw [h4] at ez nb
          have no : numO s = none := by
            rw [numO, if_neg]
            rw [nb]
            decide
          rw [no]
          exact ⟨⟨_, by simp only [nmT, iTxt, ef, e0, e1, cAll, b1, a1, i0, i1, hl6, ez, oI, Nat.reduceLeDiff, Nat.reduceSub, cd_2, cd_3, cd_4, cd_5, cd_6, cd_7, cd_12, cd_20, cd_28, cd_60, cd_1000000, big, fEq_int, fNe_int, DL.atI_0, DL.atI_1, DL.atI_2, runF, runR, gVar, gC, DL.gNil, DL.gCons, gOp, gUn, fNeg, gTest, gTru, gChain, gIf, gAndV, gOrV, gNotV, bNot, bAnd, bOr, gCall, fCall, toSls, toSl, slotsOf, put, putL, sameKind, res, resA, gCB, fCB, gF, fLst, DL.gTup, allD, gRep, gSl, oNo, oInt, wipeR, restR, noL, fLc, bYes, fSumL, lists_map, cSorted, cSortSet, DL.ints_map, gIsi, noD, tyN, isiB, sNext, sSeq, sNever, sBreak, sCont, sExpr, sRet, sRetN, sRetF, sRetO, sIf, sFrz, frzAt, sSet, sSetO, sAsg, sPar, gtName, gtNil, gtCons, gtTup, gtLst, stay, iSeq, iTpl, iRange1_eq, iRange2_eq, rg1_2, rg1_3, rg1_4, iEnumD, iZipD, sFor, sApp, sPutIx, sAug, getL, frz, frz1, fLt_i, fLe_i, fGt_i, fGe_i, fIsN, fNotN, fAdd_i, fAdd_l, fSub_i, fMul_i, fDiv_i, fMod_i, fPow_i, fIx, fTru, cLen, cInt, List.getElem?_cons_zero, List.getElem?_cons_succ, List.getElem?_nil, List.set_cons_zero, List.set_cons_succ, List.set_nil, List.replicate, List.cons_append, List.nil_append, List.append_nil, List.map_cons, List.map_nil, List.take_succ_cons, List.take_zero, List.take_nil, List.nodup_nil, List.nodup_cons, List.not_mem_nil, List.mem_cons, List.length_cons, List.length_nil, Option.bind_some, Option.bind_none, Option.map_some, Option.map_none, Option.some_or, Option.none_or, Option.or_none, Nat.reduceAdd, Nat.reduceSub, if_true, if_false, ite_true, ite_false, reduceIte, Bool.false_eq_true, Bool.not_true, Bool.not_false, decide_true, decide_false, and_self, and_true, true_and, not_false_eq_true, not_true_eq_false, or_false, false_or, or_true, true_or, reduceCtorEq, forall_const, implies_true, Bool.true_and, Bool.and_true, Bool.false_and, Bool.and_false, Bool.or_true, Bool.or_false, Bool.true_or, Bool.false_or]; rfl⟩, ⟨_, by simp only [lwT, gIf, iTxt, ef, e0, e2, n0, i0, i1, hl6, ez, oI, Nat.reduceLeDiff, Nat.reduceSub, cd_2, cd_3, cd_4, cd_5, cd_6, cd_7, cd_12, cd_20, cd_28, cd_60, cd_1000000, big, fEq_int, fNe_int, DL.atI_0, DL.atI_1, DL.atI_2, runF, runR, gVar, gC, DL.gNil, DL.gCons, gOp, gUn, fNeg, gTest, gTru, gChain, gIf, gAndV, gOrV, gNotV, bNot, bAnd, bOr, gCall, fCall, toSls, toSl, slotsOf, put, putL, sameKind, res, resA, gCB, fCB, gF, fLst, DL.gTup, allD, gRep, gSl, oNo, oInt, wipeR, restR, noL, fLc, bYes, fSumL, lists_map, cSorted, cSortSet, DL.ints_map, gIsi, noD, tyN, isiB, sNext, sSeq, sNever, sBreak, sCont, sExpr, sRet, sRetN, sRetF, sRetO, sIf, sFrz, frzAt, sSet, sSetO, sAsg, sPar, gtName, gtNil, gtCons, gtTup, gtLst, stay, iSeq, iTpl, iRange1_eq, iRange2_eq, rg1_2, rg1_3, rg1_4, iEnumD, iZipD, sFor, sApp, sPutIx, sAug, getL, frz, frz1, fLt_i, fLe_i, fGt_i, fGe_i, fIsN, fNotN, fAdd_i, fAdd_l, fSub_i, fMul_i, fDiv_i, fMod_i, fPow_i, fIx, fTru, cLen, cInt, List.getElem?_cons_zero, List.getElem?_cons_succ, List.getElem?_nil, List.set_cons_zero, List.set_cons_succ, List.set_nil, List.replicate, List.cons_append, List.nil_append, List.append_nil, List.map_cons, List.map_nil, List.take_succ_cons, List.take_zero, List.take_nil, List.nodup_nil, List.nodup_cons, List.not_mem_nil, List.mem_cons, List.length_cons, List.length_nil, Option.bind_some, Option.bind_none, Option.map_some, Option.map_none, Option.some_or, Option.none_or, Option.or_none, Nat.reduceAdd, Nat.reduceSub, if_true, if_false, ite_true, ite_false, reduceIte, Bool.false_eq_true, Bool.not_true, Bool.not_false, decide_true, decide_false, and_self, and_true, true_and, not_false_eq_true, not_true_eq_false, or_false, false_or, or_true, true_or, reduceCtorEq, forall_const, implies_true, Bool.true_and, Bool.and_true, Bool.false_and, Bool.and_false, Bool.or_true, Bool.or_false, Bool.true_or, Bool.false_or]; rfl⟩⟩
end Lw
set_option maxHeartbeats 1000000
namespace Lw
open PySem PySem.Spec PyProof.Rows L2 DL TL
/-! ### a number's own text -/
theorem num_text {s : Str} {n : Nat} (hl : s.length ≤ 640) : numO s = some (n : Int) ↔ s = Str.ofString (toString ((n : Nat) : Int)) := by
  constructor
  · intro h
    have nb : numB (tl s) = true := by
      rw [numO] at h
      split at h
      · assumption
      · cases h
    have hi : PySem.intText? s = some (n : Int) := by rw [numO, if_pos nb] at h; exact h
    obtain ⟨_, v1, v2, ad, ne⟩ := num_val nb hl
    have nd : (tl s).take 1 ≠ [45] := fun hd => by
      obtain ⟨v, hv, v0, _⟩ := v2 hd
      rw [hi] at hv
      have hv := Option.some.inj hv
      have n0 : n = 0 := by omega
      -- then the text is "-" and zeros: refused
      have fe : figL (tl s) = (tl s).drop 1 := by rw [figL, if_pos hd]
      simp only [numB, Bool.and_eq_true, Bool.not_eq_true', decide_eq_false_iff_not] at nb
      obtain ⟨⟨_, _⟩, nz⟩ := nb
      have t48 : tl s ≠ [48] := fun z => by rw [z] at hd; cases hd
      rw [decide_eq_false t48, Bool.not_false, Bool.and_true, decide_eq_false_iff_not] at nz
      obtain ⟨cs, hcs⟩ : ∃ cs, tl s = 45 :: cs := by
        cases ht : tl s with
        | nil => rw [ht] at hd; cases hd
        | cons a r =>
          rw [ht] at hd
          have : a = 45 := by simpa using hd
          exact ⟨r, by rw [this]⟩
      have fe : figL (tl s) = cs := by rw [fe, hcs]; rfl
      rw [fe] at ad ne nz
      have iv := PySem.intText_neg (x := s) hcs ad ne (by omega)
      rw [hi] at iv
      have iv := Option.some.inj iv
      cases cs with
      | nil => exact ne rfl
      | cons c r =>
        have c48 : c ≠ 48 := fun z => nz (by rw [z]; rfl)
        have := ad.head
        have := NumText.digitsVal_pos (c := c) (cs := r) (by omega)
        omega
    have hv := v1 nd
    rw [hi] at hv
    have hv : n = NumText.digitsVal (tl s) := by have := Option.some.inj hv; omega
    have fe : figL (tl s) = tl s := by rw [figL, if_neg nd]
    rw [fe] at ad ne
    refine ext_tl ?_
    rw [tl_num, hv]
    have cond : (tl s).length - 1 = 0 ∨ ∃ c r, tl s = c :: r ∧ 49 ≤ c := by
      cases ht : tl s with
      | nil => exact absurd ht ne
      | cons c r =>
        by_cases c48 : c = 48
        · left
          simp only [numB, Bool.and_eq_true, Bool.not_eq_true', decide_eq_false_iff_not] at nb
          obtain ⟨_, nz⟩ := nb
          rw [fe, ht, c48] at nz
          have : decide ((48 :: r).take 1 = [48]) = true := decide_eq_true rfl
          rw [this, Bool.true_and] at nz
          have : 48 :: r = [48] := by simpa using nz
          rw [c48, this]
          rfl
        · right
          have := (ht ▸ ad : NumText.AllDigits (c :: r)).head
          exact ⟨c, r, rfl, by omega⟩
    have hlen : (tl s).length = ((tl s).length - 1) + 1 := by
      have := List.length_pos_iff.mpr ne
      omega
    have td := NumText.toDigits_digitsVal ((tl s).length - 1) (tl s) hlen ad cond
    show tl s = (Nat.toDigits 10 (NumText.digitsVal (tl s))).map Char.toNat
    rw [td, List.map_map]
    symm
    have : ∀ c ∈ tl s, (Char.toNat ∘ Char.ofNat) c = c := fun c hc => by
      have := ad c hc
      have : c = 48 ∨ c = 49 ∨ c = 50 ∨ c = 51 ∨ c = 52 ∨ c = 53 ∨ c = 54 ∨ c = 55 ∨ c = 56 ∨ c = 57 := by omega
      rcases this with h | h | h | h | h | h | h | h | h | h <;> subst h <;> rfl
    calc (tl s).map (Char.toNat ∘ Char.ofNat) = (tl s).map id := List.map_congr_left this
      _ = tl s := List.map_id _
  · rintro rfl
    have t := tl_num n
    have ad : NumText.AllDigits (tl (Str.ofString (toString ((n : Nat) : Int)))) := by rw [t]; exact numL_digits n
    have ne : tl (Str.ofString (toString ((n : Nat) : Int))) ≠ [] := by rw [t]; exact numL_ne n
    have nd : (tl (Str.ofString (toString ((n : Nat) : Int)))).take 1 ≠ [45] := fun z => by
      have : (45 : Nat) ∈ tl (Str.ofString (toString ((n : Nat) : Int))) := List.mem_of_mem_take (by rw [z]; exact List.mem_singleton.mpr rfl)
      have := ad 45 this
      omega
    have fe : figL (tl (Str.ofString (toString ((n : Nat) : Int)))) = tl (Str.ofString (toString ((n : Nat) : Int))) := by rw [figL, if_neg nd]
    have nb : numB (tl (Str.ofString (toString ((n : Nat) : Int)))) = true := by
      simp only [numB, fe, Bool.and_eq_true, Bool.not_eq_true', decide_eq_false_iff_not]
      refine ⟨⟨ne, List.all_eq_true.mpr fun c hc => ?_⟩, ?_⟩
      · have := ad c hc
        simp [digB, this]
      · cases h0 : decide ((tl (Str.ofString (toString ((n : Nat) : Int)))).take 1 = [48]) with
        | false => rfl
        | true =>
          have h0 := of_decide_eq_true h0
          have : tl (Str.ofString (toString ((n : Nat) : Int))) = [48] := by
            by_cases n10 : n < 10
            · rw [t, numL_lt n10] at h0 ⊢
              simpa using h0
            · exfalso
              -- a leading zero cannot be
              have td := NumText.toDigits_all (numL n) (numL_digits n)
              rw [numL_val] at td
              cases hq : numL n with
              | nil => exact numL_ne n hq
              | cons c r =>
                rw [t, hq] at h0
                have c48 : c = 48 := by simpa using h0
                have e1 : numL n = (Nat.toDigits 10 n).map Char.toNat := rfl
                have l1 : (numL n).length = (Nat.toDigits 10 n).length := by rw [e1, List.length_map]
                rw [hq, c48, List.dropWhile_cons] at td
                simp only [beq_self_eq_true, if_true] at td
                have l2 : (Nat.toDigits 10 n).length ≤ max 1 r.length := by
                  rw [td]
                  split
                  · simp; omega
                  · rename_i a b hab
                    have : (r.dropWhile (· == 48)).length ≤ r.length := (List.dropWhile_sublist _).length_le
                    rw [List.length_map, ← hab]
                    omega
                rw [hq, List.length_cons] at l1
                have l3 : 2 ≤ (numL n).length := by
                  rw [numL_step (by omega), List.length_append, List.length_singleton]
                  have := List.length_pos_iff.mpr (numL_ne (n / 10))
                  omega
                rw [hq, List.length_cons] at l3
                omega
          rw [decide_eq_true this]
          rfl
    rw [numO, if_pos nb, PySem.intText_digits ad ne (by omega)]
    have e : NumText.digitsVal (tl (Str.ofString (toString ((n : Nat) : Int)))) = n := by rw [t, numL_val]
    show some ((NumText.digitsVal (tl (Str.ofString (toString ((n : Nat) : Int)))) : Nat) : Int) = _
    rw [e]
end Lw
set_option maxHeartbeats 1000000
namespace Lw
open PySem PySem.Spec PyProof.Rows L2 DL TL
/-! ### the two readers of a text -/
theorem num_eq : F_number_of = runF 1 3 (sSeq fgS nmT) := rfl
theorem lnum_eq : F__law_number = runF 1 3 (sSeq fgS lwT) := rfl
theorem e_number_of {s : Str} (hs : s.length ≤ 640) : F_number_of [.v (.str s)] = some (oI (numO s), [.v (.str s)]) := by
  obtain ⟨f, e1, hf, hl⟩ := fg_ev hs
  obtain ⟨⟨ρ', e2⟩, _⟩ := rest_ev hs hf hl
  rw [num_eq]
  generalize oI (numO s) = d at *
  simp only [e1, e2, Nat.reduceLeDiff, Nat.reduceSub, cd_2, cd_3, cd_4, cd_5, cd_6, cd_7, cd_12, cd_20, cd_28, cd_60, cd_1000000, big, fEq_int, fNe_int, DL.atI_0, DL.atI_1, DL.atI_2, runF, runR, gVar, gC, DL.gNil, DL.gCons, gOp, gUn, fNeg, gTest, gTru, gChain, gIf, gAndV, gOrV, gNotV, bNot, bAnd, bOr, gCall, fCall, toSls, toSl, slotsOf, put, putL, sameKind, res, resA, gCB, fCB, gF, fLst, DL.gTup, allD, gRep, gSl, oNo, oInt, wipeR, restR, noL, fLc, bYes, fSumL, lists_map, cSorted, cSortSet, DL.ints_map, gIsi, noD, tyN, isiB, sNext, sSeq, sNever, sBreak, sCont, sExpr, sRet, sRetN, sRetF, sRetO, sIf, sFrz, frzAt, sSet, sSetO, sAsg, sPar, gtName, gtNil, gtCons, gtTup, gtLst, stay, iSeq, iTpl, iRange1_eq, iRange2_eq, rg1_2, rg1_3, rg1_4, iEnumD, iZipD, sFor, sApp, sPutIx, sAug, getL, frz, frz1, fLt_i, fLe_i, fGt_i, fGe_i, fIsN, fNotN, fAdd_i, fAdd_l, fSub_i, fMul_i, fDiv_i, fMod_i, fPow_i, fIx, fTru, cLen, cInt, List.getElem?_cons_zero, List.getElem?_cons_succ, List.getElem?_nil, List.set_cons_zero, List.set_cons_succ, List.set_nil, List.replicate, List.cons_append, List.nil_append, List.append_nil, List.map_cons, List.map_nil, List.take_succ_cons, List.take_zero, List.take_nil, List.nodup_nil, List.nodup_cons, List.not_mem_nil, List.mem_cons, List.length_cons, List.length_nil, Option.bind_some, Option.bind_none, Option.map_some, Option.map_none, Option.some_or, Option.none_or, Option.or_none, Nat.reduceAdd, Nat.reduceSub, if_true, if_false, ite_true, ite_false, reduceIte, Bool.false_eq_true, Bool.not_true, Bool.not_false, decide_true, decide_false, and_self, and_true, true_and, not_false_eq_true, not_true_eq_false, or_false, false_or, or_true, true_or, reduceCtorEq, forall_const, implies_true, Bool.true_and, Bool.and_true, Bool.false_and, Bool.and_false, Bool.or_true, Bool.or_false, Bool.true_or, Bool.false_or]
theorem e__law_number {s : Str} (hs : s.length ≤ 640) : F__law_number [.v (.str s)] = some (oI (numO s), [.v (.str s)]) := by
  obtain ⟨f, e1, hf, hl⟩ := fg_ev hs
  obtain ⟨_, ⟨ρ', e2⟩⟩ := rest_ev hs hf hl
  rw [lnum_eq]
  generalize oI (numO s) = d at *
  simp only [e1, e2, Nat.reduceLeDiff, Nat.reduceSub, cd_2, cd_3, cd_4, cd_5, cd_6, cd_7, cd_12, cd_20, cd_28, cd_60, cd_1000000, big, fEq_int, fNe_int, DL.atI_0, DL.atI_1, DL.atI_2, runF, runR, gVar, gC, DL.gNil, DL.gCons, gOp, gUn, fNeg, gTest, gTru, gChain, gIf, gAndV, gOrV, gNotV, bNot, bAnd, bOr, gCall, fCall, toSls, toSl, slotsOf, put, putL, sameKind, res, resA, gCB, fCB, gF, fLst, DL.gTup, allD, gRep, gSl, oNo, oInt, wipeR, restR, noL, fLc, bYes, fSumL, lists_map, cSorted, cSortSet, DL.ints_map, gIsi, noD, tyN, isiB, sNext, sSeq, sNever, sBreak, sCont, sExpr, sRet, sRetN, sRetF, sRetO, sIf, sFrz, frzAt, sSet, sSetO, sAsg, sPar, gtName, gtNil, gtCons, gtTup, gtLst, stay, iSeq, iTpl, iRange1_eq, iRange2_eq, rg1_2, rg1_3, rg1_4, iEnumD, iZipD, sFor, sApp, sPutIx, sAug, getL, frz, frz1, fLt_i, fLe_i, fGt_i, fGe_i, fIsN, fNotN, fAdd_i, fAdd_l, fSub_i, fMul_i, fDiv_i, fMod_i, fPow_i, fIx, fTru, cLen, cInt, List.getElem?_cons_zero, List.getElem?_cons_succ, List.getElem?_nil, List.set_cons_zero, List.set_cons_succ, List.set_nil, List.replicate, List.cons_append, List.nil_append, List.append_nil, List.map_cons, List.map_nil, List.take_succ_cons, List.take_zero, List.take_nil, List.nodup_nil, List.nodup_cons, List.not_mem_nil, List.mem_cons, List.length_cons, List.length_nil, Option.bind_some, Option.bind_none, Option.map_some, Option.map_none, Option.some_or, Option.none_or, Option.or_none, Nat.reduceAdd, Nat.reduceSub, if_true, if_false, ite_true, ite_false, reduceIte, Bool.false_eq_true, Bool.not_true, Bool.not_false, decide_true, decide_false, and_self, and_true, true_and, not_false_eq_true, not_true_eq_false, or_false, false_or, or_true, true_or, reduceCtorEq, forall_const, implies_true, Bool.true_and, Bool.and_true, Bool.false_and, Bool.and_false, Bool.or_true, Bool.or_false, Bool.true_or, Bool.false_or]
def numS (k : Nat) : Str := Str.ofString (toString ((k : Nat) : Int))
theorem fNe_oI (o : Option Int) (k : Nat) : fNe (oI o) (.int (k : Nat)) = some (.bool (!decide (o = some (k : Int)))) := by
  have s1 : SeqAt.shaped (oI o) = true := by cases o <;> simp [oI, SeqAt.shaped, PyData.canLay0, PyData.depth]
  unfold fNe
  rw [if_pos ⟨s1, shaped_int⟩]
  cases o with
  | none => simp [oI, PyData.eqv]
  | some i =>
    simp only [oI, PyData.eqv, Option.some.injEq]
    by_cases h : i = (k : Int)
    · simp [h]
    · simp [h]
theorem fIs_oI (o : Option Int) : fIsN (oI o) .none = some (.bool o.isNone) := by cases o <;> rfl
def lab4 : List Str := ["dead", "found", "high", "low"]
def wOk (w : Str) : Bool := lab4.any fun y => y == w
theorem in_lab (w : Str) : fNotInV (.str w) c_LABELS = some (.bool (!wOk w)) := rfl
theorem in_lab2 (w : Str) : fNotInV (.str w) (.list [.str "dead", .str "found", .str "high", .str "low"]) = some (.bool (!wOk w)) := rfl
def cB (k : Nat) : List Str → Bool
  | [a, b, _] => !decide (numO a = some (k : Int)) || (numO b).isNone
  | _ => true
noncomputable def pbC : BF := (bOr (gTest (gOp fNe (gCB cLen (DL.gCons (gVar 6) DL.gNil)) (gC (.int 3)))) (bOr (gTest (gOp fNe (gCall F_number_of (DL.gCons (gOp fIx (gVar 6) (gC (.int 0))) DL.gNil)) (gVar 4))) (gTest (gOp fIsN (gCall F_number_of (DL.gCons (gOp fIx (gVar 6) (gC (.int 1))) DL.gNil)) (gC .none)))))
noncomputable def lbC : BF := (bOr (gTest (gOp fNe (gCB cLen (DL.gCons (gVar 5) DL.gNil)) (gC (.int 3)))) (bOr (gTest (gOp fNeX (gOp fIx (gVar 5) (gC (.int 0))) (gCB cStr (DL.gCons (gVar 3) DL.gNil)))) (gTest (gOp fIsN (gCall F__law_number (DL.gCons (gOp fIx (gVar 5) (gC (.int 1))) DL.gNil)) (gC .none)))))
theorem len_ne3 {P : List Str} (h : ∀ a b w, P ≠ [a, b, w]) : ¬ ((P.length : Nat) : Int) = 3 := fun e => by
  match P, h, e with
  | [], _, e => cases e
  | [a], _, e => cases e
  | [a, b], _, e => cases e
  | [a, b, w], h, _ => exact h a b w rfl
  | a :: b :: c :: d :: r, _, e => rw [List.length_cons, List.length_cons, List.length_cons, List.length_cons] at e; omega
theorem cB_no {k : Nat} {P : List Str} (h : ∀ a b w, P ≠ [a, b, w]) : cB k P = true := by
  match P, h with
  | [], _ => rfl
  | [a], _ => rfl
  | [a, b], _ => rfl
  | [a, b, w], h => exact absurd rfl (h a b w)
  | a :: b :: c :: d :: r, _ => rfl
theorem pc_ev {k : Nat} {P : List Str} (hp : ∀ p ∈ P, p.length ≤ 640) {s0 s1 s2 s3 s5 : Sl} : pbC [s0, s1, s2, s3, .v (.int (k : Nat)), s5, .v (.list (P.map .str))] = some (cB k P, [s0, s1, s2, s3, .v (.int (k : Nat)), s5, .v (.list (P.map .str))]) := by
  by_cases h : ∃ a b w, P = [a, b, w]
  · obtain ⟨a, b, w, rfl⟩ := h
    have e1 := e_number_of (hp a (by simp))
    have e2 := e_number_of (hp b (by simp))
    have q1 := fNe_oI (numO a) k
    have q2 := fIs_oI (numO b)
    have c3 : decide (((3 : Nat) : Int) = 3) = true := by decide
    have hc : cB k [a, b, w] = (!decide (numO a = some (k : Int)) || (numO b).isNone) := rfl
    rw [hc]
    generalize decide (numO a = some (k : Int)) = b1 at *
    generalize oI (numO a) = d1 at *
    cases hb : numO b with
    | none =>
      rw [hb] at e2
      simp only [oI] at e2
      cases b1 <;> simp only [pbC, c3, e1, e2, q1, Option.isNone_none, Nat.reduceLeDiff, Nat.reduceSub, cd_2, cd_3, cd_4, cd_5, cd_6, cd_7, cd_12, cd_20, cd_28, cd_60, cd_1000000, big, fEq_int, fNe_int, DL.atI_0, DL.atI_1, DL.atI_2, runF, runR, gVar, gC, DL.gNil, DL.gCons, gOp, gUn, fNeg, gTest, gTru, gChain, gIf, gAndV, gOrV, gNotV, bNot, bAnd, bOr, gCall, fCall, toSls, toSl, slotsOf, put, putL, sameKind, res, resA, gCB, fCB, gF, fLst, DL.gTup, allD, gRep, gSl, oNo, oInt, wipeR, restR, noL, fLc, bYes, fSumL, lists_map, cSorted, cSortSet, DL.ints_map, gIsi, noD, tyN, isiB, sNext, sSeq, sNever, sBreak, sCont, sExpr, sRet, sRetN, sRetF, sRetO, sIf, sFrz, frzAt, sSet, sSetO, sAsg, sPar, gtName, gtNil, gtCons, gtTup, gtLst, stay, iSeq, iTpl, iRange1_eq, iRange2_eq, rg1_2, rg1_3, rg1_4, iEnumD, iZipD, sFor, sApp, sPutIx, sAug, getL, frz, frz1, fLt_i, fLe_i, fGt_i, fGe_i, fIsN, fNotN, fAdd_i, fAdd_l, fSub_i, fMul_i, fDiv_i, fMod_i, fPow_i, fIx, fTru, cLen, cInt, List.getElem?_cons_zero, List.getElem?_cons_succ, List.getElem?_nil, List.set_cons_zero, List.set_cons_succ, List.set_nil, List.replicate, List.cons_append, List.nil_append, List.append_nil, List.map_cons, List.map_nil, List.take_succ_cons, List.take_zero, List.take_nil, List.nodup_nil, List.nodup_cons, List.not_mem_nil, List.mem_cons, List.length_cons, List.length_nil, Option.bind_some, Option.bind_none, Option.map_some, Option.map_none, Option.some_or, Option.none_or, Option.or_none, Nat.reduceAdd, Nat.reduceSub, if_true, if_false, ite_true, ite_false, reduceIte, Bool.false_eq_true, Bool.not_true, Bool.not_false, decide_true, decide_false, and_self, and_true, true_and, not_false_eq_true, not_true_eq_false, or_false, false_or, or_true, true_or, reduceCtorEq, forall_const, implies_true, Bool.true_and, Bool.and_true, Bool.false_and, Bool.and_false, Bool.or_true, Bool.or_false, Bool.true_or, Bool.false_or]
    | some v =>
      rw [hb] at e2
      simp only [oI] at e2
      cases b1 <;> simp only [pbC, c3, e1, e2, q1, Option.isNone_some, Nat.reduceLeDiff, Nat.reduceSub, cd_2, cd_3, cd_4, cd_5, cd_6, cd_7, cd_12, cd_20, cd_28, cd_60, cd_1000000, big, fEq_int, fNe_int, DL.atI_0, DL.atI_1, DL.atI_2, runF, runR, gVar, gC, DL.gNil, DL.gCons, gOp, gUn, fNeg, gTest, gTru, gChain, gIf, gAndV, gOrV, gNotV, bNot, bAnd, bOr, gCall, fCall, toSls, toSl, slotsOf, put, putL, sameKind, res, resA, gCB, fCB, gF, fLst, DL.gTup, allD, gRep, gSl, oNo, oInt, wipeR, restR, noL, fLc, bYes, fSumL, lists_map, cSorted, cSortSet, DL.ints_map, gIsi, noD, tyN, isiB, sNext, sSeq, sNever, sBreak, sCont, sExpr, sRet, sRetN, sRetF, sRetO, sIf, sFrz, frzAt, sSet, sSetO, sAsg, sPar, gtName, gtNil, gtCons, gtTup, gtLst, stay, iSeq, iTpl, iRange1_eq, iRange2_eq, rg1_2, rg1_3, rg1_4, iEnumD, iZipD, sFor, sApp, sPutIx, sAug, getL, frz, frz1, fLt_i, fLe_i, fGt_i, fGe_i, fIsN, fNotN, fAdd_i, fAdd_l, fSub_i, fMul_i, fDiv_i, fMod_i, fPow_i, fIx, fTru, cLen, cInt, List.getElem?_cons_zero, List.getElem?_cons_succ, List.getElem?_nil, List.set_cons_zero, List.set_cons_succ, List.set_nil, List.replicate, List.cons_append, List.nil_append, List.append_nil, List.map_cons, List.map_nil, List.take_succ_cons, List.take_zero, List.take_nil, List.nodup_nil, List.nodup_cons, List.not_mem_nil, List.mem_cons, List.length_cons, List.length_nil, Option.bind_some, Option.bind_none, Option.map_some, Option.map_none, Option.some_or, Option.none_or, Option.or_none, Nat.reduceAdd, Nat.reduceSub, if_true, if_false, ite_true, ite_false, reduceIte, Bool.false_eq_true, Bool.not_true, Bool.not_false, decide_true, decide_false, and_self, and_true, true_and, not_false_eq_true, not_true_eq_false, or_false, false_or, or_true, true_or, reduceCtorEq, forall_const, implies_true, Bool.true_and, Bool.and_true, Bool.false_and, Bool.and_false, Bool.or_true, Bool.or_false, Bool.true_or, Bool.false_or]
  · have hn : ∀ a b w, P ≠ [a, b, w] := fun a b w z => h ⟨a, b, w, z⟩
    have l3 := len_ne3 hn
    have lp : (P.map PyData.str).length = P.length := List.length_map ..
    rw [cB_no hn]
    generalize P.map PyData.str = D at *
    simp only [pbC, lp, l3, Nat.reduceLeDiff, Nat.reduceSub, cd_2, cd_3, cd_4, cd_5, cd_6, cd_7, cd_12, cd_20, cd_28, cd_60, cd_1000000, big, fEq_int, fNe_int, DL.atI_0, DL.atI_1, DL.atI_2, runF, runR, gVar, gC, DL.gNil, DL.gCons, gOp, gUn, fNeg, gTest, gTru, gChain, gIf, gAndV, gOrV, gNotV, bNot, bAnd, bOr, gCall, fCall, toSls, toSl, slotsOf, put, putL, sameKind, res, resA, gCB, fCB, gF, fLst, DL.gTup, allD, gRep, gSl, oNo, oInt, wipeR, restR, noL, fLc, bYes, fSumL, lists_map, cSorted, cSortSet, DL.ints_map, gIsi, noD, tyN, isiB, sNext, sSeq, sNever, sBreak, sCont, sExpr, sRet, sRetN, sRetF, sRetO, sIf, sFrz, frzAt, sSet, sSetO, sAsg, sPar, gtName, gtNil, gtCons, gtTup, gtLst, stay, iSeq, iTpl, iRange1_eq, iRange2_eq, rg1_2, rg1_3, rg1_4, iEnumD, iZipD, sFor, sApp, sPutIx, sAug, getL, frz, frz1, fLt_i, fLe_i, fGt_i, fGe_i, fIsN, fNotN, fAdd_i, fAdd_l, fSub_i, fMul_i, fDiv_i, fMod_i, fPow_i, fIx, fTru, cLen, cInt, List.getElem?_cons_zero, List.getElem?_cons_succ, List.getElem?_nil, List.set_cons_zero, List.set_cons_succ, List.set_nil, List.replicate, List.cons_append, List.nil_append, List.append_nil, List.map_cons, List.map_nil, List.take_succ_cons, List.take_zero, List.take_nil, List.nodup_nil, List.nodup_cons, List.not_mem_nil, List.mem_cons, List.length_cons, List.length_nil, Option.bind_some, Option.bind_none, Option.map_some, Option.map_none, Option.some_or, Option.none_or, Option.or_none, Nat.reduceAdd, Nat.reduceSub, if_true, if_false, ite_true, ite_false, reduceIte, Bool.false_eq_true, Bool.not_true, Bool.not_false, decide_true, decide_false, and_self, and_true, true_and, not_false_eq_true, not_true_eq_false, or_false, false_or, or_true, true_or, reduceCtorEq, forall_const, implies_true, Bool.true_and, Bool.and_true, Bool.false_and, Bool.and_false, Bool.or_true, Bool.or_false, Bool.true_or, Bool.false_or]
theorem lc_ev {k : Nat} {P : List Str} (hk : k ≤ 100000) (hp : ∀ p ∈ P, p.length ≤ 640) {s0 s1 s2 s4 : Sl} : lbC [s0, s1, s2, .v (.int (k : Nat)), s4, .v (.list (P.map .str))] = some (cB k P, [s0, s1, s2, .v (.int (k : Nat)), s4, .v (.list (P.map .str))]) := by
  by_cases h : ∃ a b w, P = [a, b, w]
  · obtain ⟨a, b, w, rfl⟩ := h
    have e2 := e__law_number (hp b (by simp))
    have q2 := fIs_oI (numO b)
    have st : cStr [.int (k : Nat)] = some (.str (numS k)) := by
      have h : ((k : Int)).natAbs < 2 ^ 150 := Nat.lt_of_le_of_lt (by omega : ((k : Int)).natAbs ≤ 100000) (by decide)
      show (if ((k : Int)).natAbs < 2 ^ 150 then _ else none) = _
      rw [if_pos h]
      rfl
    have q1 : fNeX (.str a) (.str (numS k)) = some (.bool (!decide (numO a = some (k : Int)))) := by
      show some (PyData.bool (!(_ == _))) = _
      congr 2
      congr 1
      by_cases c : a = numS k
      · rw [decide_eq_true ((num_text (hp a (by simp))).mpr c), c]
        simp
      · rw [decide_eq_false fun z => c ((num_text (hp a (by simp))).mp z)]
        exact beq_eq_false_iff_ne.mpr c
    have c3 : decide (((3 : Nat) : Int) = 3) = true := by decide
    have hc : cB k [a, b, w] = (!decide (numO a = some (k : Int)) || (numO b).isNone) := rfl
    rw [hc]
    generalize decide (numO a = some (k : Int)) = b1 at *
    cases hb : numO b with
    | none =>
      rw [hb] at e2
      simp only [oI] at e2
      cases b1 <;> simp only [lbC, c3, st, e2, q1, Option.isNone_none, Nat.reduceLeDiff, Nat.reduceSub, cd_2, cd_3, cd_4, cd_5, cd_6, cd_7, cd_12, cd_20, cd_28, cd_60, cd_1000000, big, fEq_int, fNe_int, DL.atI_0, DL.atI_1, DL.atI_2, runF, runR, gVar, gC, DL.gNil, DL.gCons, gOp, gUn, fNeg, gTest, gTru, gChain, gIf, gAndV, gOrV, gNotV, bNot, bAnd, bOr, gCall, fCall, toSls, toSl, slotsOf, put, putL, sameKind, res, resA, gCB, fCB, gF, fLst, DL.gTup, allD, gRep, gSl, oNo, oInt, wipeR, restR, noL, fLc, bYes, fSumL, lists_map, cSorted, cSortSet, DL.ints_map, gIsi, noD, tyN, isiB, sNext, sSeq, sNever, sBreak, sCont, sExpr, sRet, sRetN, sRetF, sRetO, sIf, sFrz, frzAt, sSet, sSetO, sAsg, sPar, gtName, gtNil, gtCons, gtTup, gtLst, stay, iSeq, iTpl, iRange1_eq, iRange2_eq, rg1_2, rg1_3, rg1_4, iEnumD, iZipD, sFor, sApp, sPutIx, sAug, getL, frz, frz1, fLt_i, fLe_i, fGt_i, fGe_i, fIsN, fNotN, fAdd_i, fAdd_l, fSub_i, fMul_i, fDiv_i, fMod_i, fPow_i, fIx, fTru, cLen, cInt, List.getElem?_cons_zero, List.getElem?_cons_succ, List.getElem?_nil, List.set_cons_zero, List.set_cons_succ, List.set_nil, List.replicate, List.cons_append, List.nil_append, List.append_nil, List.map_cons, List.map_nil, List.take_succ_cons, List.take_zero, List.take_nil, List.nodup_nil, List.nodup_cons, List.not_mem_nil, List.mem_cons, List.length_cons, List.length_nil, Option.bind_some, Option.bind_none, Option.map_some, Option.map_none, Option.some_or, Option.none_or, Option.or_none, Nat.reduceAdd, Nat.reduceSub, if_true, if_false, ite_true, ite_false, reduceIte, Bool.false_eq_true, Bool.not_true, Bool.not_false, decide_true, decide_false, and_self, and_true, true_and, not_false_eq_true, not_true_eq_false, or_false, false_or, or_true, true_or, reduceCtorEq, forall_const, implies_true, Bool.true_and, Bool.and_true, Bool.false_and, Bool.and_false, Bool.or_true, Bool.or_false, Bool.true_or, Bool.false_or]
    | some v =>
      rw [hb] at e2
      simp only [oI] at e2
      cases b1 <;> simp only [lbC, c3, st, e2, q1, Option.isNone_some, Nat.reduceLeDiff, Nat.reduceSub, cd_2, cd_3, cd_4, cd_5, cd_6, cd_7, cd_12, cd_20, cd_28, cd_60, cd_1000000, big, fEq_int, fNe_int, DL.atI_0, DL.atI_1, DL.atI_2, runF, runR, gVar, gC, DL.gNil, DL.gCons, gOp, gUn, fNeg, gTest, gTru, gChain, gIf, gAndV, gOrV, gNotV, bNot, bAnd, bOr, gCall, fCall, toSls, toSl, slotsOf, put, putL, sameKind, res, resA, gCB, fCB, gF, fLst, DL.gTup, allD, gRep, gSl, oNo, oInt, wipeR, restR, noL, fLc, bYes, fSumL, lists_map, cSorted, cSortSet, DL.ints_map, gIsi, noD, tyN, isiB, sNext, sSeq, sNever, sBreak, sCont, sExpr, sRet, sRetN, sRetF, sRetO, sIf, sFrz, frzAt, sSet, sSetO, sAsg, sPar, gtName, gtNil, gtCons, gtTup, gtLst, stay, iSeq, iTpl, iRange1_eq, iRange2_eq, rg1_2, rg1_3, rg1_4, iEnumD, iZipD, sFor, sApp, sPutIx, sAug, getL, frz, frz1, fLt_i, fLe_i, fGt_i, fGe_i, fIsN, fNotN, fAdd_i, fAdd_l, fSub_i, fMul_i, fDiv_i, fMod_i, fPow_i, fIx, fTru, cLen, cInt, List.getElem?_cons_zero, List.getElem?_cons_succ, List.getElem?_nil, List.set_cons_zero, List.set_cons_succ, List.set_nil, List.replicate, List.cons_append, List.nil_append, List.append_nil, List.map_cons, List.map_nil, List.take_succ_cons, List.take_zero, List.take_nil, List.nodup_nil, List.nodup_cons, List.not_mem_nil, List.mem_cons, List.length_cons, List.length_nil, Option.bind_some, Option.bind_none, Option.map_some, Option.map_none, Option.some_or, Option.none_or, Option.or_none, Nat.reduceAdd, Nat.reduceSub, if_true, if_false, ite_true, ite_false, reduceIte, Bool.false_eq_true, Bool.not_true, Bool.not_false, decide_true, decide_false, and_self, and_true, true_and, not_false_eq_true, not_true_eq_false, or_false, false_or, or_true, true_or, reduceCtorEq, forall_const, implies_true, Bool.true_and, Bool.and_true, Bool.false_and, Bool.and_false, Bool.or_true, Bool.or_false, Bool.true_or, Bool.false_or]
  · have hn : ∀ a b w, P ≠ [a, b, w] := fun a b w z => h ⟨a, b, w, z⟩
    have l3 := len_ne3 hn
    have lp : (P.map PyData.str).length = P.length := List.length_map ..
    rw [cB_no hn]
    generalize P.map PyData.str = D at *
    simp only [lbC, lp, l3, Nat.reduceLeDiff, Nat.reduceSub, cd_2, cd_3, cd_4, cd_5, cd_6, cd_7, cd_12, cd_20, cd_28, cd_60, cd_1000000, big, fEq_int, fNe_int, DL.atI_0, DL.atI_1, DL.atI_2, runF, runR, gVar, gC, DL.gNil, DL.gCons, gOp, gUn, fNeg, gTest, gTru, gChain, gIf, gAndV, gOrV, gNotV, bNot, bAnd, bOr, gCall, fCall, toSls, toSl, slotsOf, put, putL, sameKind, res, resA, gCB, fCB, gF, fLst, DL.gTup, allD, gRep, gSl, oNo, oInt, wipeR, restR, noL, fLc, bYes, fSumL, lists_map, cSorted, cSortSet, DL.ints_map, gIsi, noD, tyN, isiB, sNext, sSeq, sNever, sBreak, sCont, sExpr, sRet, sRetN, sRetF, sRetO, sIf, sFrz, frzAt, sSet, sSetO, sAsg, sPar, gtName, gtNil, gtCons, gtTup, gtLst, stay, iSeq, iTpl, iRange1_eq, iRange2_eq, rg1_2, rg1_3, rg1_4, iEnumD, iZipD, sFor, sApp, sPutIx, sAug, getL, frz, frz1, fLt_i, fLe_i, fGt_i, fGe_i, fIsN, fNotN, fAdd_i, fAdd_l, fSub_i, fMul_i, fDiv_i, fMod_i, fPow_i, fIx, fTru, cLen, cInt, List.getElem?_cons_zero, List.getElem?_cons_succ, List.getElem?_nil, List.set_cons_zero, List.set_cons_succ, List.set_nil, List.replicate, List.cons_append, List.nil_append, List.append_nil, List.map_cons, List.map_nil, List.take_succ_cons, List.take_zero, List.take_nil, List.nodup_nil, List.nodup_cons, List.not_mem_nil, List.mem_cons, List.length_cons, List.length_nil, Option.bind_some, Option.bind_none, Option.map_some, Option.map_none, Option.some_or, Option.none_or, Option.or_none, Nat.reduceAdd, Nat.reduceSub, if_true, if_false, ite_true, ite_false, reduceIte, Bool.false_eq_true, Bool.not_true, Bool.not_false, decide_true, decide_false, and_self, and_true, true_and, not_false_eq_true, not_true_eq_false, or_false, false_or, or_true, true_or, reduceCtorEq, forall_const, implies_true, Bool.true_and, Bool.and_true, Bool.false_and, Bool.and_false, Bool.or_true, Bool.or_false, Bool.true_or, Bool.false_or]
end Lw
set_option maxHeartbeats 1000000
namespace Lw
open PySem PySem.Spec PyProof.Rows L2 DL TL
/-! ### parts are no longer than the text -/
theorem spl_le (S : List Nat) : ∀ (l : List Nat) (k : Nat) (acc : List Nat), (∀ p ∈ spl S k acc l, p.length ≤ acc.length + l.length) ∧ (spl S k acc l).length ≤ l.length + 1
  | [], k, acc => by
    rw [spl_nil]
    exact ⟨fun p hp => by rw [List.mem_singleton.mp hp]; exact Nat.le_refl _, Nat.le_refl _⟩
  | c :: r, 0, acc => by
    cases h : pre S (c :: r) with
    | true =>
      rw [spl_hit h]
      obtain ⟨h1, h2⟩ := spl_le S r (S.length - 1) []
      refine ⟨fun p hp => ?_, by rw [List.length_cons, List.length_cons]; omega⟩
      rcases List.mem_cons.mp hp with rfl | hp
      · exact Nat.le_add_right _ _
      · have := h1 p hp
        rw [List.length_nil] at this
        rw [List.length_cons]; omega
    | false =>
      rw [spl_miss h]
      obtain ⟨h1, h2⟩ := spl_le S r 0 (acc ++ [c])
      refine ⟨fun p hp => ?_, by rw [List.length_cons]; omega⟩
      have := h1 p hp
      rw [List.length_append, List.length_singleton] at this
      rw [List.length_cons]; omega
  | c :: r, k + 1, acc => by
    have e : spl S (k + 1) acc (c :: r) = spl S k acc r := rfl
    rw [e]
    obtain ⟨h1, h2⟩ := spl_le S r k acc
    exact ⟨fun p hp => by have := h1 p hp; rw [List.length_cons]; omega, by rw [List.length_cons]; omega⟩
theorem split_le {x y : Str} (hy : tl y ≠ []) (hk : y.cps.all (· < 256) = true) : (∀ p ∈ Txt.split x y, p.length ≤ x.length) ∧ (Txt.split x y).length ≤ x.length + 1 := by
  have e := split_spl x y hy (kind_ok hk)
  obtain ⟨h1, h2⟩ := spl_le (tl y) (tl x) 0 []
  rw [← e] at h1 h2
  rw [List.length_map] at h2
  refine ⟨fun p hp => ?_, by rw [len_tl]; exact h2⟩
  have := h1 (tl p) (List.mem_map.mpr ⟨p, hp, rfl⟩)
  rw [List.length_nil, Nat.zero_add] at this
  rw [len_tl, len_tl x]
  exact this
theorem sp_nl : tl "\n" ≠ [] ∧ (("\n" : Str)).cps.all (· < 256) = true ∧ ((("\n" : Str)).length == 0) = false := ⟨by decide +kernel, by decide +kernel, by decide +kernel⟩
theorem sp_sp : tl " " ≠ [] ∧ ((" " : Str)).cps.all (· < 256) = true ∧ (((" " : Str)).length == 0) = false := ⟨by decide +kernel, by decide +kernel, by decide +kernel⟩
/-! ### what is read -/
def okP (k : Nat) : List Str → Option (Int × Str)
  | [a, b, w] => if numO a = some (k : Int) then (numO b).bind fun v => if wOk w = true then some (v, w) else none else none
  | _ => none
inductive Rd
  | bad (k : Nat)
  | good (vs : List Int) (ws : List Str)
def rd : List Str → Nat → List Int → List Str → Rd
  | [], _, vs, ws => .good vs ws
  | l :: r, k, vs, ws => match okP k (Txt.split l " ") with
    | none => .bad (k + 1)
    | some p => rd r (k + 1) (vs ++ [p.1]) (ws ++ [p.2])
theorem okP_some {k : Nat} {P : List Str} {p : Int × Str} (h : okP k P = some p) : ∃ a b, P = [a, b, p.2] ∧ numO a = some (k : Int) ∧ numO b = some p.1 ∧ wOk p.2 = true ∧ cB k P = false := by
  match P, h with
  | [a, b, w], h =>
    simp only [okP] at h
    split at h
    · rename_i h1
      obtain ⟨v, h2, h3⟩ := Option.bind_eq_some_iff.mp h
      split at h3
      · rename_i h4
        cases h3
        exact ⟨a, b, rfl, h1, h2, h4, by simp [cB, h1, h2]⟩
      · cases h3
    · cases h
theorem okP_none {k : Nat} {P : List Str} (h : okP k P = none) : cB k P = true ∨ (cB k P = false ∧ ∃ a b w, P = [a, b, w] ∧ wOk w = false) := by
  by_cases hc : cB k P = true
  · exact .inl hc
  · have hc : cB k P = false := by simpa using hc
    refine .inr ⟨hc, ?_⟩
    match P, h, hc with
    | [a, b, w], h, hc =>
      simp only [cB, Bool.or_eq_false_iff, Bool.not_eq_false', decide_eq_true_eq] at hc
      obtain ⟨h1, h2⟩ := hc
      refine ⟨a, b, w, rfl, ?_⟩
      obtain ⟨v, hv⟩ : ∃ v, numO b = some v := by
        cases q : numO b with
        | none => rw [q] at h2; cases h2
        | some v => exact ⟨v, rfl⟩
      simp only [okP, h1, hv, if_true, Option.bind_some] at h
      cases q : wOk w with
      | false => rfl
      | true => rw [q] at h; cases h
    | [], _, hc => cases hc
    | [a], _, hc => cases hc
    | [a, b], _, hc => cases hc
    | a :: b :: c :: d :: r, _, hc => cases hc
/-! ### the program's loop -/
noncomputable def spS : SF := sSet 6 (gSplit (gVar 5) (gC (.str " ")))
noncomputable def pbW : BF := gTest (gOp fNotInV (gOp fIx (gVar 6) (gC (.int 2))) (gC c_LABELS))
noncomputable def pbB : SF := (sSeq spS
  (sSeq (sIf pbC sNever sNext)
  (sSeq (sIf pbW sNever sNext)
  (sSeq (sApp 1 (gCall F_number_of (DL.gCons (gOp fIx (gVar 6) (gC (.int 1))) DL.gNil)))
  (sApp 2 (gOp fIx (gVar 6) (gC (.int 2))))))))
noncomputable def pbX : XFn := (xNext spS (xOr (xIf pbC (xRaise "InvalidText" "line" (gOp fAdd (gVar 4) (gC (.int 1)))) xNo) (xNext (sIf pbC sNever sNext) (xIf pbW (xRaise "InvalidText" "line" (gOp fAdd (gVar 4) (gC (.int 1)))) xNo))))
noncomputable def pbT : TGf := DL.gtTup 2 (DL.gtCons (gtName 4) (DL.gtCons (gtName 5) DL.gtNil))
def errD (n : Nat) : PyData := .dict [(.str "InvalidText", .none), (.str "line", .int (n : Nat))]
theorem sp_ev {l : Str} (hl : l.length ≤ 640) {s0 s1 s2 s3 s4 s6 : Sl} : spS [s0, s1, s2, s3, s4, .v (.str l), s6] = some (.nx [s0, s1, s2, s3, s4, .v (.str l), .v (.list ((Txt.split l " ").map .str))]) := by
  have c : (((" " : Str)).length == 0) = false ∧ l.length ≤ 1000000 := ⟨sp_sp.2.2, by omega⟩
  generalize hP : (Txt.split l " ").map PyData.str = D at *
  simp only [spS, gSplit, c, hP, Nat.reduceLeDiff, Nat.reduceSub, cd_2, cd_3, cd_4, cd_5, cd_6, cd_7, cd_12, cd_20, cd_28, cd_60, cd_1000000, big, fEq_int, fNe_int, DL.atI_0, DL.atI_1, DL.atI_2, runF, runR, gVar, gC, DL.gNil, DL.gCons, gOp, gUn, fNeg, gTest, gTru, gChain, gIf, gAndV, gOrV, gNotV, bNot, bAnd, bOr, gCall, fCall, toSls, toSl, slotsOf, put, putL, sameKind, res, resA, gCB, fCB, gF, fLst, DL.gTup, allD, gRep, gSl, oNo, oInt, wipeR, restR, noL, fLc, bYes, fSumL, lists_map, cSorted, cSortSet, DL.ints_map, gIsi, noD, tyN, isiB, sNext, sSeq, sNever, sBreak, sCont, sExpr, sRet, sRetN, sRetF, sRetO, sIf, sFrz, frzAt, sSet, sSetO, sAsg, sPar, gtName, gtNil, gtCons, gtTup, gtLst, stay, iSeq, iTpl, iRange1_eq, iRange2_eq, rg1_2, rg1_3, rg1_4, iEnumD, iZipD, sFor, sApp, sPutIx, sAug, getL, frz, frz1, fLt_i, fLe_i, fGt_i, fGe_i, fIsN, fNotN, fAdd_i, fAdd_l, fSub_i, fMul_i, fDiv_i, fMod_i, fPow_i, fIx, fTru, cLen, cInt, List.getElem?_cons_zero, List.getElem?_cons_succ, List.getElem?_nil, List.set_cons_zero, List.set_cons_succ, List.set_nil, List.replicate, List.cons_append, List.nil_append, List.append_nil, List.map_cons, List.map_nil, List.take_succ_cons, List.take_zero, List.take_nil, List.nodup_nil, List.nodup_cons, List.not_mem_nil, List.mem_cons, List.length_cons, List.length_nil, Option.bind_some, Option.bind_none, Option.map_some, Option.map_none, Option.some_or, Option.none_or, Option.or_none, Nat.reduceAdd, Nat.reduceSub, if_true, if_false, ite_true, ite_false, reduceIte, Bool.false_eq_true, Bool.not_true, Bool.not_false, decide_true, decide_false, and_self, and_true, true_and, not_false_eq_true, not_true_eq_false, or_false, false_or, or_true, true_or, reduceCtorEq, forall_const, implies_true, Bool.true_and, Bool.and_true, Bool.false_and, Bool.and_false, Bool.or_true, Bool.or_false, Bool.true_or, Bool.false_or]
section
variable {k : Nat} {l : Str} {vs : List Int} {ws : List Str} {s0 s3 s6 : Sl}
theorem pb_ok (hl : l.length ≤ 640) (hv : vs.length ≤ 1000) (hw : ws.length ≤ 1000) {p : Int × Str} (h : okP k (Txt.split l " ") = some p) :
    pbX [s0, .l false (vs.map .int), .l false (ws.map .str), s3, .v (.int (k : Nat)), .v (.str l), s6] = none ∧
    ∃ s6', pbB [s0, .l false (vs.map .int), .l false (ws.map .str), s3, .v (.int (k : Nat)), .v (.str l), s6] = some (.nx [s0, .l false ((vs ++ [p.1]).map .int), .l false ((ws ++ [p.2]).map .str), s3, .v (.int (k : Nat)), .v (.str l), s6']) := by
  have e0 := sp_ev hl (s0 := s0) (s1 := .l false (vs.map .int)) (s2 := .l false (ws.map .str)) (s3 := s3) (s4 := .v (.int (k : Nat))) (s6 := s6)
  have hp := fun q hq => Nat.le_trans ((split_le (x := l) sp_sp.1 sp_sp.2.1).1 q hq) hl
  have e1 := pc_ev (k := k) hp (s0 := s0) (s1 := .l false (vs.map .int)) (s2 := .l false (ws.map .str)) (s3 := s3) (s5 := .v (.str l))
  obtain ⟨a, b, eP, h1, h2, h3, h4⟩ := okP_some h
  rw [h4] at e1
  have e3 := e_number_of (hp b (by rw [eP]; simp))
  rw [h2] at e3
  have e3 : F_number_of [.v (.str b)] = some (.int p.1, [.v (.str b)]) := e3
  have q := in_lab p.2
  rw [h3] at q
  rw [eP] at e0 e1
  have lv : (vs.map PyData.int).length < 1000000 := by rw [List.length_map]; omega
  have lw : (ws.map PyData.str).length < 1000000 := by rw [List.length_map]; omega
  rw [List.map_append, List.map_append]
  generalize vs.map PyData.int = VD at *
  generalize ws.map PyData.str = WD at *
  obtain ⟨v, w⟩ := p
  simp only [List.map_cons, List.map_nil] at e0 e1 ⊢
  have e2 : pbW [s0, .l false VD, .l false WD, s3, .v (.int (k : Nat)), .v (.str l), .v (.list [.str a, .str b, .str w])] = some (false, [s0, .l false VD, .l false WD, s3, .v (.int (k : Nat)), .v (.str l), .v (.list [.str a, .str b, .str w])]) := by
    simp only [pbW, q, Nat.reduceLeDiff, Nat.reduceSub, cd_2, cd_3, cd_4, cd_5, cd_6, cd_7, cd_12, cd_20, cd_28, cd_60, cd_1000000, big, fEq_int, fNe_int, DL.atI_0, DL.atI_1, DL.atI_2, runF, runR, gVar, gC, DL.gNil, DL.gCons, gOp, gUn, fNeg, gTest, gTru, gChain, gIf, gAndV, gOrV, gNotV, bNot, bAnd, bOr, gCall, fCall, toSls, toSl, slotsOf, put, putL, sameKind, res, resA, gCB, fCB, gF, fLst, DL.gTup, allD, gRep, gSl, oNo, oInt, wipeR, restR, noL, fLc, bYes, fSumL, lists_map, cSorted, cSortSet, DL.ints_map, gIsi, noD, tyN, isiB, sNext, sSeq, sNever, sBreak, sCont, sExpr, sRet, sRetN, sRetF, sRetO, sIf, sFrz, frzAt, sSet, sSetO, sAsg, sPar, gtName, gtNil, gtCons, gtTup, gtLst, stay, iSeq, iTpl, iRange1_eq, iRange2_eq, rg1_2, rg1_3, rg1_4, iEnumD, iZipD, sFor, sApp, sPutIx, sAug, getL, frz, frz1, fLt_i, fLe_i, fGt_i, fGe_i, fIsN, fNotN, fAdd_i, fAdd_l, fSub_i, fMul_i, fDiv_i, fMod_i, fPow_i, fIx, fTru, cLen, cInt, List.getElem?_cons_zero, List.getElem?_cons_succ, List.getElem?_nil, List.set_cons_zero, List.set_cons_succ, List.set_nil, List.replicate, List.cons_append, List.nil_append, List.append_nil, List.map_cons, List.map_nil, List.take_succ_cons, List.take_zero, List.take_nil, List.nodup_nil, List.nodup_cons, List.not_mem_nil, List.mem_cons, List.length_cons, List.length_nil, Option.bind_some, Option.bind_none, Option.map_some, Option.map_none, Option.some_or, Option.none_or, Option.or_none, Nat.reduceAdd, Nat.reduceSub, if_true, if_false, ite_true, ite_false, reduceIte, Bool.false_eq_true, Bool.not_true, Bool.not_false, decide_true, decide_false, and_self, and_true, true_and, not_false_eq_true, not_true_eq_false, or_false, false_or, or_true, true_or, reduceCtorEq, forall_const, implies_true, Bool.true_and, Bool.and_true, Bool.false_and, Bool.and_false, Bool.or_true, Bool.or_false, Bool.true_or, Bool.false_or]
  exact ⟨by simp only [pbX, xNext, xOr, xIf, xNo, e0, e1, e2, Nat.reduceLeDiff, Nat.reduceSub, cd_2, cd_3, cd_4, cd_5, cd_6, cd_7, cd_12, cd_20, cd_28, cd_60, cd_1000000, big, fEq_int, fNe_int, DL.atI_0, DL.atI_1, DL.atI_2, runF, runR, gVar, gC, DL.gNil, DL.gCons, gOp, gUn, fNeg, gTest, gTru, gChain, gIf, gAndV, gOrV, gNotV, bNot, bAnd, bOr, gCall, fCall, toSls, toSl, slotsOf, put, putL, sameKind, res, resA, gCB, fCB, gF, fLst, DL.gTup, allD, gRep, gSl, oNo, oInt, wipeR, restR, noL, fLc, bYes, fSumL, lists_map, cSorted, cSortSet, DL.ints_map, gIsi, noD, tyN, isiB, sNext, sSeq, sNever, sBreak, sCont, sExpr, sRet, sRetN, sRetF, sRetO, sIf, sFrz, frzAt, sSet, sSetO, sAsg, sPar, gtName, gtNil, gtCons, gtTup, gtLst, stay, iSeq, iTpl, iRange1_eq, iRange2_eq, rg1_2, rg1_3, rg1_4, iEnumD, iZipD, sFor, sApp, sPutIx, sAug, getL, frz, frz1, fLt_i, fLe_i, fGt_i, fGe_i, fIsN, fNotN, fAdd_i, fAdd_l, fSub_i, fMul_i, fDiv_i, fMod_i, fPow_i, fIx, fTru, cLen, cInt, List.getElem?_cons_zero, List.getElem?_cons_succ, List.getElem?_nil, List.set_cons_zero, List.set_cons_succ, List.set_nil, List.replicate, List.cons_append, List.nil_append, List.append_nil, List.map_cons, List.map_nil, List.take_succ_cons, List.take_zero, List.take_nil, List.nodup_nil, List.nodup_cons, List.not_mem_nil, List.mem_cons, List.length_cons, List.length_nil, Option.bind_some, Option.bind_none, Option.map_some, Option.map_none, Option.some_or, Option.none_or, Option.or_none, Nat.reduceAdd, Nat.reduceSub, if_true, if_false, ite_true, ite_false, reduceIte, Bool.false_eq_true, Bool.not_true, Bool.not_false, decide_true, decide_false, and_self, and_true, true_and, not_false_eq_true, not_true_eq_false, or_false, false_or, or_true, true_or, reduceCtorEq, forall_const, implies_true, Bool.true_and, Bool.and_true, Bool.false_and, Bool.and_false, Bool.or_true, Bool.or_false, Bool.true_or, Bool.false_or], _, by simp only [pbB, e0, e1, e2, e3, lv, lw, Nat.reduceLeDiff, Nat.reduceSub, cd_2, cd_3, cd_4, cd_5, cd_6, cd_7, cd_12, cd_20, cd_28, cd_60, cd_1000000, big, fEq_int, fNe_int, DL.atI_0, DL.atI_1, DL.atI_2, runF, runR, gVar, gC, DL.gNil, DL.gCons, gOp, gUn, fNeg, gTest, gTru, gChain, gIf, gAndV, gOrV, gNotV, bNot, bAnd, bOr, gCall, fCall, toSls, toSl, slotsOf, put, putL, sameKind, res, resA, gCB, fCB, gF, fLst, DL.gTup, allD, gRep, gSl, oNo, oInt, wipeR, restR, noL, fLc, bYes, fSumL, lists_map, cSorted, cSortSet, DL.ints_map, gIsi, noD, tyN, isiB, sNext, sSeq, sNever, sBreak, sCont, sExpr, sRet, sRetN, sRetF, sRetO, sIf, sFrz, frzAt, sSet, sSetO, sAsg, sPar, gtName, gtNil, gtCons, gtTup, gtLst, stay, iSeq, iTpl, iRange1_eq, iRange2_eq, rg1_2, rg1_3, rg1_4, iEnumD, iZipD, sFor, sApp, sPutIx, sAug, getL, frz, frz1, fLt_i, fLe_i, fGt_i, fGe_i, fIsN, fNotN, fAdd_i, fAdd_l, fSub_i, fMul_i, fDiv_i, fMod_i, fPow_i, fIx, fTru, cLen, cInt, List.getElem?_cons_zero, List.getElem?_cons_succ, List.getElem?_nil, List.set_cons_zero, List.set_cons_succ, List.set_nil, List.replicate, List.cons_append, List.nil_append, List.append_nil, List.map_cons, List.map_nil, List.take_succ_cons, List.take_zero, List.take_nil, List.nodup_nil, List.nodup_cons, List.not_mem_nil, List.mem_cons, List.length_cons, List.length_nil, Option.bind_some, Option.bind_none, Option.map_some, Option.map_none, Option.some_or, Option.none_or, Option.or_none, Nat.reduceAdd, Nat.reduceSub, if_true, if_false, ite_true, ite_false, reduceIte, Bool.false_eq_true, Bool.not_true, Bool.not_false, decide_true, decide_false, and_self, and_true, true_and, not_false_eq_true, not_true_eq_false, or_false, false_or, or_true, true_or, reduceCtorEq, forall_const, implies_true, Bool.true_and, Bool.and_true, Bool.false_and, Bool.and_false, Bool.or_true, Bool.or_false, Bool.true_or, Bool.false_or]; rfl⟩
theorem pb_bad (hl : l.length ≤ 640) (h : okP k (Txt.split l " ") = none) {s1 s2 : Sl} : ∃ ρ', pbX [s0, s1, s2, s3, .v (.int (k : Nat)), .v (.str l), s6] = some (errD (k + 1), ρ') := by
  have e0 := sp_ev hl (s0 := s0) (s1 := s1) (s2 := s2) (s3 := s3) (s4 := .v (.int (k : Nat))) (s6 := s6)
  have hp := fun q hq => Nat.le_trans ((split_le (x := l) sp_sp.1 sp_sp.2.1).1 q hq) hl
  have e1 := pc_ev (k := k) hp (s0 := s0) (s1 := s1) (s2 := s2) (s3 := s3) (s5 := .v (.str l))
  rcases okP_none h with hc | ⟨hc, a, b, w, eP, hw⟩
  · rw [hc] at e1
    generalize (Txt.split l " ").map PyData.str = D at *
    exact ⟨_, by simp only [pbX, xNext, xOr, xIf, xRaise, e0, e1, errD, Nat.reduceLeDiff, Nat.reduceSub, cd_2, cd_3, cd_4, cd_5, cd_6, cd_7, cd_12, cd_20, cd_28, cd_60, cd_1000000, big, fEq_int, fNe_int, DL.atI_0, DL.atI_1, DL.atI_2, runF, runR, gVar, gC, DL.gNil, DL.gCons, gOp, gUn, fNeg, gTest, gTru, gChain, gIf, gAndV, gOrV, gNotV, bNot, bAnd, bOr, gCall, fCall, toSls, toSl, slotsOf, put, putL, sameKind, res, resA, gCB, fCB, gF, fLst, DL.gTup, allD, gRep, gSl, oNo, oInt, wipeR, restR, noL, fLc, bYes, fSumL, lists_map, cSorted, cSortSet, DL.ints_map, gIsi, noD, tyN, isiB, sNext, sSeq, sNever, sBreak, sCont, sExpr, sRet, sRetN, sRetF, sRetO, sIf, sFrz, frzAt, sSet, sSetO, sAsg, sPar, gtName, gtNil, gtCons, gtTup, gtLst, stay, iSeq, iTpl, iRange1_eq, iRange2_eq, rg1_2, rg1_3, rg1_4, iEnumD, iZipD, sFor, sApp, sPutIx, sAug, getL, frz, frz1, fLt_i, fLe_i, fGt_i, fGe_i, fIsN, fNotN, fAdd_i, fAdd_l, fSub_i, fMul_i, fDiv_i, fMod_i, fPow_i, fIx, fTru, cLen, cInt, List.getElem?_cons_zero, List.getElem?_cons_succ, List.getElem?_nil, List.set_cons_zero, List.set_cons_succ, List.set_nil, List.replicate, List.cons_append, List.nil_append, List.append_nil, List.map_cons, List.map_nil, List.take_succ_cons, List.take_zero, List.take_nil, List.nodup_nil, List.nodup_cons, List.not_mem_nil, List.mem_cons, List.length_cons, List.length_nil, Option.bind_some, Option.bind_none, Option.map_some, Option.map_none, Option.some_or, Option.none_or, Option.or_none, Nat.reduceAdd, Nat.reduceSub, if_true, if_false, ite_true, ite_false, reduceIte, Bool.false_eq_true, Bool.not_true, Bool.not_false, decide_true, decide_false, and_self, and_true, true_and, not_false_eq_true, not_true_eq_false, or_false, false_or, or_true, true_or, reduceCtorEq, forall_const, implies_true, Bool.true_and, Bool.and_true, Bool.false_and, Bool.and_false, Bool.or_true, Bool.or_false, Bool.true_or, Bool.false_or]; rfl⟩
  · rw [hc] at e1
    have q := in_lab w
    rw [hw] at q
    rw [eP] at e0 e1
    simp only [List.map_cons, List.map_nil] at e0 e1
    have e2 : pbW [s0, s1, s2, s3, .v (.int (k : Nat)), .v (.str l), .v (.list [.str a, .str b, .str w])] = some (true, [s0, s1, s2, s3, .v (.int (k : Nat)), .v (.str l), .v (.list [.str a, .str b, .str w])]) := by
      simp only [pbW, q, Nat.reduceLeDiff, Nat.reduceSub, cd_2, cd_3, cd_4, cd_5, cd_6, cd_7, cd_12, cd_20, cd_28, cd_60, cd_1000000, big, fEq_int, fNe_int, DL.atI_0, DL.atI_1, DL.atI_2, runF, runR, gVar, gC, DL.gNil, DL.gCons, gOp, gUn, fNeg, gTest, gTru, gChain, gIf, gAndV, gOrV, gNotV, bNot, bAnd, bOr, gCall, fCall, toSls, toSl, slotsOf, put, putL, sameKind, res, resA, gCB, fCB, gF, fLst, DL.gTup, allD, gRep, gSl, oNo, oInt, wipeR, restR, noL, fLc, bYes, fSumL, lists_map, cSorted, cSortSet, DL.ints_map, gIsi, noD, tyN, isiB, sNext, sSeq, sNever, sBreak, sCont, sExpr, sRet, sRetN, sRetF, sRetO, sIf, sFrz, frzAt, sSet, sSetO, sAsg, sPar, gtName, gtNil, gtCons, gtTup, gtLst, stay, iSeq, iTpl, iRange1_eq, iRange2_eq, rg1_2, rg1_3, rg1_4, iEnumD, iZipD, sFor, sApp, sPutIx, sAug, getL, frz, frz1, fLt_i, fLe_i, fGt_i, fGe_i, fIsN, fNotN, fAdd_i, fAdd_l, fSub_i, fMul_i, fDiv_i, fMod_i, fPow_i, fIx, fTru, cLen, cInt, List.getElem?_cons_zero, List.getElem?_cons_succ, List.getElem?_nil, List.set_cons_zero, List.set_cons_succ, List.set_nil, List.replicate, List.cons_append, List.nil_append, List.append_nil, List.map_cons, List.map_nil, List.take_succ_cons, List.take_zero, List.take_nil, List.nodup_nil, List.nodup_cons, List.not_mem_nil, List.mem_cons, List.length_cons, List.length_nil, Option.bind_some, Option.bind_none, Option.map_some, Option.map_none, Option.some_or, Option.none_or, Option.or_none, Nat.reduceAdd, Nat.reduceSub, if_true, if_false, ite_true, ite_false, reduceIte, Bool.false_eq_true, Bool.not_true, Bool.not_false, decide_true, decide_false, and_self, and_true, true_and, not_false_eq_true, not_true_eq_false, or_false, false_or, or_true, true_or, reduceCtorEq, forall_const, implies_true, Bool.true_and, Bool.and_true, Bool.false_and, Bool.and_false, Bool.or_true, Bool.or_false, Bool.true_or, Bool.false_or]
    exact ⟨_, by simp only [pbX, xNext, xOr, xIf, xNo, xRaise, e0, e1, e2, errD, Nat.reduceLeDiff, Nat.reduceSub, cd_2, cd_3, cd_4, cd_5, cd_6, cd_7, cd_12, cd_20, cd_28, cd_60, cd_1000000, big, fEq_int, fNe_int, DL.atI_0, DL.atI_1, DL.atI_2, runF, runR, gVar, gC, DL.gNil, DL.gCons, gOp, gUn, fNeg, gTest, gTru, gChain, gIf, gAndV, gOrV, gNotV, bNot, bAnd, bOr, gCall, fCall, toSls, toSl, slotsOf, put, putL, sameKind, res, resA, gCB, fCB, gF, fLst, DL.gTup, allD, gRep, gSl, oNo, oInt, wipeR, restR, noL, fLc, bYes, fSumL, lists_map, cSorted, cSortSet, DL.ints_map, gIsi, noD, tyN, isiB, sNext, sSeq, sNever, sBreak, sCont, sExpr, sRet, sRetN, sRetF, sRetO, sIf, sFrz, frzAt, sSet, sSetO, sAsg, sPar, gtName, gtNil, gtCons, gtTup, gtLst, stay, iSeq, iTpl, iRange1_eq, iRange2_eq, rg1_2, rg1_3, rg1_4, iEnumD, iZipD, sFor, sApp, sPutIx, sAug, getL, frz, frz1, fLt_i, fLe_i, fGt_i, fGe_i, fIsN, fNotN, fAdd_i, fAdd_l, fSub_i, fMul_i, fDiv_i, fMod_i, fPow_i, fIx, fTru, cLen, cInt, List.getElem?_cons_zero, List.getElem?_cons_succ, List.getElem?_nil, List.set_cons_zero, List.set_cons_succ, List.set_nil, List.replicate, List.cons_append, List.nil_append, List.append_nil, List.map_cons, List.map_nil, List.take_succ_cons, List.take_zero, List.take_nil, List.nodup_nil, List.nodup_cons, List.not_mem_nil, List.mem_cons, List.length_cons, List.length_nil, Option.bind_some, Option.bind_none, Option.map_some, Option.map_none, Option.some_or, Option.none_or, Option.or_none, Nat.reduceAdd, Nat.reduceSub, if_true, if_false, ite_true, ite_false, reduceIte, Bool.false_eq_true, Bool.not_true, Bool.not_false, decide_true, decide_false, and_self, and_true, true_and, not_false_eq_true, not_true_eq_false, or_false, false_or, or_true, true_or, reduceCtorEq, forall_const, implies_true, Bool.true_and, Bool.and_true, Bool.false_and, Bool.and_false, Bool.or_true, Bool.or_false, Bool.true_or, Bool.false_or]; rfl⟩
end
theorem pb_for {s0 s3 : Sl} : ∀ (ls : List Str) (k : Nat) (vs : List Int) (ws : List Str) (s4 s5 s6 : Sl), (∀ l ∈ ls, l.length ≤ 640) → vs.length + ls.length ≤ 1000 → ws.length + ls.length ≤ 1000 →
    match rd ls k vs ws with
    | .good vs' ws' => xGo pbT pbX pbB (enumD k (ls.map .str)) [s0, .l false (vs.map .int), .l false (ws.map .str), s3, s4, s5, s6] = none ∧
      ∃ s4' s5' s6', forGo pbT pbB (enumD k (ls.map .str)) [s0, .l false (vs.map .int), .l false (ws.map .str), s3, s4, s5, s6] = some (.nx [s0, .l false (vs'.map .int), .l false (ws'.map .str), s3, s4', s5', s6'])
    | .bad n => ∃ ρ', xGo pbT pbX pbB (enumD k (ls.map .str)) [s0, .l false (vs.map .int), .l false (ws.map .str), s3, s4, s5, s6] = some (errD n, ρ')
  | [], k, vs, ws, s4, s5, s6, _, _, _ => ⟨rfl, s4, s5, s6, rfl⟩
  | l :: r, k, vs, ws, s4, s5, s6, hl, hv, hw => by
    rw [List.length_cons] at hv hw
    have hl0 := hl l List.mem_cons_self
    have et : ∀ s1 s2, pbT (.tuple [.int (k : Nat), .str l]) [s0, s1, s2, s3, s4, s5, s6] = some [s0, s1, s2, s3, .v (.int (k : Nat)), .v (.str l), s6] := fun s1 s2 => by
      simp only [pbT, Nat.reduceLeDiff, Nat.reduceSub, cd_2, cd_3, cd_4, cd_5, cd_6, cd_7, cd_12, cd_20, cd_28, cd_60, cd_1000000, big, fEq_int, fNe_int, DL.atI_0, DL.atI_1, DL.atI_2, runF, runR, gVar, gC, DL.gNil, DL.gCons, gOp, gUn, fNeg, gTest, gTru, gChain, gIf, gAndV, gOrV, gNotV, bNot, bAnd, bOr, gCall, fCall, toSls, toSl, slotsOf, put, putL, sameKind, res, resA, gCB, fCB, gF, fLst, DL.gTup, allD, gRep, gSl, oNo, oInt, wipeR, restR, noL, fLc, bYes, fSumL, lists_map, cSorted, cSortSet, DL.ints_map, gIsi, noD, tyN, isiB, sNext, sSeq, sNever, sBreak, sCont, sExpr, sRet, sRetN, sRetF, sRetO, sIf, sFrz, frzAt, sSet, sSetO, sAsg, sPar, gtName, gtNil, gtCons, gtTup, gtLst, stay, iSeq, iTpl, iRange1_eq, iRange2_eq, rg1_2, rg1_3, rg1_4, iEnumD, iZipD, sFor, sApp, sPutIx, sAug, getL, frz, frz1, fLt_i, fLe_i, fGt_i, fGe_i, fIsN, fNotN, fAdd_i, fAdd_l, fSub_i, fMul_i, fDiv_i, fMod_i, fPow_i, fIx, fTru, cLen, cInt, List.getElem?_cons_zero, List.getElem?_cons_succ, List.getElem?_nil, List.set_cons_zero, List.set_cons_succ, List.set_nil, List.replicate, List.cons_append, List.nil_append, List.append_nil, List.map_cons, List.map_nil, List.take_succ_cons, List.take_zero, List.take_nil, List.nodup_nil, List.nodup_cons, List.not_mem_nil, List.mem_cons, List.length_cons, List.length_nil, Option.bind_some, Option.bind_none, Option.map_some, Option.map_none, Option.some_or, Option.none_or, Option.or_none, Nat.reduceAdd, Nat.reduceSub, if_true, if_false, ite_true, ite_false, reduceIte, Bool.false_eq_true, Bool.not_true, Bool.not_false, decide_true, decide_false, and_self, and_true, true_and, not_false_eq_true, not_true_eq_false, or_false, false_or, or_true, true_or, reduceCtorEq, forall_const, implies_true, Bool.true_and, Bool.and_true, Bool.false_and, Bool.and_false, Bool.or_true, Bool.or_false, Bool.true_or, Bool.false_or]
    have ed : enumD k ((l :: r).map PyData.str) = .tuple [.int (k : Nat), .str l] :: enumD (k + 1) (r.map .str) := rfl
    rw [ed]
    simp only [rd]
    cases h : okP k (Txt.split l " ") with
    | none =>
      obtain ⟨ρ', e⟩ := pb_bad hl0 h (s0 := s0) (s3 := s3) (s6 := s6) (s1 := .l false (vs.map .int)) (s2 := .l false (ws.map .str))
      exact ⟨ρ', by simp only [xGo, et, e, Option.bind_some]⟩
    | some p =>
      obtain ⟨e1, y6, e2⟩ := pb_ok hl0 (by omega) (by omega) h (s0 := s0) (s3 := s3) (s6 := s6) (vs := vs) (ws := ws)
      have ih := pb_for (s0 := s0) (s3 := s3) r (k + 1) (vs ++ [p.1]) (ws ++ [p.2]) (.v (.int (k : Nat))) (.v (.str l)) y6 (fun x hx => hl x (List.mem_cons_of_mem _ hx)) (by rw [List.length_append, List.length_singleton]; omega) (by rw [List.length_append, List.length_singleton]; omega)
      simp only
      generalize rd r (k + 1) (vs ++ [p.1]) (ws ++ [p.2]) = R at *
      cases R with
      | bad n =>
        obtain ⟨ρ', e⟩ := ih
        exact ⟨ρ', by simp only [xGo, et, e1, e2, e, Option.bind_some]⟩
      | good vs' ws' =>
        obtain ⟨e3, y4, y5, y6', e4⟩ := ih
        exact ⟨by simp only [xGo, et, e1, e2, e3, Option.bind_some], y4, y5, y6', by simp only [forGo, et, e2, e4, Option.bind_some]⟩
end Lw
set_option maxHeartbeats 1000000
namespace Lw
open PySem PySem.Spec PyProof.Rows L2 DL TL
/-! ### the law's loop -/
def outR : Rd → List PyData
  | .good vs ws => [.str "told", .tuple [.list (vs.map .int), .list (ws.map .str)]]
  | .bad n => [.str "raised", .int (n : Nat)]
noncomputable def lspS : SF := sSet 5 (gSplit (gVar 4) (gC (.str " ")))
noncomputable def raiE : EF := gF (fLst (DL.gCons (gC (.str "raised")) (DL.gCons (gOp fAdd (gVar 3) (gC (.int 1))) DL.gNil)))
noncomputable def lbW : BF := gTest (gOp fNotInV (gOp fIx (gVar 5) (gC (.int 2))) (gF (fLst (DL.gCons (gC (.str "dead")) (DL.gCons (gC (.str "found")) (DL.gCons (gC (.str "high")) (DL.gCons (gC (.str "low")) DL.gNil)))))))
noncomputable def lbB : SF := (sSeq lspS
  (sSeq (sIf lbC (sRet raiE) sNext)
  (sSeq (sIf lbW (sRet raiE) sNext)
  (sSeq (sApp 1 (gCall F__law_number (DL.gCons (gOp fIx (gVar 5) (gC (.int 1))) DL.gNil)))
  (sApp 2 (gOp fIx (gVar 5) (gC (.int 2))))))))
noncomputable def lbT : TGf := DL.gtTup 2 (DL.gtCons (gtName 3) (DL.gtCons (gtName 4) DL.gtNil))
theorem lsp_ev {l : Str} (hl : l.length ≤ 640) {s0 s1 s2 s3 s5 : Sl} : lspS [s0, s1, s2, s3, .v (.str l), s5] = some (.nx [s0, s1, s2, s3, .v (.str l), .v (.list ((Txt.split l " ").map .str))]) := by
  have c : (((" " : Str)).length == 0) = false ∧ l.length ≤ 1000000 := ⟨sp_sp.2.2, by omega⟩
  generalize hP : (Txt.split l " ").map PyData.str = D at *
  simp only [lspS, gSplit, c, hP, Nat.reduceLeDiff, Nat.reduceSub, cd_2, cd_3, cd_4, cd_5, cd_6, cd_7, cd_12, cd_20, cd_28, cd_60, cd_1000000, big, fEq_int, fNe_int, DL.atI_0, DL.atI_1, DL.atI_2, runF, runR, gVar, gC, DL.gNil, DL.gCons, gOp, gUn, fNeg, gTest, gTru, gChain, gIf, gAndV, gOrV, gNotV, bNot, bAnd, bOr, gCall, fCall, toSls, toSl, slotsOf, put, putL, sameKind, res, resA, gCB, fCB, gF, fLst, DL.gTup, allD, gRep, gSl, oNo, oInt, wipeR, restR, noL, fLc, bYes, fSumL, lists_map, cSorted, cSortSet, DL.ints_map, gIsi, noD, tyN, isiB, sNext, sSeq, sNever, sBreak, sCont, sExpr, sRet, sRetN, sRetF, sRetO, sIf, sFrz, frzAt, sSet, sSetO, sAsg, sPar, gtName, gtNil, gtCons, gtTup, gtLst, stay, iSeq, iTpl, iRange1_eq, iRange2_eq, rg1_2, rg1_3, rg1_4, iEnumD, iZipD, sFor, sApp, sPutIx, sAug, getL, frz, frz1, fLt_i, fLe_i, fGt_i, fGe_i, fIsN, fNotN, fAdd_i, fAdd_l, fSub_i, fMul_i, fDiv_i, fMod_i, fPow_i, fIx, fTru, cLen, cInt, List.getElem?_cons_zero, List.getElem?_cons_succ, List.getElem?_nil, List.set_cons_zero, List.set_cons_succ, List.set_nil, List.replicate, List.cons_append, List.nil_append, List.append_nil, List.map_cons, List.map_nil, List.take_succ_cons, List.take_zero, List.take_nil, List.nodup_nil, List.nodup_cons, List.not_mem_nil, List.mem_cons, List.length_cons, List.length_nil, Option.bind_some, Option.bind_none, Option.map_some, Option.map_none, Option.some_or, Option.none_or, Option.or_none, Nat.reduceAdd, Nat.reduceSub, if_true, if_false, ite_true, ite_false, reduceIte, Bool.false_eq_true, Bool.not_true, Bool.not_false, decide_true, decide_false, and_self, and_true, true_and, not_false_eq_true, not_true_eq_false, or_false, false_or, or_true, true_or, reduceCtorEq, forall_const, implies_true, Bool.true_and, Bool.and_true, Bool.false_and, Bool.and_false, Bool.or_true, Bool.or_false, Bool.true_or, Bool.false_or]
section
variable {k : Nat} {l : Str} {vs : List Int} {ws : List Str} {t : PyData} {s5 : Sl}
theorem lb_ok (hk : k ≤ 100000) (hl : l.length ≤ 640) (hv : vs.length ≤ 1000) (hw : ws.length ≤ 1000) {p : Int × Str} (h : okP k (Txt.split l " ") = some p) :
    ∃ s5', lbB [.v t, .l false (vs.map .int), .l false (ws.map .str), .v (.int (k : Nat)), .v (.str l), s5] = some (.nx [.v t, .l false ((vs ++ [p.1]).map .int), .l false ((ws ++ [p.2]).map .str), .v (.int (k : Nat)), .v (.str l), s5']) := by
  have e0 := lsp_ev hl (s0 := .v t) (s1 := .l false (vs.map .int)) (s2 := .l false (ws.map .str)) (s3 := .v (.int (k : Nat))) (s5 := s5)
  have hp := fun q hq => Nat.le_trans ((split_le (x := l) sp_sp.1 sp_sp.2.1).1 q hq) hl
  have e1 := lc_ev (k := k) hk hp (s0 := .v t) (s1 := .l false (vs.map .int)) (s2 := .l false (ws.map .str)) (s4 := .v (.str l))
  obtain ⟨a, b, eP, h1, h2, h3, h4⟩ := okP_some h
  rw [h4] at e1
  have e3 := e__law_number (hp b (by rw [eP]; simp))
  rw [h2] at e3
  have e3 : F__law_number [.v (.str b)] = some (.int p.1, [.v (.str b)]) := e3
  have q := in_lab2 p.2
  rw [h3] at q
  rw [eP] at e0 e1
  have lv : (vs.map PyData.int).length < 1000000 := by rw [List.length_map]; omega
  have lw : (ws.map PyData.str).length < 1000000 := by rw [List.length_map]; omega
  rw [List.map_append, List.map_append]
  generalize vs.map PyData.int = VD at *
  generalize ws.map PyData.str = WD at *
  obtain ⟨v, w⟩ := p
  simp only [List.map_cons, List.map_nil] at e0 e1 ⊢
  have e2 : lbW [.v t, .l false VD, .l false WD, .v (.int (k : Nat)), .v (.str l), .v (.list [.str a, .str b, .str w])] = some (false, [.v t, .l false VD, .l false WD, .v (.int (k : Nat)), .v (.str l), .v (.list [.str a, .str b, .str w])]) := by
    simp only [lbW, q, Nat.reduceLeDiff, Nat.reduceSub, cd_2, cd_3, cd_4, cd_5, cd_6, cd_7, cd_12, cd_20, cd_28, cd_60, cd_1000000, big, fEq_int, fNe_int, DL.atI_0, DL.atI_1, DL.atI_2, runF, runR, gVar, gC, DL.gNil, DL.gCons, gOp, gUn, fNeg, gTest, gTru, gChain, gIf, gAndV, gOrV, gNotV, bNot, bAnd, bOr, gCall, fCall, toSls, toSl, slotsOf, put, putL, sameKind, res, resA, gCB, fCB, gF, fLst, DL.gTup, allD, gRep, gSl, oNo, oInt, wipeR, restR, noL, fLc, bYes, fSumL, lists_map, cSorted, cSortSet, DL.ints_map, gIsi, noD, tyN, isiB, sNext, sSeq, sNever, sBreak, sCont, sExpr, sRet, sRetN, sRetF, sRetO, sIf, sFrz, frzAt, sSet, sSetO, sAsg, sPar, gtName, gtNil, gtCons, gtTup, gtLst, stay, iSeq, iTpl, iRange1_eq, iRange2_eq, rg1_2, rg1_3, rg1_4, iEnumD, iZipD, sFor, sApp, sPutIx, sAug, getL, frz, frz1, fLt_i, fLe_i, fGt_i, fGe_i, fIsN, fNotN, fAdd_i, fAdd_l, fSub_i, fMul_i, fDiv_i, fMod_i, fPow_i, fIx, fTru, cLen, cInt, List.getElem?_cons_zero, List.getElem?_cons_succ, List.getElem?_nil, List.set_cons_zero, List.set_cons_succ, List.set_nil, List.replicate, List.cons_append, List.nil_append, List.append_nil, List.map_cons, List.map_nil, List.take_succ_cons, List.take_zero, List.take_nil, List.nodup_nil, List.nodup_cons, List.not_mem_nil, List.mem_cons, List.length_cons, List.length_nil, Option.bind_some, Option.bind_none, Option.map_some, Option.map_none, Option.some_or, Option.none_or, Option.or_none, Nat.reduceAdd, Nat.reduceSub, if_true, if_false, ite_true, ite_false, reduceIte, Bool.false_eq_true, Bool.not_true, Bool.not_false, decide_true, decide_false, and_self, and_true, true_and, not_false_eq_true, not_true_eq_false, or_false, false_or, or_true, true_or, reduceCtorEq, forall_const, implies_true, Bool.true_and, Bool.and_true, Bool.false_and, Bool.and_false, Bool.or_true, Bool.or_false, Bool.true_or, Bool.false_or]
  exact ⟨_, by simp only [lbB, e0, e1, e2, e3, lv, lw, Nat.reduceLeDiff, Nat.reduceSub, cd_2, cd_3, cd_4, cd_5, cd_6, cd_7, cd_12, cd_20, cd_28, cd_60, cd_1000000, big, fEq_int, fNe_int, DL.atI_0, DL.atI_1, DL.atI_2, runF, runR, gVar, gC, DL.gNil, DL.gCons, gOp, gUn, fNeg, gTest, gTru, gChain, gIf, gAndV, gOrV, gNotV, bNot, bAnd, bOr, gCall, fCall, toSls, toSl, slotsOf, put, putL, sameKind, res, resA, gCB, fCB, gF, fLst, DL.gTup, allD, gRep, gSl, oNo, oInt, wipeR, restR, noL, fLc, bYes, fSumL, lists_map, cSorted, cSortSet, DL.ints_map, gIsi, noD, tyN, isiB, sNext, sSeq, sNever, sBreak, sCont, sExpr, sRet, sRetN, sRetF, sRetO, sIf, sFrz, frzAt, sSet, sSetO, sAsg, sPar, gtName, gtNil, gtCons, gtTup, gtLst, stay, iSeq, iTpl, iRange1_eq, iRange2_eq, rg1_2, rg1_3, rg1_4, iEnumD, iZipD, sFor, sApp, sPutIx, sAug, getL, frz, frz1, fLt_i, fLe_i, fGt_i, fGe_i, fIsN, fNotN, fAdd_i, fAdd_l, fSub_i, fMul_i, fDiv_i, fMod_i, fPow_i, fIx, fTru, cLen, cInt, List.getElem?_cons_zero, List.getElem?_cons_succ, List.getElem?_nil, List.set_cons_zero, List.set_cons_succ, List.set_nil, List.replicate, List.cons_append, List.nil_append, List.append_nil, List.map_cons, List.map_nil, List.take_succ_cons, List.take_zero, List.take_nil, List.nodup_nil, List.nodup_cons, List.not_mem_nil, List.mem_cons, List.length_cons, List.length_nil, Option.bind_some, Option.bind_none, Option.map_some, Option.map_none, Option.some_or, Option.none_or, Option.or_none, Nat.reduceAdd, Nat.reduceSub, if_true, if_false, ite_true, ite_false, reduceIte, Bool.false_eq_true, Bool.not_true, Bool.not_false, decide_true, decide_false, and_self, and_true, true_and, not_false_eq_true, not_true_eq_false, or_false, false_or, or_true, true_or, reduceCtorEq, forall_const, implies_true, Bool.true_and, Bool.and_true, Bool.false_and, Bool.and_false, Bool.or_true, Bool.or_false, Bool.true_or, Bool.false_or]; rfl⟩
theorem lb_bad (hk : k ≤ 100000) (hl : l.length ≤ 640) (h : okP k (Txt.split l " ") = none) : ∃ ρ', lbB [.v t, .l false (vs.map .int), .l false (ws.map .str), .v (.int (k : Nat)), .v (.str l), s5] = some (.rt (.list (outR (.bad (k + 1)))) (.v t :: ρ')) := by
  have e0 := lsp_ev hl (s0 := .v t) (s1 := .l false (vs.map .int)) (s2 := .l false (ws.map .str)) (s3 := .v (.int (k : Nat))) (s5 := s5)
  have hp := fun q hq => Nat.le_trans ((split_le (x := l) sp_sp.1 sp_sp.2.1).1 q hq) hl
  have e1 := lc_ev (k := k) hk hp (s0 := .v t) (s1 := .l false (vs.map .int)) (s2 := .l false (ws.map .str)) (s4 := .v (.str l))
  have co : ((k + 1 : Nat) : Int) = (k : Int) + 1 := by omega
  generalize vs.map PyData.int = VD at *
  generalize ws.map PyData.str = WD at *
  rcases okP_none h with hc | ⟨hc, a, b, w, eP, hw⟩
  · rw [hc] at e1
    generalize (Txt.split l " ").map PyData.str = D at *
    exact ⟨_, by simp only [lbB, raiE, outR, co, e0, e1, Nat.reduceLeDiff, Nat.reduceSub, cd_2, cd_3, cd_4, cd_5, cd_6, cd_7, cd_12, cd_20, cd_28, cd_60, cd_1000000, big, fEq_int, fNe_int, DL.atI_0, DL.atI_1, DL.atI_2, runF, runR, gVar, gC, DL.gNil, DL.gCons, gOp, gUn, fNeg, gTest, gTru, gChain, gIf, gAndV, gOrV, gNotV, bNot, bAnd, bOr, gCall, fCall, toSls, toSl, slotsOf, put, putL, sameKind, res, resA, gCB, fCB, gF, fLst, DL.gTup, allD, gRep, gSl, oNo, oInt, wipeR, restR, noL, fLc, bYes, fSumL, lists_map, cSorted, cSortSet, DL.ints_map, gIsi, noD, tyN, isiB, sNext, sSeq, sNever, sBreak, sCont, sExpr, sRet, sRetN, sRetF, sRetO, sIf, sFrz, frzAt, sSet, sSetO, sAsg, sPar, gtName, gtNil, gtCons, gtTup, gtLst, stay, iSeq, iTpl, iRange1_eq, iRange2_eq, rg1_2, rg1_3, rg1_4, iEnumD, iZipD, sFor, sApp, sPutIx, sAug, getL, frz, frz1, fLt_i, fLe_i, fGt_i, fGe_i, fIsN, fNotN, fAdd_i, fAdd_l, fSub_i, fMul_i, fDiv_i, fMod_i, fPow_i, fIx, fTru, cLen, cInt, List.getElem?_cons_zero, List.getElem?_cons_succ, List.getElem?_nil, List.set_cons_zero, List.set_cons_succ, List.set_nil, List.replicate, List.cons_append, List.nil_append, List.append_nil, List.map_cons, List.map_nil, List.take_succ_cons, List.take_zero, List.take_nil, List.nodup_nil, List.nodup_cons, List.not_mem_nil, List.mem_cons, List.length_cons, List.length_nil, Option.bind_some, Option.bind_none, Option.map_some, Option.map_none, Option.some_or, Option.none_or, Option.or_none, Nat.reduceAdd, Nat.reduceSub, if_true, if_false, ite_true, ite_false, reduceIte, Bool.false_eq_true, Bool.not_true, Bool.not_false, decide_true, decide_false, and_self, and_true, true_and, not_false_eq_true, not_true_eq_false, or_false, false_or, or_true, true_or, reduceCtorEq, forall_const, implies_true, Bool.true_and, Bool.and_true, Bool.false_and, Bool.and_false, Bool.or_true, Bool.or_false, Bool.true_or, Bool.false_or]; rfl⟩
  · rw [hc] at e1
    have q := in_lab2 w
    rw [hw] at q
    rw [eP] at e0 e1
    simp only [List.map_cons, List.map_nil] at e0 e1
    have e2 : lbW [.v t, .l false VD, .l false WD, .v (.int (k : Nat)), .v (.str l), .v (.list [.str a, .str b, .str w])] = some (true, [.v t, .l false VD, .l false WD, .v (.int (k : Nat)), .v (.str l), .v (.list [.str a, .str b, .str w])]) := by
      simp only [lbW, q, Nat.reduceLeDiff, Nat.reduceSub, cd_2, cd_3, cd_4, cd_5, cd_6, cd_7, cd_12, cd_20, cd_28, cd_60, cd_1000000, big, fEq_int, fNe_int, DL.atI_0, DL.atI_1, DL.atI_2, runF, runR, gVar, gC, DL.gNil, DL.gCons, gOp, gUn, fNeg, gTest, gTru, gChain, gIf, gAndV, gOrV, gNotV, bNot, bAnd, bOr, gCall, fCall, toSls, toSl, slotsOf, put, putL, sameKind, res, resA, gCB, fCB, gF, fLst, DL.gTup, allD, gRep, gSl, oNo, oInt, wipeR, restR, noL, fLc, bYes, fSumL, lists_map, cSorted, cSortSet, DL.ints_map, gIsi, noD, tyN, isiB, sNext, sSeq, sNever, sBreak, sCont, sExpr, sRet, sRetN, sRetF, sRetO, sIf, sFrz, frzAt, sSet, sSetO, sAsg, sPar, gtName, gtNil, gtCons, gtTup, gtLst, stay, iSeq, iTpl, iRange1_eq, iRange2_eq, rg1_2, rg1_3, rg1_4, iEnumD, iZipD, sFor, sApp, sPutIx, sAug, getL, frz, frz1, fLt_i, fLe_i, fGt_i, fGe_i, fIsN, fNotN, fAdd_i, fAdd_l, fSub_i, fMul_i, fDiv_i, fMod_i, fPow_i, fIx, fTru, cLen, cInt, List.getElem?_cons_zero, List.getElem?_cons_succ, List.getElem?_nil, List.set_cons_zero, List.set_cons_succ, List.set_nil, List.replicate, List.cons_append, List.nil_append, List.append_nil, List.map_cons, List.map_nil, List.take_succ_cons, List.take_zero, List.take_nil, List.nodup_nil, List.nodup_cons, List.not_mem_nil, List.mem_cons, List.length_cons, List.length_nil, Option.bind_some, Option.bind_none, Option.map_some, Option.map_none, Option.some_or, Option.none_or, Option.or_none, Nat.reduceAdd, Nat.reduceSub, if_true, if_false, ite_true, ite_false, reduceIte, Bool.false_eq_true, Bool.not_true, Bool.not_false, decide_true, decide_false, and_self, and_true, true_and, not_false_eq_true, not_true_eq_false, or_false, false_or, or_true, true_or, reduceCtorEq, forall_const, implies_true, Bool.true_and, Bool.and_true, Bool.false_and, Bool.and_false, Bool.or_true, Bool.or_false, Bool.true_or, Bool.false_or]
    exact ⟨_, by simp only [lbB, raiE, outR, co, e0, e1, e2, Nat.reduceLeDiff, Nat.reduceSub, cd_2, cd_3, cd_4, cd_5, cd_6, cd_7, cd_12, cd_20, cd_28, cd_60, cd_1000000, big, fEq_int, fNe_int, DL.atI_0, DL.atI_1, DL.atI_2, runF, runR, gVar, gC, DL.gNil, DL.gCons, gOp, gUn, fNeg, gTest, gTru, gChain, gIf, gAndV, gOrV, gNotV, bNot, bAnd, bOr, gCall, fCall, toSls, toSl, slotsOf, put, putL, sameKind, res, resA, gCB, fCB, gF, fLst, DL.gTup, allD, gRep, gSl, oNo, oInt, wipeR, restR, noL, fLc, bYes, fSumL, lists_map, cSorted, cSortSet, DL.ints_map, gIsi, noD, tyN, isiB, sNext, sSeq, sNever, sBreak, sCont, sExpr, sRet, sRetN, sRetF, sRetO, sIf, sFrz, frzAt, sSet, sSetO, sAsg, sPar, gtName, gtNil, gtCons, gtTup, gtLst, stay, iSeq, iTpl, iRange1_eq, iRange2_eq, rg1_2, rg1_3, rg1_4, iEnumD, iZipD, sFor, sApp, sPutIx, sAug, getL, frz, frz1, fLt_i, fLe_i, fGt_i, fGe_i, fIsN, fNotN, fAdd_i, fAdd_l, fSub_i, fMul_i, fDiv_i, fMod_i, fPow_i, fIx, fTru, cLen, cInt, List.getElem?_cons_zero, List.getElem?_cons_succ, List.getElem?_nil, List.set_cons_zero, List.set_cons_succ, List.set_nil, List.replicate, List.cons_append, List.nil_append, List.append_nil, List.map_cons, List.map_nil, List.take_succ_cons, List.take_zero, List.take_nil, List.nodup_nil, List.nodup_cons, List.not_mem_nil, List.mem_cons, List.length_cons, List.length_nil, Option.bind_some, Option.bind_none, Option.map_some, Option.map_none, Option.some_or, Option.none_or, Option.or_none, Nat.reduceAdd, Nat.reduceSub, if_true, if_false, ite_true, ite_false, reduceIte, Bool.false_eq_true, Bool.not_true, Bool.not_false, decide_true, decide_false, and_self, and_true, true_and, not_false_eq_true, not_true_eq_false, or_false, false_or, or_true, true_or, reduceCtorEq, forall_const, implies_true, Bool.true_and, Bool.and_true, Bool.false_and, Bool.and_false, Bool.or_true, Bool.or_false, Bool.true_or, Bool.false_or]; rfl⟩
end
theorem lb_for {t : PyData} : ∀ (ls : List Str) (k : Nat) (vs : List Int) (ws : List Str) (s3 s4 s5 : Sl), k + ls.length ≤ 100000 → (∀ l ∈ ls, l.length ≤ 640) → vs.length + ls.length ≤ 1000 → ws.length + ls.length ≤ 1000 →
    match rd ls k vs ws with
    | .good vs' ws' => ∃ s3' s4' s5', forGo lbT lbB (enumD k (ls.map .str)) [.v t, .l false (vs.map .int), .l false (ws.map .str), s3, s4, s5] = some (.nx [.v t, .l false (vs'.map .int), .l false (ws'.map .str), s3', s4', s5'])
    | .bad n => ∃ ρ', forGo lbT lbB (enumD k (ls.map .str)) [.v t, .l false (vs.map .int), .l false (ws.map .str), s3, s4, s5] = some (.rt (.list (outR (.bad n))) (.v t :: ρ'))
  | [], k, vs, ws, s3, s4, s5, _, _, _, _ => ⟨s3, s4, s5, rfl⟩
  | l :: r, k, vs, ws, s3, s4, s5, hk, hl, hv, hw => by
    rw [List.length_cons] at hv hw hk
    have hl0 := hl l List.mem_cons_self
    have et : ∀ s1 s2, lbT (.tuple [.int (k : Nat), .str l]) [.v t, s1, s2, s3, s4, s5] = some [.v t, s1, s2, .v (.int (k : Nat)), .v (.str l), s5] := fun s1 s2 => by
      simp only [lbT, Nat.reduceLeDiff, Nat.reduceSub, cd_2, cd_3, cd_4, cd_5, cd_6, cd_7, cd_12, cd_20, cd_28, cd_60, cd_1000000, big, fEq_int, fNe_int, DL.atI_0, DL.atI_1, DL.atI_2, runF, runR, gVar, gC, DL.gNil, DL.gCons, gOp, gUn, fNeg, gTest, gTru, gChain, gIf, gAndV, gOrV, gNotV, bNot, bAnd, bOr, gCall, fCall, toSls, toSl, slotsOf, put, putL, sameKind, res, resA, gCB, fCB, gF, fLst, DL.gTup, allD, gRep, gSl, oNo, oInt, wipeR, restR, noL, fLc, bYes, fSumL, lists_map, cSorted, cSortSet, DL.ints_map, gIsi, noD, tyN, isiB, sNext, sSeq, sNever, sBreak, sCont, sExpr, sRet, sRetN, sRetF, sRetO, sIf, sFrz, frzAt, sSet, sSetO, sAsg, sPar, gtName, gtNil, gtCons, gtTup, gtLst, stay, iSeq, iTpl, iRange1_eq, iRange2_eq, rg1_2, rg1_3, rg1_4, iEnumD, iZipD, sFor, sApp, sPutIx, sAug, getL, frz, frz1, fLt_i, fLe_i, fGt_i, fGe_i, fIsN, fNotN, fAdd_i, fAdd_l, fSub_i, fMul_i, fDiv_i, fMod_i, fPow_i, fIx, fTru, cLen, cInt, List.getElem?_cons_zero, List.getElem?_cons_succ, List.getElem?_nil, List.set_cons_zero, List.set_cons_succ, List.set_nil, List.replicate, List.cons_append, List.nil_append, List.append_nil, List.map_cons, List.map_nil, List.take_succ_cons, List.take_zero, List.take_nil, List.nodup_nil, List.nodup_cons, List.not_mem_nil, List.mem_cons, List.length_cons, List.length_nil, Option.bind_some, Option.bind_none, Option.map_some, Option.map_none, Option.some_or, Option.none_or, Option.or_none, Nat.reduceAdd, Nat.reduceSub, if_true, if_false, ite_true, ite_false, reduceIte, Bool.false_eq_true, Bool.not_true, Bool.not_false, decide_true, decide_false, and_self, and_true, true_and, not_false_eq_true, not_true_eq_false, or_false, false_or, or_true, true_or, reduceCtorEq, forall_const, implies_true, Bool.true_and, Bool.and_true, Bool.false_and, Bool.and_false, Bool.or_true, Bool.or_false, Bool.true_or, Bool.false_or]
    have ed : enumD k ((l :: r).map PyData.str) = .tuple [.int (k : Nat), .str l] :: enumD (k + 1) (r.map .str) := rfl
    rw [ed]
    simp only [rd]
    cases h : okP k (Txt.split l " ") with
    | none =>
      obtain ⟨ρ', e⟩ := lb_bad (by omega) hl0 h (t := t) (s5 := s5) (vs := vs) (ws := ws)
      exact ⟨ρ', by simp only [forGo, et, e, Option.bind_some]⟩
    | some p =>
      obtain ⟨y5, e2⟩ := lb_ok (by omega) hl0 (by omega) (by omega) h (t := t) (s5 := s5) (vs := vs) (ws := ws)
      have ih := lb_for (t := t) r (k + 1) (vs ++ [p.1]) (ws ++ [p.2]) (.v (.int (k : Nat))) (.v (.str l)) y5 (by omega) (fun x hx => hl x (List.mem_cons_of_mem _ hx)) (by rw [List.length_append, List.length_singleton]; omega) (by rw [List.length_append, List.length_singleton]; omega)
      simp only
      generalize rd r (k + 1) (vs ++ [p.1]) (ws ++ [p.2]) = R at *
      cases R with
      | bad n =>
        obtain ⟨ρ', e⟩ := ih
        exact ⟨ρ', by simp only [forGo, et, e2, e, Option.bind_some]⟩
      | good vs' ws' =>
        obtain ⟨y3, y4, y5', e4⟩ := ih
        exact ⟨y3, y4, y5', by simp only [forGo, et, e2, e4, Option.bind_some]⟩
/-! ### both read the same -/
def lines (t : Str) : List Str := if t = "" then [] else Txt.split t "\n"
def readT (t : Str) : Rd := rd (lines t) 0 [] []
noncomputable def linE : EF := (gIf (gTest (gOp fNeX (gVar 0) (gC (.str "")))) (gSplit (gVar 0) (gC (.str "\n"))) (gF (fLst DL.gNil)))
theorem lin_ev {t : Str} (ht : t.length ≤ 640) {r : Rho} : linE (.v (.str t) :: r) = some (.d (.list ((lines t).map .str)), .v (.str t) :: r) := by
  have q : fNeX (.str t) (.str "") = some (.bool (!decide (t = ""))) := by
    show some (PyData.bool (!(_ == _))) = _
    congr 2
  have c : ((("\n" : Str)).length == 0) = false ∧ t.length ≤ 1000000 := ⟨sp_nl.2.2, by omega⟩
  by_cases h : t = ""
  · have hl : lines t = [] := by rw [lines, if_pos h]
    rw [decide_eq_true h] at q
    rw [hl]
    simp only [linE, gIf, q, Nat.reduceLeDiff, Nat.reduceSub, cd_2, cd_3, cd_4, cd_5, cd_6, cd_7, cd_12, cd_20, cd_28, cd_60, cd_1000000, big, fEq_int, fNe_int, DL.atI_0, DL.atI_1, DL.atI_2, runF, runR, gVar, gC, DL.gNil, DL.gCons, gOp, gUn, fNeg, gTest, gTru, gChain, gIf, gAndV, gOrV, gNotV, bNot, bAnd, bOr, gCall, fCall, toSls, toSl, slotsOf, put, putL, sameKind, res, resA, gCB, fCB, gF, fLst, DL.gTup, allD, gRep, gSl, oNo, oInt, wipeR, restR, noL, fLc, bYes, fSumL, lists_map, cSorted, cSortSet, DL.ints_map, gIsi, noD, tyN, isiB, sNext, sSeq, sNever, sBreak, sCont, sExpr, sRet, sRetN, sRetF, sRetO, sIf, sFrz, frzAt, sSet, sSetO, sAsg, sPar, gtName, gtNil, gtCons, gtTup, gtLst, stay, iSeq, iTpl, iRange1_eq, iRange2_eq, rg1_2, rg1_3, rg1_4, iEnumD, iZipD, sFor, sApp, sPutIx, sAug, getL, frz, frz1, fLt_i, fLe_i, fGt_i, fGe_i, fIsN, fNotN, fAdd_i, fAdd_l, fSub_i, fMul_i, fDiv_i, fMod_i, fPow_i, fIx, fTru, cLen, cInt, List.getElem?_cons_zero, List.getElem?_cons_succ, List.getElem?_nil, List.set_cons_zero, List.set_cons_succ, List.set_nil, List.replicate, List.cons_append, List.nil_append, List.append_nil, List.map_cons, List.map_nil, List.take_succ_cons, List.take_zero, List.take_nil, List.nodup_nil, List.nodup_cons, List.not_mem_nil, List.mem_cons, List.length_cons, List.length_nil, Option.bind_some, Option.bind_none, Option.map_some, Option.map_none, Option.some_or, Option.none_or, Option.or_none, Nat.reduceAdd, Nat.reduceSub, if_true, if_false, ite_true, ite_false, reduceIte, Bool.false_eq_true, Bool.not_true, Bool.not_false, decide_true, decide_false, and_self, and_true, true_and, not_false_eq_true, not_true_eq_false, or_false, false_or, or_true, true_or, reduceCtorEq, forall_const, implies_true, Bool.true_and, Bool.and_true, Bool.false_and, Bool.and_false, Bool.or_true, Bool.or_false, Bool.true_or, Bool.false_or]
  · have hl : lines t = Txt.split t "\n" := by rw [lines, if_neg h]
    rw [decide_eq_false h] at q
    rw [hl]
    generalize hP : (Txt.split t "\n").map PyData.str = D at *
    simp only [linE, gIf, gSplit, q, c, hP, Nat.reduceLeDiff, Nat.reduceSub, cd_2, cd_3, cd_4, cd_5, cd_6, cd_7, cd_12, cd_20, cd_28, cd_60, cd_1000000, big, fEq_int, fNe_int, DL.atI_0, DL.atI_1, DL.atI_2, runF, runR, gVar, gC, DL.gNil, DL.gCons, gOp, gUn, fNeg, gTest, gTru, gChain, gIf, gAndV, gOrV, gNotV, bNot, bAnd, bOr, gCall, fCall, toSls, toSl, slotsOf, put, putL, sameKind, res, resA, gCB, fCB, gF, fLst, DL.gTup, allD, gRep, gSl, oNo, oInt, wipeR, restR, noL, fLc, bYes, fSumL, lists_map, cSorted, cSortSet, DL.ints_map, gIsi, noD, tyN, isiB, sNext, sSeq, sNever, sBreak, sCont, sExpr, sRet, sRetN, sRetF, sRetO, sIf, sFrz, frzAt, sSet, sSetO, sAsg, sPar, gtName, gtNil, gtCons, gtTup, gtLst, stay, iSeq, iTpl, iRange1_eq, iRange2_eq, rg1_2, rg1_3, rg1_4, iEnumD, iZipD, sFor, sApp, sPutIx, sAug, getL, frz, frz1, fLt_i, fLe_i, fGt_i, fGe_i, fIsN, fNotN, fAdd_i, fAdd_l, fSub_i, fMul_i, fDiv_i, fMod_i, fPow_i, fIx, fTru, cLen, cInt, List.getElem?_cons_zero, List.getElem?_cons_succ, List.getElem?_nil, List.set_cons_zero, List.set_cons_succ, List.set_nil, List.replicate, List.cons_append, List.nil_append, List.append_nil, List.map_cons, List.map_nil, List.take_succ_cons, List.take_zero, List.take_nil, List.nodup_nil, List.nodup_cons, List.not_mem_nil, List.mem_cons, List.length_cons, List.length_nil, Option.bind_some, Option.bind_none, Option.map_some, Option.map_none, Option.some_or, Option.none_or, Option.or_none, Nat.reduceAdd, Nat.reduceSub, if_true, if_false, ite_true, ite_false, reduceIte, Bool.false_eq_true, Bool.not_true, Bool.not_false, decide_true, decide_false, and_self, and_true, true_and, not_false_eq_true, not_true_eq_false, or_false, false_or, or_true, true_or, reduceCtorEq, forall_const, implies_true, Bool.true_and, Bool.and_true, Bool.false_and, Bool.and_false, Bool.or_true, Bool.or_false, Bool.true_or, Bool.false_or]
theorem lines_ok {t : Str} (ht : t.length ≤ 640) : (∀ l ∈ lines t, l.length ≤ 640) ∧ (lines t).length ≤ 641 := by
  unfold lines
  split
  · exact ⟨(fun l h => nomatch h), Nat.zero_le _⟩
  · obtain ⟨h1, h2⟩ := split_le (x := t) sp_nl.1 sp_nl.2.1
    exact ⟨fun l h => Nat.le_trans (h1 l h) ht, by omega⟩
theorem due_eq : F__law_due = runF 1 6 (sSeq (sSetO 1 (fLst DL.gNil)) (sSeq (sSetO 2 (fLst DL.gNil)) (sSeq (sFor (iEnumD (DL.gCons linE DL.gNil)) lbT lbB) (sRet (gF (fLst (DL.gCons (gC (.str "told")) (DL.gCons (DL.gTup (DL.gCons (gVar 1) (DL.gCons (gVar 2) DL.gNil))) DL.gNil)))))))) := rfl
theorem e__law_due {t : Str} (ht : t.length ≤ 640) : F__law_due [.v (.str t)] = some (.list (outR (readT t)), [.v (.str t)]) := by
  obtain ⟨h1, h2⟩ := lines_ok ht
  have e := lb_for (t := .str t) (lines t) 0 [] [] .un .un .un (by omega) h1 (by rw [List.length_nil]; omega) (by rw [List.length_nil]; omega)
  have el := lin_ev ht (r := [.l false [], .l false [], .un, .un, .un])
  rw [due_eq]
  unfold readT
  simp only [List.map_nil] at e
  generalize (lines t).map PyData.str = LD at *
  cases hr : rd (lines t) 0 [] [] with
  | good vs ws =>
    rw [hr] at e
    obtain ⟨y3, y4, y5, e⟩ := e
    simp only [outR]
    generalize vs.map PyData.int = VD at *
    generalize ws.map PyData.str = WD at *
    simp only [el, e, Nat.reduceLeDiff, Nat.reduceSub, cd_2, cd_3, cd_4, cd_5, cd_6, cd_7, cd_12, cd_20, cd_28, cd_60, cd_1000000, big, fEq_int, fNe_int, DL.atI_0, DL.atI_1, DL.atI_2, runF, runR, gVar, gC, DL.gNil, DL.gCons, gOp, gUn, fNeg, gTest, gTru, gChain, gIf, gAndV, gOrV, gNotV, bNot, bAnd, bOr, gCall, fCall, toSls, toSl, slotsOf, put, putL, sameKind, res, resA, gCB, fCB, gF, fLst, DL.gTup, allD, gRep, gSl, oNo, oInt, wipeR, restR, noL, fLc, bYes, fSumL, lists_map, cSorted, cSortSet, DL.ints_map, gIsi, noD, tyN, isiB, sNext, sSeq, sNever, sBreak, sCont, sExpr, sRet, sRetN, sRetF, sRetO, sIf, sFrz, frzAt, sSet, sSetO, sAsg, sPar, gtName, gtNil, gtCons, gtTup, gtLst, stay, iSeq, iTpl, iRange1_eq, iRange2_eq, rg1_2, rg1_3, rg1_4, iEnumD, iZipD, sFor, sApp, sPutIx, sAug, getL, frz, frz1, fLt_i, fLe_i, fGt_i, fGe_i, fIsN, fNotN, fAdd_i, fAdd_l, fSub_i, fMul_i, fDiv_i, fMod_i, fPow_i, fIx, fTru, cLen, cInt, List.getElem?_cons_zero, List.getElem?_cons_succ, List.getElem?_nil, List.set_cons_zero, List.set_cons_succ, List.set_nil, List.replicate, List.cons_append, List.nil_append, List.append_nil, List.map_cons, List.map_nil, List.take_succ_cons, List.take_zero, List.take_nil, List.nodup_nil, List.nodup_cons, List.not_mem_nil, List.mem_cons, List.length_cons, List.length_nil, Option.bind_some, Option.bind_none, Option.map_some, Option.map_none, Option.some_or, Option.none_or, Option.or_none, Nat.reduceAdd, Nat.reduceSub, if_true, if_false, ite_true, ite_false, reduceIte, Bool.false_eq_true, Bool.not_true, Bool.not_false, decide_true, decide_false, and_self, and_true, true_and, not_false_eq_true, not_true_eq_false, or_false, false_or, or_true, true_or, reduceCtorEq, forall_const, implies_true, Bool.true_and, Bool.and_true, Bool.false_and, Bool.and_false, Bool.or_true, Bool.or_false, Bool.true_or, Bool.false_or]
  | bad n =>
    rw [hr] at e
    obtain ⟨ρ', e⟩ := e
    generalize outR (.bad n) = O at *
    simp only [el, e, Nat.reduceLeDiff, Nat.reduceSub, cd_2, cd_3, cd_4, cd_5, cd_6, cd_7, cd_12, cd_20, cd_28, cd_60, cd_1000000, big, fEq_int, fNe_int, DL.atI_0, DL.atI_1, DL.atI_2, runF, runR, gVar, gC, DL.gNil, DL.gCons, gOp, gUn, fNeg, gTest, gTru, gChain, gIf, gAndV, gOrV, gNotV, bNot, bAnd, bOr, gCall, fCall, toSls, toSl, slotsOf, put, putL, sameKind, res, resA, gCB, fCB, gF, fLst, DL.gTup, allD, gRep, gSl, oNo, oInt, wipeR, restR, noL, fLc, bYes, fSumL, lists_map, cSorted, cSortSet, DL.ints_map, gIsi, noD, tyN, isiB, sNext, sSeq, sNever, sBreak, sCont, sExpr, sRet, sRetN, sRetF, sRetO, sIf, sFrz, frzAt, sSet, sSetO, sAsg, sPar, gtName, gtNil, gtCons, gtTup, gtLst, stay, iSeq, iTpl, iRange1_eq, iRange2_eq, rg1_2, rg1_3, rg1_4, iEnumD, iZipD, sFor, sApp, sPutIx, sAug, getL, frz, frz1, fLt_i, fLe_i, fGt_i, fGe_i, fIsN, fNotN, fAdd_i, fAdd_l, fSub_i, fMul_i, fDiv_i, fMod_i, fPow_i, fIx, fTru, cLen, cInt, List.getElem?_cons_zero, List.getElem?_cons_succ, List.getElem?_nil, List.set_cons_zero, List.set_cons_succ, List.set_nil, List.replicate, List.cons_append, List.nil_append, List.append_nil, List.map_cons, List.map_nil, List.take_succ_cons, List.take_zero, List.take_nil, List.nodup_nil, List.nodup_cons, List.not_mem_nil, List.mem_cons, List.length_cons, List.length_nil, Option.bind_some, Option.bind_none, Option.map_some, Option.map_none, Option.some_or, Option.none_or, Option.or_none, Nat.reduceAdd, Nat.reduceSub, if_true, if_false, ite_true, ite_false, reduceIte, Bool.false_eq_true, Bool.not_true, Bool.not_false, decide_true, decide_false, and_self, and_true, true_and, not_false_eq_true, not_true_eq_false, or_false, false_or, or_true, true_or, reduceCtorEq, forall_const, implies_true, Bool.true_and, Bool.and_true, Bool.false_and, Bool.and_false, Bool.or_true, Bool.or_false, Bool.true_or, Bool.false_or]
theorem parse_eq : F_parse_list = runF 1 7 (sSeq (sSetO 1 (fLst DL.gNil)) (sSeq (sSetO 2 (fLst DL.gNil)) (sSeq (sSet 3 linE) (sSeq (sFor (iEnumD (DL.gCons (gVar 3) DL.gNil)) pbT pbB) (sRet (DL.gTup (DL.gCons (gVar 1) (DL.gCons (gVar 2) DL.gNil)))))))) := rfl
theorem xparse_eq : X_parse_list = runX 1 7 (xNext (sSetO 1 (fLst DL.gNil)) (xNext (sSetO 2 (fLst DL.gNil)) (xNext (sSet 3 linE) (xFor (iEnumD (DL.gCons (gVar 3) DL.gNil)) pbT pbX pbB)))) := rfl
theorem e_parse {t : Str} (ht : t.length ≤ 640) : match readT t with
    | .good vs ws => F_parse_list [.v (.str t)] = some (.tuple [.list (vs.map .int), .list (ws.map .str)], [.v (.str t)]) ∧ X_parse_list [.v (.str t)] = none
    | .bad n => ∃ ρ', X_parse_list [.v (.str t)] = some (errD n, ρ') := by
  obtain ⟨h1, h2⟩ := lines_ok ht
  have e := pb_for (s0 := .v (.str t)) (s3 := .v (.list ((lines t).map .str))) (lines t) 0 [] [] .un .un .un h1 (by rw [List.length_nil]; omega) (by rw [List.length_nil]; omega)
  have el := lin_ev ht (r := [.l false [], .l false [], .un, .un, .un, .un])
  rw [parse_eq, xparse_eq]
  unfold readT
  simp only [List.map_nil] at e
  generalize (lines t).map PyData.str = LD at *
  cases hr : rd (lines t) 0 [] [] with
  | good vs ws =>
    rw [hr] at e
    obtain ⟨ex, y4, y5, y6, e⟩ := e
    simp only
    generalize vs.map PyData.int = VD at *
    generalize ws.map PyData.str = WD at *
    exact ⟨by simp only [el, e, Nat.reduceLeDiff, Nat.reduceSub, cd_2, cd_3, cd_4, cd_5, cd_6, cd_7, cd_12, cd_20, cd_28, cd_60, cd_1000000, big, fEq_int, fNe_int, DL.atI_0, DL.atI_1, DL.atI_2, runF, runR, gVar, gC, DL.gNil, DL.gCons, gOp, gUn, fNeg, gTest, gTru, gChain, gIf, gAndV, gOrV, gNotV, bNot, bAnd, bOr, gCall, fCall, toSls, toSl, slotsOf, put, putL, sameKind, res, resA, gCB, fCB, gF, fLst, DL.gTup, allD, gRep, gSl, oNo, oInt, wipeR, restR, noL, fLc, bYes, fSumL, lists_map, cSorted, cSortSet, DL.ints_map, gIsi, noD, tyN, isiB, sNext, sSeq, sNever, sBreak, sCont, sExpr, sRet, sRetN, sRetF, sRetO, sIf, sFrz, frzAt, sSet, sSetO, sAsg, sPar, gtName, gtNil, gtCons, gtTup, gtLst, stay, iSeq, iTpl, iRange1_eq, iRange2_eq, rg1_2, rg1_3, rg1_4, iEnumD, iZipD, sFor, sApp, sPutIx, sAug, getL, frz, frz1, fLt_i, fLe_i, fGt_i, fGe_i, fIsN, fNotN, fAdd_i, fAdd_l, fSub_i, fMul_i, fDiv_i, fMod_i, fPow_i, fIx, fTru, cLen, cInt, List.getElem?_cons_zero, List.getElem?_cons_succ, List.getElem?_nil, List.set_cons_zero, List.set_cons_succ, List.set_nil, List.replicate, List.cons_append, List.nil_append, List.append_nil, List.map_cons, List.map_nil, List.take_succ_cons, List.take_zero, List.take_nil, List.nodup_nil, List.nodup_cons, List.not_mem_nil, List.mem_cons, List.length_cons, List.length_nil, Option.bind_some, Option.bind_none, Option.map_some, Option.map_none, Option.some_or, Option.none_or, Option.or_none, Nat.reduceAdd, Nat.reduceSub, if_true, if_false, ite_true, ite_false, reduceIte, Bool.false_eq_true, Bool.not_true, Bool.not_false, decide_true, decide_false, and_self, and_true, true_and, not_false_eq_true, not_true_eq_false, or_false, false_or, or_true, true_or, reduceCtorEq, forall_const, implies_true, Bool.true_and, Bool.and_true, Bool.false_and, Bool.and_false, Bool.or_true, Bool.or_false, Bool.true_or, Bool.false_or], by simp only [runX, xNext, xFor, el, ex, Nat.reduceLeDiff, Nat.reduceSub, cd_2, cd_3, cd_4, cd_5, cd_6, cd_7, cd_12, cd_20, cd_28, cd_60, cd_1000000, big, fEq_int, fNe_int, DL.atI_0, DL.atI_1, DL.atI_2, runF, runR, gVar, gC, DL.gNil, DL.gCons, gOp, gUn, fNeg, gTest, gTru, gChain, gIf, gAndV, gOrV, gNotV, bNot, bAnd, bOr, gCall, fCall, toSls, toSl, slotsOf, put, putL, sameKind, res, resA, gCB, fCB, gF, fLst, DL.gTup, allD, gRep, gSl, oNo, oInt, wipeR, restR, noL, fLc, bYes, fSumL, lists_map, cSorted, cSortSet, DL.ints_map, gIsi, noD, tyN, isiB, sNext, sSeq, sNever, sBreak, sCont, sExpr, sRet, sRetN, sRetF, sRetO, sIf, sFrz, frzAt, sSet, sSetO, sAsg, sPar, gtName, gtNil, gtCons, gtTup, gtLst, stay, iSeq, iTpl, iRange1_eq, iRange2_eq, rg1_2, rg1_3, rg1_4, iEnumD, iZipD, sFor, sApp, sPutIx, sAug, getL, frz, frz1, fLt_i, fLe_i, fGt_i, fGe_i, fIsN, fNotN, fAdd_i, fAdd_l, fSub_i, fMul_i, fDiv_i, fMod_i, fPow_i, fIx, fTru, cLen, cInt, List.getElem?_cons_zero, List.getElem?_cons_succ, List.getElem?_nil, List.set_cons_zero, List.set_cons_succ, List.set_nil, List.replicate, List.cons_append, List.nil_append, List.append_nil, List.map_cons, List.map_nil, List.take_succ_cons, List.take_zero, List.take_nil, List.nodup_nil, List.nodup_cons, List.not_mem_nil, List.mem_cons, List.length_cons, List.length_nil, Option.bind_some, Option.bind_none, Option.map_some, Option.map_none, Option.some_or, Option.none_or, Option.or_none, Nat.reduceAdd, Nat.reduceSub, if_true, if_false, ite_true, ite_false, reduceIte, Bool.false_eq_true, Bool.not_true, Bool.not_false, decide_true, decide_false, and_self, and_true, true_and, not_false_eq_true, not_true_eq_false, or_false, false_or, or_true, true_or, reduceCtorEq, forall_const, implies_true, Bool.true_and, Bool.and_true, Bool.false_and, Bool.and_false, Bool.or_true, Bool.or_false, Bool.true_or, Bool.false_or]⟩
  | bad n =>
    rw [hr] at e
    obtain ⟨ρ', e⟩ := e
    exact ⟨ρ', by simp only [runX, xNext, xFor, el, e, Nat.reduceLeDiff, Nat.reduceSub, cd_2, cd_3, cd_4, cd_5, cd_6, cd_7, cd_12, cd_20, cd_28, cd_60, cd_1000000, big, fEq_int, fNe_int, DL.atI_0, DL.atI_1, DL.atI_2, runF, runR, gVar, gC, DL.gNil, DL.gCons, gOp, gUn, fNeg, gTest, gTru, gChain, gIf, gAndV, gOrV, gNotV, bNot, bAnd, bOr, gCall, fCall, toSls, toSl, slotsOf, put, putL, sameKind, res, resA, gCB, fCB, gF, fLst, DL.gTup, allD, gRep, gSl, oNo, oInt, wipeR, restR, noL, fLc, bYes, fSumL, lists_map, cSorted, cSortSet, DL.ints_map, gIsi, noD, tyN, isiB, sNext, sSeq, sNever, sBreak, sCont, sExpr, sRet, sRetN, sRetF, sRetO, sIf, sFrz, frzAt, sSet, sSetO, sAsg, sPar, gtName, gtNil, gtCons, gtTup, gtLst, stay, iSeq, iTpl, iRange1_eq, iRange2_eq, rg1_2, rg1_3, rg1_4, iEnumD, iZipD, sFor, sApp, sPutIx, sAug, getL, frz, frz1, fLt_i, fLe_i, fGt_i, fGe_i, fIsN, fNotN, fAdd_i, fAdd_l, fSub_i, fMul_i, fDiv_i, fMod_i, fPow_i, fIx, fTru, cLen, cInt, List.getElem?_cons_zero, List.getElem?_cons_succ, List.getElem?_nil, List.set_cons_zero, List.set_cons_succ, List.set_nil, List.replicate, List.cons_append, List.nil_append, List.append_nil, List.map_cons, List.map_nil, List.take_succ_cons, List.take_zero, List.take_nil, List.nodup_nil, List.nodup_cons, List.not_mem_nil, List.mem_cons, List.length_cons, List.length_nil, Option.bind_some, Option.bind_none, Option.map_some, Option.map_none, Option.some_or, Option.none_or, Option.or_none, Nat.reduceAdd, Nat.reduceSub, if_true, if_false, ite_true, ite_false, reduceIte, Bool.false_eq_true, Bool.not_true, Bool.not_false, decide_true, decide_false, and_self, and_true, true_and, not_false_eq_true, not_true_eq_false, or_false, false_or, or_true, true_or, reduceCtorEq, forall_const, implies_true, Bool.true_and, Bool.and_true, Bool.false_and, Bool.and_false, Bool.or_true, Bool.or_false, Bool.true_or, Bool.false_or]⟩
theorem e__law_told {t : Str} (ht : t.length ≤ 640) : F__law_told [.v (.str t)] = some (.list (outR (readT t)), [.v (.str t)]) := by
  have e := e_parse ht
  cases hr : readT t with
  | good vs ws =>
    rw [hr] at e
    obtain ⟨h1, h2⟩ := e
    simp only [outR]
    generalize vs.map PyData.int = VD at *
    generalize ws.map PyData.str = WD at *
    simp only [F__law_told, g__law_told, sTry, xCall, vOnly, h1, h2, Nat.reduceLeDiff, Nat.reduceSub, cd_2, cd_3, cd_4, cd_5, cd_6, cd_7, cd_12, cd_20, cd_28, cd_60, cd_1000000, big, fEq_int, fNe_int, DL.atI_0, DL.atI_1, DL.atI_2, runF, runR, gVar, gC, DL.gNil, DL.gCons, gOp, gUn, fNeg, gTest, gTru, gChain, gIf, gAndV, gOrV, gNotV, bNot, bAnd, bOr, gCall, fCall, toSls, toSl, slotsOf, put, putL, sameKind, res, resA, gCB, fCB, gF, fLst, DL.gTup, allD, gRep, gSl, oNo, oInt, wipeR, restR, noL, fLc, bYes, fSumL, lists_map, cSorted, cSortSet, DL.ints_map, gIsi, noD, tyN, isiB, sNext, sSeq, sNever, sBreak, sCont, sExpr, sRet, sRetN, sRetF, sRetO, sIf, sFrz, frzAt, sSet, sSetO, sAsg, sPar, gtName, gtNil, gtCons, gtTup, gtLst, stay, iSeq, iTpl, iRange1_eq, iRange2_eq, rg1_2, rg1_3, rg1_4, iEnumD, iZipD, sFor, sApp, sPutIx, sAug, getL, frz, frz1, fLt_i, fLe_i, fGt_i, fGe_i, fIsN, fNotN, fAdd_i, fAdd_l, fSub_i, fMul_i, fDiv_i, fMod_i, fPow_i, fIx, fTru, cLen, cInt, List.getElem?_cons_zero, List.getElem?_cons_succ, List.getElem?_nil, List.set_cons_zero, List.set_cons_succ, List.set_nil, List.replicate, List.cons_append, List.nil_append, List.append_nil, List.map_cons, List.map_nil, List.take_succ_cons, List.take_zero, List.take_nil, List.nodup_nil, List.nodup_cons, List.not_mem_nil, List.mem_cons, List.length_cons, List.length_nil, Option.bind_some, Option.bind_none, Option.map_some, Option.map_none, Option.some_or, Option.none_or, Option.or_none, Nat.reduceAdd, Nat.reduceSub, if_true, if_false, ite_true, ite_false, reduceIte, Bool.false_eq_true, Bool.not_true, Bool.not_false, decide_true, decide_false, and_self, and_true, true_and, not_false_eq_true, not_true_eq_false, or_false, false_or, or_true, true_or, reduceCtorEq, forall_const, implies_true, Bool.true_and, Bool.and_true, Bool.false_and, Bool.and_false, Bool.or_true, Bool.or_false, Bool.true_or, Bool.false_or]
  | bad n =>
    rw [hr] at e
    obtain ⟨ρ', h⟩ := e
    have s1 : ([(("InvalidText" : Str), true)].lookup ("InvalidText" : Str)) = some true := by decide +kernel
    have mm : ∃ c, clsOf (errD n) = some c ∧ (c = ("InvalidText" : Str)) := ⟨_, rfl, rfl⟩
    have s4 : (3 : Nat) < 4 := by decide
    simp only [F__law_told, g__law_told, sTry, xCall, vOnly, h, mm, s4, List.length_set, gIf, gIsE, gFld, Nat.reduceLeDiff, Nat.reduceSub, cd_2, cd_3, cd_4, cd_5, cd_6, cd_7, cd_12, cd_20, cd_28, cd_60, cd_1000000, big, fEq_int, fNe_int, DL.atI_0, DL.atI_1, DL.atI_2, runF, runR, gVar, gC, DL.gNil, DL.gCons, gOp, gUn, fNeg, gTest, gTru, gChain, gIf, gAndV, gOrV, gNotV, bNot, bAnd, bOr, gCall, fCall, toSls, toSl, slotsOf, put, putL, sameKind, res, resA, gCB, fCB, gF, fLst, DL.gTup, allD, gRep, gSl, oNo, oInt, wipeR, restR, noL, fLc, bYes, fSumL, lists_map, cSorted, cSortSet, DL.ints_map, gIsi, noD, tyN, isiB, sNext, sSeq, sNever, sBreak, sCont, sExpr, sRet, sRetN, sRetF, sRetO, sIf, sFrz, frzAt, sSet, sSetO, sAsg, sPar, gtName, gtNil, gtCons, gtTup, gtLst, stay, iSeq, iTpl, iRange1_eq, iRange2_eq, rg1_2, rg1_3, rg1_4, iEnumD, iZipD, sFor, sApp, sPutIx, sAug, getL, frz, frz1, fLt_i, fLe_i, fGt_i, fGe_i, fIsN, fNotN, fAdd_i, fAdd_l, fSub_i, fMul_i, fDiv_i, fMod_i, fPow_i, fIx, fTru, cLen, cInt, List.getElem?_cons_zero, List.getElem?_cons_succ, List.getElem?_nil, List.set_cons_zero, List.set_cons_succ, List.set_nil, List.replicate, List.cons_append, List.nil_append, List.append_nil, List.map_cons, List.map_nil, List.take_succ_cons, List.take_zero, List.take_nil, List.nodup_nil, List.nodup_cons, List.not_mem_nil, List.mem_cons, List.length_cons, List.length_nil, Option.bind_some, Option.bind_none, Option.map_some, Option.map_none, Option.some_or, Option.none_or, Option.or_none, Nat.reduceAdd, Nat.reduceSub, if_true, if_false, ite_true, ite_false, reduceIte, Bool.false_eq_true, Bool.not_true, Bool.not_false, decide_true, decide_false, and_self, and_true, true_and, not_false_eq_true, not_true_eq_false, or_false, false_or, or_true, true_or, reduceCtorEq, forall_const, implies_true, Bool.true_and, Bool.and_true, Bool.false_and, Bool.and_false, Bool.or_true, Bool.or_false, Bool.true_or, Bool.false_or]
    simp only [errD, s1, outR, fNotN, fIsN, Nat.reduceLeDiff, Nat.reduceSub, cd_2, cd_3, cd_4, cd_5, cd_6, cd_7, cd_12, cd_20, cd_28, cd_60, cd_1000000, big, fEq_int, fNe_int, DL.atI_0, DL.atI_1, DL.atI_2, runF, runR, gVar, gC, DL.gNil, DL.gCons, gOp, gUn, fNeg, gTest, gTru, gChain, gIf, gAndV, gOrV, gNotV, bNot, bAnd, bOr, gCall, fCall, toSls, toSl, slotsOf, put, putL, sameKind, res, resA, gCB, fCB, gF, fLst, DL.gTup, allD, gRep, gSl, oNo, oInt, wipeR, restR, noL, fLc, bYes, fSumL, lists_map, cSorted, cSortSet, DL.ints_map, gIsi, noD, tyN, isiB, sNext, sSeq, sNever, sBreak, sCont, sExpr, sRet, sRetN, sRetF, sRetO, sIf, sFrz, frzAt, sSet, sSetO, sAsg, sPar, gtName, gtNil, gtCons, gtTup, gtLst, stay, iSeq, iTpl, iRange1_eq, iRange2_eq, rg1_2, rg1_3, rg1_4, iEnumD, iZipD, sFor, sApp, sPutIx, sAug, getL, frz, frz1, fLt_i, fLe_i, fGt_i, fGe_i, fIsN, fNotN, fAdd_i, fAdd_l, fSub_i, fMul_i, fDiv_i, fMod_i, fPow_i, fIx, fTru, cLen, cInt, List.getElem?_cons_zero, List.getElem?_cons_succ, List.getElem?_nil, List.set_cons_zero, List.set_cons_succ, List.set_nil, List.replicate, List.cons_append, List.nil_append, List.append_nil, List.map_cons, List.map_nil, List.take_succ_cons, List.take_zero, List.take_nil, List.nodup_nil, List.nodup_cons, List.not_mem_nil, List.mem_cons, List.length_cons, List.length_nil, Option.bind_some, Option.bind_none, Option.map_some, Option.map_none, Option.some_or, Option.none_or, Option.or_none, Nat.reduceAdd, Nat.reduceSub, if_true, if_false, ite_true, ite_false, reduceIte, Bool.false_eq_true, Bool.not_true, Bool.not_false, decide_true, decide_false, and_self, and_true, true_and, not_false_eq_true, not_true_eq_false, or_false, false_or, or_true, true_or, reduceCtorEq, forall_const, implies_true, Bool.true_and, Bool.and_true, Bool.false_and, Bool.and_false, Bool.or_true, Bool.or_false, Bool.true_or, Bool.false_or]
end Lw
set_option maxHeartbeats 2000000
namespace Lw
open PySem PySem.Spec PyProof.Rows L2 DL TL
theorem fAdd_s {i j : Str} : fAdd (.str i) (.str j) = if i.length + j.length ≤ big then some (.str (i ++ j)) else none := by
  simp only [fAdd, fI, fCat, fAddS, Option.none_or, Option.or_none]
theorem lenS (x y : Str) : (x ++ y).length = x.length + y.length := strLen_append x y
/-! ### a line is drawn -/
theorem str_at {L : List Str} {c : Nat} {i : Int} (hc : ∀ s ∈ L, s.length ≤ c) (h0 : 0 ≤ i) (h1 : i < (L.length : Nat)) : ∃ s : Str, atI (L.map PyData.str) i = some (.str s) ∧ s.length ≤ c := by
  obtain ⟨n, rfl⟩ : ∃ n : Nat, i = (n : Int) := ⟨i.toNat, by omega⟩
  have hn : n < L.length := by omega
  exact ⟨L[n], by rw [DL.atI_nat, List.getElem?_map, List.getElem?_eq_getElem hn]; rfl, hc _ (List.getElem_mem hn)⟩
def numsL : List Str := ["0", "7", "-7", "12", "-0", "007", "", "+3", "3.", "--2", "1_0", "5:"]
def wordsL : List Str := ["found", "low", "high", "dead", "Found", "lost", ""]
def signsL : List Str := ["  ", "/", ""]
theorem numsL_le : ∀ s ∈ numsL, s.length ≤ 3 := by decide +kernel
theorem wordsL_le : ∀ s ∈ wordsL, s.length ≤ 5 := by decide +kernel
theorem signsL_le : ∀ s ∈ signsL, s.length ≤ 2 := by decide +kernel
noncomputable def l3S : SF := (sSet 3 (gOp fIx (gF (fLst (DL.gCons (gC (.str "0")) (DL.gCons (gC (.str "7")) (DL.gCons (gC (.str "-7")) (DL.gCons (gC (.str "12")) (DL.gCons (gC (.str "-0")) (DL.gCons (gC (.str "007")) (DL.gCons (gC (.str "")) (DL.gCons (gC (.str "+3")) (DL.gCons (gC (.str "3.")) (DL.gCons (gC (.str "--2")) (DL.gCons (gC (.str "1_0")) (DL.gCons (gC (.str "5:")) DL.gNil)))))))))))))) (gOp fMod (gCB cInt (DL.gCons (gVar 2) DL.gNil)) (gC (.int 12)))))
noncomputable def l4S : SF := (sSet 4 (gOp fIx (gF (fLst (DL.gCons (gC (.str "found")) (DL.gCons (gC (.str "low")) (DL.gCons (gC (.str "high")) (DL.gCons (gC (.str "dead")) (DL.gCons (gC (.str "Found")) (DL.gCons (gC (.str "lost")) (DL.gCons (gC (.str "")) DL.gNil))))))))) (gOp fMul (gOp fMod (gCB cInt (DL.gCons (gOp fDiv (gVar 2) (gC (.int 12))) DL.gNil)) (gC (.int 7))) (gCB cInt (DL.gCons (gOp fLt (gOp fMod (gCB cInt (DL.gCons (gVar 2) DL.gNil)) (gC (.int 5))) (gC (.int 3))) DL.gNil)))))
noncomputable def l5S : SF := (sSet 5 (gIf (gTest (gOp fEq (gOp fMod (gCB cInt (DL.gCons (gVar 2) DL.gNil)) (gC (.int 31))) (gC (.int 0)))) (gOp fIx (gF (fLst (DL.gCons (gC (.str "  ")) (DL.gCons (gC (.str "/")) (DL.gCons (gC (.str "")) DL.gNil))))) (gOp fMod (gCB cInt (DL.gCons (gOp fDiv (gVar 2) (gC (.int 84))) DL.gNil)) (gC (.int 3)))) (gC (.str " "))))
noncomputable def l6S : SF := (sIf (bAnd (gTest (gOp fGe (gOp fMod (gCB cInt (DL.gCons (gVar 2) DL.gNil)) (gC (.int 12))) (gC (.int 4)))) (gTest (gOp fGt (gOp fMod (gCB cInt (DL.gCons (gVar 2) DL.gNil)) (gC (.int 7))) (gC (.int 0))))) (sSet 3 (gC (.str "5"))) sNext)
noncomputable def l7S : SF := (sRet (gOp fAdd (gOp fAdd (gOp fAdd (gOp fAdd (gCB cStr (DL.gCons (gVar 1) DL.gNil)) (gVar 5)) (gVar 3)) (gC (.str " "))) (gVar 4)))
section
variable {s0 s1 : Sl} {x : Int}
theorem l3_ev (x0 : 0 ≤ x) : ∃ s : Str, s.length ≤ 3 ∧ l3S [s0, s1, .v (.int x), .un, .un, .un] = some (.nx [s0, s1, .v (.int x), .v (.str s), .un, .un]) := by
  have h0 := Int.emod_nonneg x (b := 12) (by omega)
  have h1 := Int.emod_lt_of_pos x (b := 12) (by omega)
  obtain ⟨s, e, hl⟩ := str_at (L := numsL) numsL_le h0 h1
  simp only [numsL, List.map_cons, List.map_nil] at e
  have p : (0 : Int) < 12 := by decide
  exact ⟨s, hl, by simp only [l3S, e, p, Nat.reduceLeDiff, Nat.reduceSub, cd_2, cd_3, cd_4, cd_5, cd_6, cd_7, cd_12, cd_20, cd_28, cd_60, cd_1000000, big, fEq_int, fNe_int, DL.atI_0, DL.atI_1, DL.atI_2, runF, runR, gVar, gC, DL.gNil, DL.gCons, gOp, gUn, fNeg, gTest, gTru, gChain, gIf, gAndV, gOrV, gNotV, bNot, bAnd, bOr, gCall, fCall, toSls, toSl, slotsOf, put, putL, sameKind, res, resA, gCB, fCB, gF, fLst, DL.gTup, allD, gRep, gSl, oNo, oInt, wipeR, restR, noL, fLc, bYes, fSumL, lists_map, cSorted, cSortSet, DL.ints_map, gIsi, noD, tyN, isiB, sNext, sSeq, sNever, sBreak, sCont, sExpr, sRet, sRetN, sRetF, sRetO, sIf, sFrz, frzAt, sSet, sSetO, sAsg, sPar, gtName, gtNil, gtCons, gtTup, gtLst, stay, iSeq, iTpl, iRange1_eq, iRange2_eq, rg1_2, rg1_3, rg1_4, iEnumD, iZipD, sFor, sApp, sPutIx, sAug, getL, frz, frz1, fLt_i, fLe_i, fGt_i, fGe_i, fIsN, fNotN, fAdd_i, fAdd_l, fSub_i, fMul_i, fDiv_i, fMod_i, fPow_i, fIx, fTru, cLen, cInt, List.getElem?_cons_zero, List.getElem?_cons_succ, List.getElem?_nil, List.set_cons_zero, List.set_cons_succ, List.set_nil, List.replicate, List.cons_append, List.nil_append, List.append_nil, List.map_cons, List.map_nil, List.take_succ_cons, List.take_zero, List.take_nil, List.nodup_nil, List.nodup_cons, List.not_mem_nil, List.mem_cons, List.length_cons, List.length_nil, Option.bind_some, Option.bind_none, Option.map_some, Option.map_none, Option.some_or, Option.none_or, Option.or_none, Nat.reduceAdd, Nat.reduceSub, if_true, if_false, ite_true, ite_false, reduceIte, Bool.false_eq_true, Bool.not_true, Bool.not_false, decide_true, decide_false, and_self, and_true, true_and, not_false_eq_true, not_true_eq_false, or_false, false_or, or_true, true_or, reduceCtorEq, forall_const, implies_true, Bool.true_and, Bool.and_true, Bool.false_and, Bool.and_false, Bool.or_true, Bool.or_false, Bool.true_or, Bool.false_or]⟩
theorem l4_ev (x0 : 0 ≤ x) {d3 : PyData} : ∃ s : Str, s.length ≤ 5 ∧ l4S [s0, s1, .v (.int x), .v d3, .un, .un] = some (.nx [s0, s1, .v (.int x), .v d3, .v (.str s), .un]) := by
  have h0 := Int.emod_nonneg (x / 12) (b := 7) (by omega)
  have h1 := Int.emod_lt_of_pos (x / 12) (b := 7) (by omega)
  have p7 : (0 : Int) < 7 := by decide
  have p5 : (0 : Int) < 5 := by decide
  have c12 : CDivW x 12 := cd_12
  by_cases c : x % 5 < 3
  · obtain ⟨s, e, hl⟩ := str_at (L := wordsL) (i := x / 12 % 7 * 1) wordsL_le (by omega) (by rw [Int.mul_one]; exact h1)
    simp only [wordsL, List.map_cons, List.map_nil] at e
    have m : CMulW (x / 12 % 7) 1 := mulW (n := 3) (m := 1) (by omega) (by decide) (by decide)
    exact ⟨s, hl, by simp only [l4S, e, m, p7, p5, c12, c, Nat.reduceLeDiff, Nat.reduceSub, cd_2, cd_3, cd_4, cd_5, cd_6, cd_7, cd_12, cd_20, cd_28, cd_60, cd_1000000, big, fEq_int, fNe_int, DL.atI_0, DL.atI_1, DL.atI_2, runF, runR, gVar, gC, DL.gNil, DL.gCons, gOp, gUn, fNeg, gTest, gTru, gChain, gIf, gAndV, gOrV, gNotV, bNot, bAnd, bOr, gCall, fCall, toSls, toSl, slotsOf, put, putL, sameKind, res, resA, gCB, fCB, gF, fLst, DL.gTup, allD, gRep, gSl, oNo, oInt, wipeR, restR, noL, fLc, bYes, fSumL, lists_map, cSorted, cSortSet, DL.ints_map, gIsi, noD, tyN, isiB, sNext, sSeq, sNever, sBreak, sCont, sExpr, sRet, sRetN, sRetF, sRetO, sIf, sFrz, frzAt, sSet, sSetO, sAsg, sPar, gtName, gtNil, gtCons, gtTup, gtLst, stay, iSeq, iTpl, iRange1_eq, iRange2_eq, rg1_2, rg1_3, rg1_4, iEnumD, iZipD, sFor, sApp, sPutIx, sAug, getL, frz, frz1, fLt_i, fLe_i, fGt_i, fGe_i, fIsN, fNotN, fAdd_i, fAdd_l, fSub_i, fMul_i, fDiv_i, fMod_i, fPow_i, fIx, fTru, cLen, cInt, List.getElem?_cons_zero, List.getElem?_cons_succ, List.getElem?_nil, List.set_cons_zero, List.set_cons_succ, List.set_nil, List.replicate, List.cons_append, List.nil_append, List.append_nil, List.map_cons, List.map_nil, List.take_succ_cons, List.take_zero, List.take_nil, List.nodup_nil, List.nodup_cons, List.not_mem_nil, List.mem_cons, List.length_cons, List.length_nil, Option.bind_some, Option.bind_none, Option.map_some, Option.map_none, Option.some_or, Option.none_or, Option.or_none, Nat.reduceAdd, Nat.reduceSub, if_true, if_false, ite_true, ite_false, reduceIte, Bool.false_eq_true, Bool.not_true, Bool.not_false, decide_true, decide_false, and_self, and_true, true_and, not_false_eq_true, not_true_eq_false, or_false, false_or, or_true, true_or, reduceCtorEq, forall_const, implies_true, Bool.true_and, Bool.and_true, Bool.false_and, Bool.and_false, Bool.or_true, Bool.or_false, Bool.true_or, Bool.false_or]⟩
  · obtain ⟨s, e, hl⟩ := str_at (L := wordsL) (i := x / 12 % 7 * 0) wordsL_le (by omega) (by rw [Int.mul_zero]; decide)
    simp only [wordsL, List.map_cons, List.map_nil] at e
    have m : CMulW (x / 12 % 7) 0 := mulW (n := 3) (m := 1) (by omega) (by decide) (by decide)
    exact ⟨s, hl, by simp only [l4S, e, m, p7, p5, c12, c, Nat.reduceLeDiff, Nat.reduceSub, cd_2, cd_3, cd_4, cd_5, cd_6, cd_7, cd_12, cd_20, cd_28, cd_60, cd_1000000, big, fEq_int, fNe_int, DL.atI_0, DL.atI_1, DL.atI_2, runF, runR, gVar, gC, DL.gNil, DL.gCons, gOp, gUn, fNeg, gTest, gTru, gChain, gIf, gAndV, gOrV, gNotV, bNot, bAnd, bOr, gCall, fCall, toSls, toSl, slotsOf, put, putL, sameKind, res, resA, gCB, fCB, gF, fLst, DL.gTup, allD, gRep, gSl, oNo, oInt, wipeR, restR, noL, fLc, bYes, fSumL, lists_map, cSorted, cSortSet, DL.ints_map, gIsi, noD, tyN, isiB, sNext, sSeq, sNever, sBreak, sCont, sExpr, sRet, sRetN, sRetF, sRetO, sIf, sFrz, frzAt, sSet, sSetO, sAsg, sPar, gtName, gtNil, gtCons, gtTup, gtLst, stay, iSeq, iTpl, iRange1_eq, iRange2_eq, rg1_2, rg1_3, rg1_4, iEnumD, iZipD, sFor, sApp, sPutIx, sAug, getL, frz, frz1, fLt_i, fLe_i, fGt_i, fGe_i, fIsN, fNotN, fAdd_i, fAdd_l, fSub_i, fMul_i, fDiv_i, fMod_i, fPow_i, fIx, fTru, cLen, cInt, List.getElem?_cons_zero, List.getElem?_cons_succ, List.getElem?_nil, List.set_cons_zero, List.set_cons_succ, List.set_nil, List.replicate, List.cons_append, List.nil_append, List.append_nil, List.map_cons, List.map_nil, List.take_succ_cons, List.take_zero, List.take_nil, List.nodup_nil, List.nodup_cons, List.not_mem_nil, List.mem_cons, List.length_cons, List.length_nil, Option.bind_some, Option.bind_none, Option.map_some, Option.map_none, Option.some_or, Option.none_or, Option.or_none, Nat.reduceAdd, Nat.reduceSub, if_true, if_false, ite_true, ite_false, reduceIte, Bool.false_eq_true, Bool.not_true, Bool.not_false, decide_true, decide_false, and_self, and_true, true_and, not_false_eq_true, not_true_eq_false, or_false, false_or, or_true, true_or, reduceCtorEq, forall_const, implies_true, Bool.true_and, Bool.and_true, Bool.false_and, Bool.and_false, Bool.or_true, Bool.or_false, Bool.true_or, Bool.false_or]⟩
theorem l5_ev (x0 : 0 ≤ x) {d3 d4 : PyData} : ∃ s : Str, s.length ≤ 2 ∧ l5S [s0, s1, .v (.int x), .v d3, .v d4, .un] = some (.nx [s0, s1, .v (.int x), .v d3, .v d4, .v (.str s)]) := by
  have h0 := Int.emod_nonneg (x / 84) (b := 3) (by omega)
  have h1 := Int.emod_lt_of_pos (x / 84) (b := 3) (by omega)
  obtain ⟨s, e, hl⟩ := str_at (L := signsL) signsL_le h0 h1
  simp only [signsL, List.map_cons, List.map_nil] at e
  have p : (0 : Int) < 31 := by decide
  have p3 : (0 : Int) < 3 := by decide
  have c84 : CDivW x 84 := ⟨by decide, by decide +kernel⟩
  by_cases c : x % 31 = 0
  · exact ⟨s, hl, by simp only [l5S, gIf, e, p, p3, c84, c, Nat.reduceLeDiff, Nat.reduceSub, cd_2, cd_3, cd_4, cd_5, cd_6, cd_7, cd_12, cd_20, cd_28, cd_60, cd_1000000, big, fEq_int, fNe_int, DL.atI_0, DL.atI_1, DL.atI_2, runF, runR, gVar, gC, DL.gNil, DL.gCons, gOp, gUn, fNeg, gTest, gTru, gChain, gIf, gAndV, gOrV, gNotV, bNot, bAnd, bOr, gCall, fCall, toSls, toSl, slotsOf, put, putL, sameKind, res, resA, gCB, fCB, gF, fLst, DL.gTup, allD, gRep, gSl, oNo, oInt, wipeR, restR, noL, fLc, bYes, fSumL, lists_map, cSorted, cSortSet, DL.ints_map, gIsi, noD, tyN, isiB, sNext, sSeq, sNever, sBreak, sCont, sExpr, sRet, sRetN, sRetF, sRetO, sIf, sFrz, frzAt, sSet, sSetO, sAsg, sPar, gtName, gtNil, gtCons, gtTup, gtLst, stay, iSeq, iTpl, iRange1_eq, iRange2_eq, rg1_2, rg1_3, rg1_4, iEnumD, iZipD, sFor, sApp, sPutIx, sAug, getL, frz, frz1, fLt_i, fLe_i, fGt_i, fGe_i, fIsN, fNotN, fAdd_i, fAdd_l, fSub_i, fMul_i, fDiv_i, fMod_i, fPow_i, fIx, fTru, cLen, cInt, List.getElem?_cons_zero, List.getElem?_cons_succ, List.getElem?_nil, List.set_cons_zero, List.set_cons_succ, List.set_nil, List.replicate, List.cons_append, List.nil_append, List.append_nil, List.map_cons, List.map_nil, List.take_succ_cons, List.take_zero, List.take_nil, List.nodup_nil, List.nodup_cons, List.not_mem_nil, List.mem_cons, List.length_cons, List.length_nil, Option.bind_some, Option.bind_none, Option.map_some, Option.map_none, Option.some_or, Option.none_or, Option.or_none, Nat.reduceAdd, Nat.reduceSub, if_true, if_false, ite_true, ite_false, reduceIte, Bool.false_eq_true, Bool.not_true, Bool.not_false, decide_true, decide_false, and_self, and_true, true_and, not_false_eq_true, not_true_eq_false, or_false, false_or, or_true, true_or, reduceCtorEq, forall_const, implies_true, Bool.true_and, Bool.and_true, Bool.false_and, Bool.and_false, Bool.or_true, Bool.or_false, Bool.true_or, Bool.false_or]⟩
  · exact ⟨" ", by decide +kernel, by simp only [l5S, gIf, p, c, Nat.reduceLeDiff, Nat.reduceSub, cd_2, cd_3, cd_4, cd_5, cd_6, cd_7, cd_12, cd_20, cd_28, cd_60, cd_1000000, big, fEq_int, fNe_int, DL.atI_0, DL.atI_1, DL.atI_2, runF, runR, gVar, gC, DL.gNil, DL.gCons, gOp, gUn, fNeg, gTest, gTru, gChain, gIf, gAndV, gOrV, gNotV, bNot, bAnd, bOr, gCall, fCall, toSls, toSl, slotsOf, put, putL, sameKind, res, resA, gCB, fCB, gF, fLst, DL.gTup, allD, gRep, gSl, oNo, oInt, wipeR, restR, noL, fLc, bYes, fSumL, lists_map, cSorted, cSortSet, DL.ints_map, gIsi, noD, tyN, isiB, sNext, sSeq, sNever, sBreak, sCont, sExpr, sRet, sRetN, sRetF, sRetO, sIf, sFrz, frzAt, sSet, sSetO, sAsg, sPar, gtName, gtNil, gtCons, gtTup, gtLst, stay, iSeq, iTpl, iRange1_eq, iRange2_eq, rg1_2, rg1_3, rg1_4, iEnumD, iZipD, sFor, sApp, sPutIx, sAug, getL, frz, frz1, fLt_i, fLe_i, fGt_i, fGe_i, fIsN, fNotN, fAdd_i, fAdd_l, fSub_i, fMul_i, fDiv_i, fMod_i, fPow_i, fIx, fTru, cLen, cInt, List.getElem?_cons_zero, List.getElem?_cons_succ, List.getElem?_nil, List.set_cons_zero, List.set_cons_succ, List.set_nil, List.replicate, List.cons_append, List.nil_append, List.append_nil, List.map_cons, List.map_nil, List.take_succ_cons, List.take_zero, List.take_nil, List.nodup_nil, List.nodup_cons, List.not_mem_nil, List.mem_cons, List.length_cons, List.length_nil, Option.bind_some, Option.bind_none, Option.map_some, Option.map_none, Option.some_or, Option.none_or, Option.or_none, Nat.reduceAdd, Nat.reduceSub, if_true, if_false, ite_true, ite_false, reduceIte, Bool.false_eq_true, Bool.not_true, Bool.not_false, decide_true, decide_false, and_self, and_true, true_and, not_false_eq_true, not_true_eq_false, or_false, false_or, or_true, true_or, reduceCtorEq, forall_const, implies_true, Bool.true_and, Bool.and_true, Bool.false_and, Bool.and_false, Bool.or_true, Bool.or_false, Bool.true_or, Bool.false_or]⟩
theorem l6_ev {d4 d5 : PyData} {s3 : Str} (h3 : s3.length ≤ 3) : ∃ s : Str, s.length ≤ 3 ∧ l6S [s0, s1, .v (.int x), .v (.str s3), .v d4, .v d5] = some (.nx [s0, s1, .v (.int x), .v (.str s), .v d4, .v d5]) := by
  have p12 : (0 : Int) < 12 := by decide
  have p7 : (0 : Int) < 7 := by decide
  by_cases c : 4 ≤ x % 12
  · by_cases c2 : 0 < x % 7
    · exact ⟨"5", by decide +kernel, by simp only [l6S, p12, p7, c, c2, Nat.reduceLeDiff, Nat.reduceSub, cd_2, cd_3, cd_4, cd_5, cd_6, cd_7, cd_12, cd_20, cd_28, cd_60, cd_1000000, big, fEq_int, fNe_int, DL.atI_0, DL.atI_1, DL.atI_2, runF, runR, gVar, gC, DL.gNil, DL.gCons, gOp, gUn, fNeg, gTest, gTru, gChain, gIf, gAndV, gOrV, gNotV, bNot, bAnd, bOr, gCall, fCall, toSls, toSl, slotsOf, put, putL, sameKind, res, resA, gCB, fCB, gF, fLst, DL.gTup, allD, gRep, gSl, oNo, oInt, wipeR, restR, noL, fLc, bYes, fSumL, lists_map, cSorted, cSortSet, DL.ints_map, gIsi, noD, tyN, isiB, sNext, sSeq, sNever, sBreak, sCont, sExpr, sRet, sRetN, sRetF, sRetO, sIf, sFrz, frzAt, sSet, sSetO, sAsg, sPar, gtName, gtNil, gtCons, gtTup, gtLst, stay, iSeq, iTpl, iRange1_eq, iRange2_eq, rg1_2, rg1_3, rg1_4, iEnumD, iZipD, sFor, sApp, sPutIx, sAug, getL, frz, frz1, fLt_i, fLe_i, fGt_i, fGe_i, fIsN, fNotN, fAdd_i, fAdd_l, fSub_i, fMul_i, fDiv_i, fMod_i, fPow_i, fIx, fTru, cLen, cInt, List.getElem?_cons_zero, List.getElem?_cons_succ, List.getElem?_nil, List.set_cons_zero, List.set_cons_succ, List.set_nil, List.replicate, List.cons_append, List.nil_append, List.append_nil, List.map_cons, List.map_nil, List.take_succ_cons, List.take_zero, List.take_nil, List.nodup_nil, List.nodup_cons, List.not_mem_nil, List.mem_cons, List.length_cons, List.length_nil, Option.bind_some, Option.bind_none, Option.map_some, Option.map_none, Option.some_or, Option.none_or, Option.or_none, Nat.reduceAdd, Nat.reduceSub, if_true, if_false, ite_true, ite_false, reduceIte, Bool.false_eq_true, Bool.not_true, Bool.not_false, decide_true, decide_false, and_self, and_true, true_and, not_false_eq_true, not_true_eq_false, or_false, false_or, or_true, true_or, reduceCtorEq, forall_const, implies_true, Bool.true_and, Bool.and_true, Bool.false_and, Bool.and_false, Bool.or_true, Bool.or_false, Bool.true_or, Bool.false_or]⟩
    · exact ⟨s3, h3, by simp only [l6S, p12, p7, c, c2, Nat.reduceLeDiff, Nat.reduceSub, cd_2, cd_3, cd_4, cd_5, cd_6, cd_7, cd_12, cd_20, cd_28, cd_60, cd_1000000, big, fEq_int, fNe_int, DL.atI_0, DL.atI_1, DL.atI_2, runF, runR, gVar, gC, DL.gNil, DL.gCons, gOp, gUn, fNeg, gTest, gTru, gChain, gIf, gAndV, gOrV, gNotV, bNot, bAnd, bOr, gCall, fCall, toSls, toSl, slotsOf, put, putL, sameKind, res, resA, gCB, fCB, gF, fLst, DL.gTup, allD, gRep, gSl, oNo, oInt, wipeR, restR, noL, fLc, bYes, fSumL, lists_map, cSorted, cSortSet, DL.ints_map, gIsi, noD, tyN, isiB, sNext, sSeq, sNever, sBreak, sCont, sExpr, sRet, sRetN, sRetF, sRetO, sIf, sFrz, frzAt, sSet, sSetO, sAsg, sPar, gtName, gtNil, gtCons, gtTup, gtLst, stay, iSeq, iTpl, iRange1_eq, iRange2_eq, rg1_2, rg1_3, rg1_4, iEnumD, iZipD, sFor, sApp, sPutIx, sAug, getL, frz, frz1, fLt_i, fLe_i, fGt_i, fGe_i, fIsN, fNotN, fAdd_i, fAdd_l, fSub_i, fMul_i, fDiv_i, fMod_i, fPow_i, fIx, fTru, cLen, cInt, List.getElem?_cons_zero, List.getElem?_cons_succ, List.getElem?_nil, List.set_cons_zero, List.set_cons_succ, List.set_nil, List.replicate, List.cons_append, List.nil_append, List.append_nil, List.map_cons, List.map_nil, List.take_succ_cons, List.take_zero, List.take_nil, List.nodup_nil, List.nodup_cons, List.not_mem_nil, List.mem_cons, List.length_cons, List.length_nil, Option.bind_some, Option.bind_none, Option.map_some, Option.map_none, Option.some_or, Option.none_or, Option.or_none, Nat.reduceAdd, Nat.reduceSub, if_true, if_false, ite_true, ite_false, reduceIte, Bool.false_eq_true, Bool.not_true, Bool.not_false, decide_true, decide_false, and_self, and_true, true_and, not_false_eq_true, not_true_eq_false, or_false, false_or, or_true, true_or, reduceCtorEq, forall_const, implies_true, Bool.true_and, Bool.and_true, Bool.false_and, Bool.and_false, Bool.or_true, Bool.or_false, Bool.true_or, Bool.false_or]⟩
  · exact ⟨s3, h3, by simp only [l6S, p12, c, Nat.reduceLeDiff, Nat.reduceSub, cd_2, cd_3, cd_4, cd_5, cd_6, cd_7, cd_12, cd_20, cd_28, cd_60, cd_1000000, big, fEq_int, fNe_int, DL.atI_0, DL.atI_1, DL.atI_2, runF, runR, gVar, gC, DL.gNil, DL.gCons, gOp, gUn, fNeg, gTest, gTru, gChain, gIf, gAndV, gOrV, gNotV, bNot, bAnd, bOr, gCall, fCall, toSls, toSl, slotsOf, put, putL, sameKind, res, resA, gCB, fCB, gF, fLst, DL.gTup, allD, gRep, gSl, oNo, oInt, wipeR, restR, noL, fLc, bYes, fSumL, lists_map, cSorted, cSortSet, DL.ints_map, gIsi, noD, tyN, isiB, sNext, sSeq, sNever, sBreak, sCont, sExpr, sRet, sRetN, sRetF, sRetO, sIf, sFrz, frzAt, sSet, sSetO, sAsg, sPar, gtName, gtNil, gtCons, gtTup, gtLst, stay, iSeq, iTpl, iRange1_eq, iRange2_eq, rg1_2, rg1_3, rg1_4, iEnumD, iZipD, sFor, sApp, sPutIx, sAug, getL, frz, frz1, fLt_i, fLe_i, fGt_i, fGe_i, fIsN, fNotN, fAdd_i, fAdd_l, fSub_i, fMul_i, fDiv_i, fMod_i, fPow_i, fIx, fTru, cLen, cInt, List.getElem?_cons_zero, List.getElem?_cons_succ, List.getElem?_nil, List.set_cons_zero, List.set_cons_succ, List.set_nil, List.replicate, List.cons_append, List.nil_append, List.append_nil, List.map_cons, List.map_nil, List.take_succ_cons, List.take_zero, List.take_nil, List.nodup_nil, List.nodup_cons, List.not_mem_nil, List.mem_cons, List.length_cons, List.length_nil, Option.bind_some, Option.bind_none, Option.map_some, Option.map_none, Option.some_or, Option.none_or, Option.or_none, Nat.reduceAdd, Nat.reduceSub, if_true, if_false, ite_true, ite_false, reduceIte, Bool.false_eq_true, Bool.not_true, Bool.not_false, decide_true, decide_false, and_self, and_true, true_and, not_false_eq_true, not_true_eq_false, or_false, false_or, or_true, true_or, reduceCtorEq, forall_const, implies_true, Bool.true_and, Bool.and_true, Bool.false_and, Bool.and_false, Bool.or_true, Bool.or_false, Bool.true_or, Bool.false_or]⟩
end
theorem b_seq {f g : SF} {ρ ρ1 : Rho} (h : f ρ = some (.nx ρ1)) : sSeq f g ρ = g ρ1 := by simp [sSeq, h]
theorem b_rt {f g : SF} {ρ ρ1 : Rho} {d : PyData} (h : f ρ = some (.rt d ρ1)) : sSeq f g ρ = some (.rt d ρ1) := by simp [sSeq, h]
theorem run_rt {F : FnF} {g : SF} {n m : Nat} {as ρ : Rho} {d : PyData} (hF : F = runF n m g) (h : g (as ++ List.replicate (m - n) .un) = some (.rt d ρ)) : F as = some (d, ρ.take n) := by
  rw [hF, runF, h]
  rfl
noncomputable def l2S : SF := sSet 2 (gCall F__law_next (DL.gCons (gVar 0) DL.gNil))
theorem line_eq : g__law_line = sSeq l2S (sSeq l3S (sSeq l4S (sSeq l5S (sSeq l6S l7S)))) := rfl
theorem numS_len {k : Nat} (h : k < 100) : (numS k).length ≤ 2 := by
  have : (tl (numS k)).length ≤ 2 := by
    rw [numS, tl_num]
    exact numL_len (by decide) h
  exact this
theorem e__law_line {k m : Nat} {ds : List PyData} (hk : k < 100) (hd : Dr (m + 1) ds) : ∃ (s : Str) (ds' : List PyData), F__law_line [.l true ds, .v (.int (k : Nat))] = some (.str s, [.l true ds', .v (.int (k : Nat))]) ∧ s.length ≤ 13 ∧ Dr m ds' := by
  obtain ⟨x, ds1, e1, x0, _, hd1⟩ := e__law_next hd
  have e2 : l2S [.l true ds, .v (.int (k : Nat)), .un, .un, .un, .un] = some (.nx [.l true ds1, .v (.int (k : Nat)), .v (.int x), .un, .un, .un]) := by
    simp only [l2S, e1, Nat.reduceLeDiff, Nat.reduceSub, cd_2, cd_3, cd_4, cd_5, cd_6, cd_7, cd_12, cd_20, cd_28, cd_60, cd_1000000, big, fEq_int, fNe_int, DL.atI_0, DL.atI_1, DL.atI_2, runF, runR, gVar, gC, DL.gNil, DL.gCons, gOp, gUn, fNeg, gTest, gTru, gChain, gIf, gAndV, gOrV, gNotV, bNot, bAnd, bOr, gCall, fCall, toSls, toSl, slotsOf, put, putL, sameKind, res, resA, gCB, fCB, gF, fLst, DL.gTup, allD, gRep, gSl, oNo, oInt, wipeR, restR, noL, fLc, bYes, fSumL, lists_map, cSorted, cSortSet, DL.ints_map, gIsi, noD, tyN, isiB, sNext, sSeq, sNever, sBreak, sCont, sExpr, sRet, sRetN, sRetF, sRetO, sIf, sFrz, frzAt, sSet, sSetO, sAsg, sPar, gtName, gtNil, gtCons, gtTup, gtLst, stay, iSeq, iTpl, iRange1_eq, iRange2_eq, rg1_2, rg1_3, rg1_4, iEnumD, iZipD, sFor, sApp, sPutIx, sAug, getL, frz, frz1, fLt_i, fLe_i, fGt_i, fGe_i, fIsN, fNotN, fAdd_i, fAdd_l, fSub_i, fMul_i, fDiv_i, fMod_i, fPow_i, fIx, fTru, cLen, cInt, List.getElem?_cons_zero, List.getElem?_cons_succ, List.getElem?_nil, List.set_cons_zero, List.set_cons_succ, List.set_nil, List.replicate, List.cons_append, List.nil_append, List.append_nil, List.map_cons, List.map_nil, List.take_succ_cons, List.take_zero, List.take_nil, List.nodup_nil, List.nodup_cons, List.not_mem_nil, List.mem_cons, List.length_cons, List.length_nil, Option.bind_some, Option.bind_none, Option.map_some, Option.map_none, Option.some_or, Option.none_or, Option.or_none, Nat.reduceAdd, Nat.reduceSub, if_true, if_false, ite_true, ite_false, reduceIte, Bool.false_eq_true, Bool.not_true, Bool.not_false, decide_true, decide_false, and_self, and_true, true_and, not_false_eq_true, not_true_eq_false, or_false, false_or, or_true, true_or, reduceCtorEq, forall_const, implies_true, Bool.true_and, Bool.and_true, Bool.false_and, Bool.and_false, Bool.or_true, Bool.or_false, Bool.true_or, Bool.false_or]
  obtain ⟨a, ha, e3⟩ := l3_ev (s0 := .l true ds1) (s1 := .v (.int (k : Nat))) x0
  obtain ⟨w, hw, e4⟩ := l4_ev (s0 := .l true ds1) (s1 := .v (.int (k : Nat))) x0 (d3 := .str a)
  obtain ⟨g, hg, e5⟩ := l5_ev (s0 := .l true ds1) (s1 := .v (.int (k : Nat))) x0 (d3 := .str a) (d4 := .str w)
  obtain ⟨b, hb, e6⟩ := l6_ev (s0 := .l true ds1) (s1 := .v (.int (k : Nat))) (x := x) (d4 := .str w) (d5 := .str g) ha
  have st : cStr [.int (k : Nat)] = some (.str (numS k)) := by
    have h : ((k : Int)).natAbs < 2 ^ 150 := Nat.lt_of_le_of_lt (by omega : ((k : Int)).natAbs ≤ 100) (by decide)
    show (if ((k : Int)).natAbs < 2 ^ 150 then _ else none) = _
    rw [if_pos h]
    rfl
  have hn := numS_len hk
  have l1 : ((" " : Str)).length = 1 := by decide +kernel
  have q1 : (numS k).length + g.length ≤ 1000000 := by omega
  have q2 : (numS k).length + g.length + b.length ≤ 1000000 := by omega
  have q3 : (numS k).length + g.length + b.length ≤ 999999 := by omega
  have q4 : (numS k).length + g.length + b.length + 1 + w.length ≤ 1000000 := by omega
  have e7 : l7S [.l true ds1, .v (.int (k : Nat)), .v (.int x), .v (.str b), .v (.str w), .v (.str g)] = some (.rt (.str (numS k ++ g ++ b ++ " " ++ w)) [.l true ds1, .v (.int (k : Nat)), .v (.int x), .v (.str b), .v (.str w), .v (.str g)]) := by
    simp only [l7S, st, fAdd_s, lenS, l1, q1, q2, q3, q4, Nat.reduceLeDiff, Nat.reduceSub, cd_2, cd_3, cd_4, cd_5, cd_6, cd_7, cd_12, cd_20, cd_28, cd_60, cd_1000000, big, fEq_int, fNe_int, DL.atI_0, DL.atI_1, DL.atI_2, runF, runR, gVar, gC, DL.gNil, DL.gCons, gOp, gUn, fNeg, gTest, gTru, gChain, gIf, gAndV, gOrV, gNotV, bNot, bAnd, bOr, gCall, fCall, toSls, toSl, slotsOf, put, putL, sameKind, res, resA, gCB, fCB, gF, fLst, DL.gTup, allD, gRep, gSl, oNo, oInt, wipeR, restR, noL, fLc, bYes, fSumL, lists_map, cSorted, cSortSet, DL.ints_map, gIsi, noD, tyN, isiB, sNext, sSeq, sNever, sBreak, sCont, sExpr, sRet, sRetN, sRetF, sRetO, sIf, sFrz, frzAt, sSet, sSetO, sAsg, sPar, gtName, gtNil, gtCons, gtTup, gtLst, stay, iSeq, iTpl, iRange1_eq, iRange2_eq, rg1_2, rg1_3, rg1_4, iEnumD, iZipD, sFor, sApp, sPutIx, sAug, getL, frz, frz1, fLt_i, fLe_i, fGt_i, fGe_i, fIsN, fNotN, fAdd_i, fAdd_l, fSub_i, fMul_i, fDiv_i, fMod_i, fPow_i, fIx, fTru, cLen, cInt, List.getElem?_cons_zero, List.getElem?_cons_succ, List.getElem?_nil, List.set_cons_zero, List.set_cons_succ, List.set_nil, List.replicate, List.cons_append, List.nil_append, List.append_nil, List.map_cons, List.map_nil, List.take_succ_cons, List.take_zero, List.take_nil, List.nodup_nil, List.nodup_cons, List.not_mem_nil, List.mem_cons, List.length_cons, List.length_nil, Option.bind_some, Option.bind_none, Option.map_some, Option.map_none, Option.some_or, Option.none_or, Option.or_none, Nat.reduceAdd, Nat.reduceSub, if_true, if_false, ite_true, ite_false, reduceIte, Bool.false_eq_true, Bool.not_true, Bool.not_false, decide_true, decide_false, and_self, and_true, true_and, not_false_eq_true, not_true_eq_false, or_false, false_or, or_true, true_or, reduceCtorEq, forall_const, implies_true, Bool.true_and, Bool.and_true, Bool.false_and, Bool.and_false, Bool.or_true, Bool.or_false, Bool.true_or, Bool.false_or]
  refine ⟨numS k ++ g ++ b ++ " " ++ w, ds1, run_rt (n := 2) (m := 6) (as := [.l true ds, .v (.int (k : Nat))]) (ρ := [.l true ds1, .v (.int (k : Nat)), .v (.int x), .v (.str b), .v (.str w), .v (.str g)]) rfl ((congrFun line_eq _).trans ((b_seq e2).trans ((b_seq e3).trans ((b_seq e4).trans ((b_seq e5).trans ((b_seq e6).trans e7)))))), ?_, hd1⟩
  rw [lenS, lenS, lenS, lenS, l1]
  omega
end Lw
namespace Lw
open PySem PySem.Spec PyProof.Rows L2 DL
/-! ### texts of data: short enough -/
theorem textFrom_le (c : Nat) : ∀ (ts : List Str) (k : Nat) (acc : Str), (∀ t ∈ ts, t.length ≤ c) → (textFrom k acc ts).length ≤ acc.length + ts.length * (c + 2)
  | [], k, acc, _ => by show acc.length ≤ _; omega
  | t :: r, k, acc, h => by
    have ih := textFrom_le c r (k + 1) (acc ++ (if k > 0 then ", " else "" : String) ++ t) fun u hu => h u (List.mem_cons_of_mem _ hu)
    have ht := h t (List.mem_cons_self ..)
    have e : (acc ++ (if k > 0 then ", " else "" : String) ++ t).length = acc.length + (if k > 0 then 2 else 0) + t.length := by
      rw [strLen_append, strLen_append]
      by_cases hk : k > 0
      · rw [if_pos hk, if_pos hk]; rfl
      · rw [if_neg hk, if_neg hk]; rfl
    rw [e] at ih
    have : (textFrom k acc (t :: r)) = textFrom (k + 1) (acc ++ (if k > 0 then ", " else "" : String) ++ t) r := rfl
    rw [this, List.length_cons, Nat.add_mul]
    have two : (if k > 0 then 2 else 0) ≤ 2 := by split <;> omega
    omega
theorem listText_le {c : Nat} {ts : List Str} (h : ∀ t ∈ ts, t.length ≤ c) : (listText ts).length ≤ 2 + ts.length * (c + 2) := by
  have := textFrom_le c ts 0 "[" h
  have e1 : (("[" : String) : Str).length = 1 := rfl
  have e2 : (("]" : String) : Str).length = 1 := rfl
  unfold listText
  rw [strLen_append, e2]
  rw [e1] at this
  omega
theorem piled_le {c : Nat} : ∀ {ts : List Str}, (∀ t ∈ ts, t.length ≤ c) → piled ts ≤ ts.length * (c + 2)
  | [], _ => by simp [piled]
  | t :: r, h => by
    have ih := piled_le (ts := r) fun u hu => h u (List.mem_cons_of_mem _ hu)
    have := h t (List.mem_cons_self ..)
    simp only [piled, List.map_cons, List.sum_cons, List.length_cons, Nat.add_mul] at ih ⊢
    omega
theorem tupleText_le {c : Nat} {ts : List Str} (h : ∀ t ∈ ts, t.length ≤ c) : (tupleText ts).length ≤ 3 + ts.length * (c + 2) := by
  have e1 : (("(" : String) : Str).length = 1 := rfl
  unfold tupleText
  rw [strLen_append, strLen_append, e1]
  have e3 : ((if ts.length == 1 then ",)" else ")" : String) : Str).length ≤ 2 := by split <;> decide
  by_cases hn : ts = []
  · subst hn
    have : (Str.join ", " []).length = 0 := rfl
    omega
  · have a := join_length_add ts hn
    have b := piled_le h
    omega
theorem shownAll_map : ∀ ds : List PyData, PyData.shownAll ds = ds.map PyData.shown
  | [] => by simp [PyData.shownAll]
  | d :: r => by simp [PyData.shownAll, shownAll_map r]
/-- what may be shown: small, of a bounded text -/
def Sh (c k : Nat) (d : PyData) : Prop := d.showable = true ∧ d.hasDict = false ∧ d.depth ≤ k ∧ d.shown.length ≤ c
theorem showAll_of : ∀ ds : List PyData, (∀ d ∈ ds, d.showable = true) → PyData.showableAll ds = true
  | [], _ => by simp [PyData.showableAll]
  | d :: r, h => by simp [PyData.showableAll, h d (List.mem_cons_self ..), showAll_of r fun x hx => h x (List.mem_cons_of_mem _ hx)]
theorem dictAll_of : ∀ ds : List PyData, (∀ d ∈ ds, d.hasDict = false) → PyData.hasDictAll ds = false
  | [], _ => by simp [PyData.hasDictAll]
  | d :: r, h => by simp [PyData.hasDictAll, h d (List.mem_cons_self ..), dictAll_of r fun x hx => h x (List.mem_cons_of_mem _ hx)]
theorem depAll_of {k : Nat} : ∀ ds : List PyData, (∀ d ∈ ds, d.depth ≤ k) → PyData.depthAll ds ≤ k
  | [], _ => by simp [PyData.depthAll]
  | d :: r, h => by
    have a := h d (List.mem_cons_self ..)
    have b := depAll_of r fun x hx => h x (List.mem_cons_of_mem _ hx)
    simp only [PyData.depthAll]
    omega
theorem Sh.list {c k n : Nat} {ds : List PyData} (h : ∀ d ∈ ds, Sh c k d) (hn : ds.length ≤ n) : Sh (2 + n * (c + 2)) (k + 1) (.list ds) := by
  refine ⟨?_, ?_, ?_, ?_⟩
  · simp only [PyData.showable]; exact showAll_of ds fun d hd => (h d hd).1
  · simp only [PyData.hasDict]; exact dictAll_of ds fun d hd => (h d hd).2.1
  · simp only [PyData.depth]
    have := depAll_of ds fun d hd => (h d hd).2.2.1
    omega
  · simp only [PyData.shown, shownAll_map]
    have := listText_le (c := c) (ts := ds.map PyData.shown) fun t ht => by
      obtain ⟨d, hd, rfl⟩ := List.mem_map.mp ht
      exact (h d hd).2.2.2
    rw [List.length_map] at this
    have m : ds.length * (c + 2) ≤ n * (c + 2) := Nat.mul_le_mul_right _ hn
    omega
theorem Sh.tup {c k n : Nat} {ds : List PyData} (h : ∀ d ∈ ds, Sh c k d) (hn : ds.length ≤ n) : Sh (3 + n * (c + 2)) (k + 1) (.tuple ds) := by
  refine ⟨?_, ?_, ?_, ?_⟩
  · simp only [PyData.showable]; exact showAll_of ds fun d hd => (h d hd).1
  · simp only [PyData.hasDict]; exact dictAll_of ds fun d hd => (h d hd).2.1
  · simp only [PyData.depth]
    have := depAll_of ds fun d hd => (h d hd).2.2.1
    omega
  · simp only [PyData.shown, shownAll_map]
    have := tupleText_le (c := c) (ts := ds.map PyData.shown) fun t ht => by
      obtain ⟨d, hd, rfl⟩ := List.mem_map.mp ht
      exact (h d hd).2.2.2
    rw [List.length_map] at this
    have m : ds.length * (c + 2) ≤ n * (c + 2) := Nat.mul_le_mul_right _ hn
    omega
theorem Sh.more {c c' k k' : Nat} {d : PyData} (h : Sh c k d) (hc : c ≤ c') (hk : k ≤ k') : Sh c' k' d := ⟨h.1, h.2.1, Nat.le_trans h.2.2.1 hk, Nat.le_trans h.2.2.2 hc⟩
theorem Sh.int {i : Int} (h : i.natAbs < 2 ^ 150) : Sh 151 0 (.int i) := by
  have hl : i.natAbs.log2 < 150 := by
    by_cases h0 : i.natAbs = 0
    · rw [h0]; decide
    · exact (Nat.log2_lt h0).mpr h
  refine ⟨?_, ?_, ?_, ?_⟩
  · simp only [PyData.showable, decide_eq_true_eq]; omega
  · simp only [PyData.hasDict]
  · simp only [PyData.depth]; omega
  · simp only [PyData.shown]
    rw [PySem.ofString_length]
    exact int_text_length_le (a := i) (k := 150) (by decide) hl
theorem Sh.none : Sh 4 0 .none := ⟨by simp [PyData.showable], by simp [PyData.hasDict], by simp [PyData.depth], by simp only [PyData.shown]; decide⟩
theorem Sh.found : Sh 151 0 (.str "found") := ⟨by simp [PyData.showable], by simp [PyData.hasDict], by simp [PyData.depth], by simp only [PyData.shown]; decide +kernel⟩
theorem Sh.gap : Sh 151 0 (.str "gap") := ⟨by simp [PyData.showable], by simp [PyData.hasDict], by simp [PyData.depth], by simp only [PyData.shown]; decide +kernel⟩
theorem cRepr_of {c k : Nat} {d : PyData} (h : Sh c k d) (hd : isDisp d = true) (hk : k ≤ 60) (hc : c ≤ 1000000) : cRepr [d] = some (.str d.shown) := by
  simp only [cRepr]
  rw [if_pos ⟨hd, h.1, h.2.1, Nat.le_trans h.2.2.1 hk, Nat.le_trans h.2.2.2 hc⟩]
theorem fNeX_self (s : Str) : fNeX (.str s) (.str s) = some (.bool false) := by simp [fNeX]
theorem fEqX_self (s : Str) : fEqX (.str s) (.str s) = some (.bool true) := by simp [fEqX]
end Lw
set_option maxHeartbeats 2000000
namespace Lw
open PySem PySem.Spec PyProof.Rows L2 DL TL
/-! ### what is read can be shown -/
def ShD (c k : Nat) (d : PyData) : Prop := d.showable = true ∧ dk0 d = true ∧ d.depth ≤ k ∧ d.shown.length ≤ c
theorem dk0s_of : ∀ ds : List PyData, (∀ d ∈ ds, dk0 d = true) → dk0s ds = true
  | [], _ => rfl
  | d :: r, h => by
    rw [dk0s, h d List.mem_cons_self, dk0s_of r fun x hx => h x (List.mem_cons_of_mem _ hx)]
    rfl
theorem ShD.list {c k n : Nat} {ds : List PyData} (h : ∀ d ∈ ds, ShD c k d) (hn : ds.length ≤ n) : ShD (2 + n * (c + 2)) (k + 1) (.list ds) := by
  refine ⟨?_, ?_, ?_, ?_⟩
  · rw [PyData.showable]
    exact showAll_of ds fun d hd => (h d hd).1
  · rw [dk0]
    exact dk0s_of ds fun d hd => (h d hd).2.1
  · rw [PyData.depth]
    have := depAll_of (k := k) ds fun d hd => (h d hd).2.2.1
    omega
  · rw [PyData.shown, shownAll_map]
    have := listText_le (c := c) (ts := ds.map PyData.shown) fun t ht => by
      obtain ⟨d, hd, rfl⟩ := List.mem_map.mp ht
      exact (h d hd).2.2.2
    rw [List.length_map] at this
    have : ds.length * (c + 2) ≤ n * (c + 2) := Nat.mul_le_mul_right _ hn
    omega
theorem ShD.tup {c k n : Nat} {ds : List PyData} (h : ∀ d ∈ ds, ShD c k d) (hn : ds.length ≤ n) : ShD (3 + n * (c + 2)) (k + 1) (.tuple ds) := by
  refine ⟨?_, ?_, ?_, ?_⟩
  · rw [PyData.showable]
    exact showAll_of ds fun d hd => (h d hd).1
  · rw [dk0]
    exact dk0s_of ds fun d hd => (h d hd).2.1
  · rw [PyData.depth]
    have := depAll_of (k := k) ds fun d hd => (h d hd).2.2.1
    omega
  · rw [PyData.shown, shownAll_map]
    have := tupleText_le (c := c) (ts := ds.map PyData.shown) fun t ht => by
      obtain ⟨d, hd, rfl⟩ := List.mem_map.mp ht
      exact (h d hd).2.2.2
    rw [List.length_map] at this
    have : ds.length * (c + 2) ≤ n * (c + 2) := Nat.mul_le_mul_right _ hn
    omega
theorem ShD.more {c c' k k' : Nat} {d : PyData} (h : ShD c k d) (hc : c ≤ c') (hk : k ≤ k') : ShD c' k' d := ⟨h.1, h.2.1, Nat.le_trans h.2.2.1 hk, Nat.le_trans h.2.2.2 hc⟩
theorem ShD.int {i : Int} (h : i.natAbs < 10 ^ 400) : ShD 401 0 (.int i) := by
  have hl : i.natAbs.log2 < 1400 := by
    by_cases h0 : i.natAbs = 0
    · rw [h0]; decide
    · exact (Nat.log2_lt h0).mpr (Nat.lt_trans h (by decide +kernel))
  refine ⟨?_, ?_, ?_, ?_⟩
  · simp only [PyData.showable, decide_eq_true_eq]; omega
  · simp [dk0]
  · simp only [PyData.depth]; omega
  · simp only [PyData.shown]
    rw [PySem.ofString_length]
    exact int_text_length_le10 (by decide) h
theorem ShD.lab {w : Str} (h : wOk w = true) : ShD 20 0 (.str w) := by
  refine ⟨by simp [PyData.showable], by simp [dk0], by simp [PyData.depth], ?_⟩
  simp only [PyData.shown]
  obtain ⟨y, hy, e⟩ := List.any_eq_true.mp h
  have : w = y := (eq_of_beq e).symm
  subst this
  simp only [lab4, List.mem_cons, List.not_mem_nil, or_false] at hy
  rcases hy with rfl | rfl | rfl | rfl <;> decide +kernel
/-! ### figures make small numbers -/
theorem dv_fold : ∀ (cs : List Nat) (a : Nat), NumText.AllDigits cs → cs.foldl (fun acc c => acc * 10 + (c - 48)) a < (a + 1) * 10 ^ cs.length
  | [], a, _ => by simp
  | c :: r, a, h => by
    have ih := dv_fold r (a * 10 + (c - 48)) fun x hx => h x (List.mem_cons_of_mem _ hx)
    have hc := h c List.mem_cons_self
    have : (a * 10 + (c - 48) + 1) * 10 ^ r.length ≤ ((a + 1) * 10) * 10 ^ r.length := Nat.mul_le_mul_right _ (by omega)
    rw [List.foldl_cons, List.length_cons, Nat.pow_succ]
    have e : (a + 1) * (10 ^ r.length * 10) = ((a + 1) * 10) * 10 ^ r.length := by rw [Nat.mul_comm (10 ^ r.length) 10, Nat.mul_assoc]
    omega
theorem dv_lt {cs : List Nat} (h : NumText.AllDigits cs) : NumText.digitsVal cs < 10 ^ cs.length := by
  have := dv_fold cs 0 h
  simpa [NumText.digitsVal] using this
theorem figL_len (L : List Nat) : (figL L).length ≤ L.length := by
  unfold figL
  split
  · rw [List.length_drop]; omega
  · exact Nat.le_refl _
theorem num_small {s : Str} {v : Int} (hs : s.length ≤ 399) (h : numO s = some v) : v.natAbs < 10 ^ 400 := by
  by_cases c : numB (tl s) = true
  · rw [numO, if_pos c] at h
    obtain ⟨⟨v', e, le⟩, _, _, ad, _⟩ := num_val c (by omega)
    rw [h] at e
    cases e
    have l1 := dv_lt ad
    have l2 := figL_len (tl s)
    have l3 : (tl s).length ≤ 399 := hs
    have : 10 ^ (figL (tl s)).length ≤ 10 ^ 400 := Nat.pow_le_pow_right (by decide) (by omega)
    omega
  · rw [numO, if_neg c] at h
    cases h
theorem rd_ok : ∀ (ls : List Str) (k : Nat) (vs : List Int) (ws : List Str), (∀ l ∈ ls, l.length ≤ 399) → (∀ v ∈ vs, v.natAbs < 10 ^ 400) → (∀ w ∈ ws, wOk w = true) →
    match rd ls k vs ws with
    | .bad n => n ≤ k + ls.length
    | .good vs' ws' => (∀ v ∈ vs', v.natAbs < 10 ^ 400) ∧ (∀ w ∈ ws', wOk w = true) ∧ vs'.length = vs.length + ls.length ∧ ws'.length = ws.length + ls.length
  | [], k, vs, ws, _, hv, hw => ⟨hv, hw, rfl, rfl⟩
  | l :: r, k, vs, ws, hl, hv, hw => by
    rw [rd]
    cases h : okP k (Txt.split l " ") with
    | none => show k + 1 ≤ _; rw [List.length_cons]; omega
    | some p =>
      obtain ⟨a, b, eP, na, nb, wp, _⟩ := okP_some h
      have hb : b.length ≤ 399 := by
        have := (split_le (x := l) sp_sp.1 sp_sp.2.1).1 b (by rw [eP]; simp)
        have := hl l List.mem_cons_self
        omega
      have ih := rd_ok r (k + 1) (vs ++ [p.1]) (ws ++ [p.2]) (fun x hx => hl x (List.mem_cons_of_mem _ hx))
        (fun v hvv => by
          rcases List.mem_append.mp hvv with hvv | hvv
          · exact hv v hvv
          · rw [List.mem_singleton.mp hvv]; exact num_small hb nb)
        (fun w hww => by
          rcases List.mem_append.mp hww with hww | hww
          · exact hw w hww
          · rw [List.mem_singleton.mp hww]; exact wp)
      show match rd r (k + 1) (vs ++ [p.1]) (ws ++ [p.2]) with
        | .bad n => _
        | .good vs' ws' => _
      revert ih
      cases rd r (k + 1) (vs ++ [p.1]) (ws ++ [p.2]) with
      | bad n => intro ih; simp only [List.length_cons] at ih ⊢; omega
      | good vs' ws' =>
        intro ih
        obtain ⟨i1, i2, i3, i4⟩ := ih
        simp only [List.length_append, List.length_cons, List.length_nil] at i3 i4 ⊢
        exact ⟨i1, i2, by omega, by omega⟩
theorem lines_396 {t : Str} (ht : t.length ≤ 396) : (∀ l ∈ lines t, l.length ≤ 399) ∧ (lines t).length ≤ 397 := by
  by_cases c : t = ""
  · rw [lines, if_pos c]
    exact ⟨fun l hl => absurd hl (List.not_mem_nil), by simp⟩
  · rw [lines, if_neg c]
    obtain ⟨a, b⟩ := split_le (x := t) sp_nl.1 sp_nl.2.1
    exact ⟨fun l hl => by have := a l hl; omega, by omega⟩
theorem out_show {t : Str} (ht : t.length ≤ 396) : showB (.list (outR (readT t))) := by
  obtain ⟨l1, l2⟩ := lines_396 ht
  have h := rd_ok (lines t) 0 [] [] l1 (fun v hv => absurd hv List.not_mem_nil) (fun v hv => absurd hv List.not_mem_nil)
  have key : ShD 640100 3 (.list (outR (readT t))) := by
    revert h
    rw [readT]
    cases rd (lines t) 0 [] [] with
    | bad n =>
      intro h
      simp only at h
      have a1 : ShD 401 0 (.str "raised") := ⟨by simp [PyData.showable], by simp [dk0], by simp [PyData.depth], by simp only [PyData.shown]; decide +kernel⟩
      have a2 : ShD 401 0 (.int (n : Nat)) := ShD.int (Nat.lt_of_le_of_lt (by omega : ((n : Nat) : Int).natAbs ≤ 397) (by decide +kernel))
      exact (ShD.list (n := 2) (ds := [.str "raised", .int (n : Nat)]) (fun d hd => by
        rcases List.mem_cons.mp hd with rfl | hd
        · exact a1
        · rw [List.mem_singleton.mp hd]; exact a2) (Nat.le_refl _)).more (by omega) (by omega)
    | good vs ws =>
      intro h
      obtain ⟨h1, h2, h3, h4⟩ := h
      simp only [List.length_nil, Nat.zero_add] at h3 h4
      have a1 : ShD 160000 1 (.list (vs.map .int)) := (ShD.list (n := 397) (c := 401) (k := 0) (fun d hd => by
        obtain ⟨v, hv, rfl⟩ := List.mem_map.mp hd
        exact ShD.int (h1 v hv)) (by rw [List.length_map]; omega)).more (by omega) (by omega)
      have a2 : ShD 160000 1 (.list (ws.map .str)) := (ShD.list (n := 397) (c := 20) (k := 0) (fun d hd => by
        obtain ⟨v, hv, rfl⟩ := List.mem_map.mp hd
        exact ShD.lab (h2 v hv)) (by rw [List.length_map]; omega)).more (by omega) (by omega)
      have a3 : ShD 320010 2 (.tuple [.list (vs.map .int), .list (ws.map .str)]) := (ShD.tup (n := 2) (c := 160000) (k := 1) (fun d hd => by
        rcases List.mem_cons.mp hd with rfl | hd
        · exact a1
        · rw [List.mem_singleton.mp hd]; exact a2) (Nat.le_refl _)).more (by omega) (by omega)
      have a4 : ShD 320010 2 (.str "told") := ⟨by simp [PyData.showable], by simp [dk0], by simp [PyData.depth], by simp only [PyData.shown]; decide +kernel⟩
      exact (ShD.list (n := 2) (c := 320010) (k := 2) (ds := [.str "told", .tuple [.list (vs.map .int), .list (ws.map .str)]]) (fun d hd => by
        rcases List.mem_cons.mp hd with rfl | hd
        · exact a4
        · rw [List.mem_singleton.mp hd]; exact a3) (Nat.le_refl _)).more (by omega) (by omega)
  exact ⟨rfl, key.1, key.2.1, Nat.le_trans key.2.2.1 (by omega), Nat.le_trans key.2.2.2 (by omega)⟩
end Lw
set_option maxHeartbeats 2000000
namespace Lw
open PySem PySem.Spec PyProof.Rows L2 DL TL
/-! ### lines drawn, lines bent -/
noncomputable def lnE : EF := gCall F__law_line (DL.gCons (gVar 0) (DL.gCons (gVar 4) DL.gNil))
theorem ln_lc {n m : Nat} {ds : List PyData} (hn : n ≤ 12) (hd : Dr (m + n) ds) {s1 s2 s3 s4 s5 s6 : Sl} :
    ∃ (LS : List Str) (ds' : List PyData) (s4' : Sl), lcGo (gtName 4) bYes lnE [4] (rngD 0 n) [] [.l true ds, s1, s2, s3, s4, s5, s6] = some (LS.map .str, [.l true ds', s1, s2, s3, s4', s5, s6]) ∧ LS.length = n ∧ (∀ s ∈ LS, s.length ≤ 13) ∧ Dr m ds' := by
  have ln : (rngD 0 n).length = n := by rw [rngD_zero, List.length_map, List.length_range]
  obtain ⟨acc, ρ', e, LS, ds', s4', h1, h2, h3, h4, h5⟩ := lc_inv (t := gtName 4) (c := bYes) (g := lnE) (vs := [4]) (ds := rngD 0 n) (ρ := [.l true ds, s1, s2, s3, s4, s5, s6])
    (I := fun i acc ρ => ∃ (LS : List Str) (ds : List PyData) (s4 : Sl), acc = LS.map .str ∧ LS.length = i ∧ (∀ s ∈ LS, s.length ≤ 13) ∧ Dr (m + (n - i)) ds ∧ ρ = [.l true ds, s1, s2, s3, s4, s5, s6])
    ⟨[], ds, s4, rfl, rfl, fun s hs => absurd hs List.not_mem_nil, by simpa using hd, rfl⟩ (by rw [ln]; simp only [big]; omega) fun i d acc ρ hi ⟨LS, ds, s4, h1, h2, h3, h4, h5⟩ => by
      subst h1 h5
      have hin : i < n := by
        have := (List.getElem?_eq_some_iff.mp hi).1
        omega
      have hdd : d = .int (i : Nat) := by
        rw [rngD_zero, List.getElem?_map, List.getElem?_range hin] at hi
        exact (Option.some.inj hi).symm
      subst hdd
      obtain ⟨s, ds1, e1, hs, hd1⟩ := e__law_line (k := i) (m := m + (n - (i + 1))) (by omega) (h4.mono (by omega))
      refine ⟨[.l true ds, s1, s2, s3, .v (.int (i : Nat)), s5, s6], [.l true ds, s1, s2, s3, .v (.int (i : Nat)), s5, s6], rfl, .inl ⟨.str s, [.l true ds1, s1, s2, s3, .v (.int (i : Nat)), s5, s6], rfl, ?_, LS ++ [s], ds1, _, by simp, by simp [h2], fun x hx => ?_, hd1, rfl⟩⟩
      · simp only [lnE, e1, Nat.reduceLeDiff, Nat.reduceSub, cd_2, cd_3, cd_4, cd_5, cd_6, cd_7, cd_12, cd_20, cd_28, cd_60, cd_1000000, big, fEq_int, fNe_int, DL.atI_0, DL.atI_1, DL.atI_2, runF, runR, gVar, gC, DL.gNil, DL.gCons, gOp, gUn, fNeg, gTest, gTru, gChain, gIf, gAndV, gOrV, gNotV, bNot, bAnd, bOr, gCall, fCall, toSls, toSl, slotsOf, put, putL, sameKind, res, resA, gCB, fCB, gF, fLst, DL.gTup, allD, gRep, gSl, oNo, oInt, wipeR, restR, noL, fLc, bYes, fSumL, lists_map, cSorted, cSortSet, DL.ints_map, gIsi, noD, tyN, isiB, sNext, sSeq, sNever, sBreak, sCont, sExpr, sRet, sRetN, sRetF, sRetO, sIf, sFrz, frzAt, sSet, sSetO, sAsg, sPar, gtName, gtNil, gtCons, gtTup, gtLst, stay, iSeq, iTpl, iRange1_eq, iRange2_eq, rg1_2, rg1_3, rg1_4, iEnumD, iZipD, sFor, sApp, sPutIx, sAug, getL, frz, frz1, fLt_i, fLe_i, fGt_i, fGe_i, fIsN, fNotN, fAdd_i, fAdd_l, fSub_i, fMul_i, fDiv_i, fMod_i, fPow_i, fIx, fTru, cLen, cInt, List.getElem?_cons_zero, List.getElem?_cons_succ, List.getElem?_nil, List.set_cons_zero, List.set_cons_succ, List.set_nil, List.replicate, List.cons_append, List.nil_append, List.append_nil, List.map_cons, List.map_nil, List.take_succ_cons, List.take_zero, List.take_nil, List.nodup_nil, List.nodup_cons, List.not_mem_nil, List.mem_cons, List.length_cons, List.length_nil, Option.bind_some, Option.bind_none, Option.map_some, Option.map_none, Option.some_or, Option.none_or, Option.or_none, Nat.reduceAdd, Nat.reduceSub, if_true, if_false, ite_true, ite_false, reduceIte, Bool.false_eq_true, Bool.not_true, Bool.not_false, decide_true, decide_false, and_self, and_true, true_and, not_false_eq_true, not_true_eq_false, or_false, false_or, or_true, true_or, reduceCtorEq, forall_const, implies_true, Bool.true_and, Bool.and_true, Bool.false_and, Bool.and_false, Bool.or_true, Bool.or_false, Bool.true_or, Bool.false_or]
      · rcases List.mem_append.mp hx with hx | hx
        · exact h3 x hx
        · rw [List.mem_singleton.mp hx]; exact hs
  rw [ln] at h2
  subst h1 h5
  exact ⟨LS, ds', s4', e, h2, h3, h4.mono (by omega)⟩
noncomputable def r1S : SF := (sSet 1 (gF (fLc (iRange1 (DL.gCons (gOp fMod (gCB cInt (DL.gCons (gCall F__law_next (DL.gCons (gVar 0) DL.gNil)) DL.gNil)) (gC (.int 13))) DL.gNil)) (gtName 4) bYes lnE [4])))
theorem r1_ev {m : Nat} {ds : List PyData} (hd : Dr (m + 13) ds) : ∃ (LS : List Str) (ds' : List PyData), r1S [.l true ds, .un, .un, .un, .un, .un, .un] = some (.nx [.l true ds', .v (.list (LS.map .str)), .un, .un, .un, .un, .un]) ∧ LS.length ≤ 12 ∧ (∀ s ∈ LS, s.length ≤ 13) ∧ Dr m ds' := by
  obtain ⟨x, ds1, e1, x0, _, hd1⟩ := e__law_next (m := m + 12) hd
  obtain ⟨k, hk, hk2⟩ : ∃ k : Nat, x % 13 = (k : Int) ∧ k ≤ 12 := ⟨(x % 13).toNat, by omega, by omega⟩
  obtain ⟨LS, ds2, s4', e2, l1, l2, hd2⟩ := ln_lc (n := k) (m := m) hk2 (hd1.mono (by omega)) (s1 := .un) (s2 := .un) (s3 := .un) (s4 := .un) (s5 := .un) (s6 := .un)
  have p13 : (0 : Int) < 13 := by decide
  have rg := @rg1_nat k (by omega)
  have l3 : LS.length ≤ 1000000 := by omega
  refine ⟨LS, ds2, ?_, by omega, l2, hd2⟩
  simp only [r1S, e1, hk, e2, p13, rg, List.length_map, l3, Nat.reduceLeDiff, Nat.reduceSub, cd_2, cd_3, cd_4, cd_5, cd_6, cd_7, cd_12, cd_20, cd_28, cd_60, cd_1000000, big, fEq_int, fNe_int, DL.atI_0, DL.atI_1, DL.atI_2, runF, runR, gVar, gC, DL.gNil, DL.gCons, gOp, gUn, fNeg, gTest, gTru, gChain, gIf, gAndV, gOrV, gNotV, bNot, bAnd, bOr, gCall, fCall, toSls, toSl, slotsOf, put, putL, sameKind, res, resA, gCB, fCB, gF, fLst, DL.gTup, allD, gRep, gSl, oNo, oInt, wipeR, restR, noL, fLc, bYes, fSumL, lists_map, cSorted, cSortSet, DL.ints_map, gIsi, noD, tyN, isiB, sNext, sSeq, sNever, sBreak, sCont, sExpr, sRet, sRetN, sRetF, sRetO, sIf, sFrz, frzAt, sSet, sSetO, sAsg, sPar, gtName, gtNil, gtCons, gtTup, gtLst, stay, iSeq, iTpl, iRange1_eq, iRange2_eq, rg1_2, rg1_3, rg1_4, iEnumD, iZipD, sFor, sApp, sPutIx, sAug, getL, frz, frz1, fLt_i, fLe_i, fGt_i, fGe_i, fIsN, fNotN, fAdd_i, fAdd_l, fSub_i, fMul_i, fDiv_i, fMod_i, fPow_i, fIx, fTru, cLen, cInt, List.getElem?_cons_zero, List.getElem?_cons_succ, List.getElem?_nil, List.set_cons_zero, List.set_cons_succ, List.set_nil, List.replicate, List.cons_append, List.nil_append, List.append_nil, List.map_cons, List.map_nil, List.take_succ_cons, List.take_zero, List.take_nil, List.nodup_nil, List.nodup_cons, List.not_mem_nil, List.mem_cons, List.length_cons, List.length_nil, Option.bind_some, Option.bind_none, Option.map_some, Option.map_none, Option.some_or, Option.none_or, Option.or_none, Nat.reduceAdd, Nat.reduceSub, if_true, if_false, ite_true, ite_false, reduceIte, Bool.false_eq_true, Bool.not_true, Bool.not_false, decide_true, decide_false, and_self, and_true, true_and, not_false_eq_true, not_true_eq_false, or_false, false_or, or_true, true_or, reduceCtorEq, forall_const, implies_true, Bool.true_and, Bool.and_true, Bool.false_and, Bool.and_false, Bool.or_true, Bool.or_false, Bool.true_or, Bool.false_or]
/-! slices of lines -/
theorem sl_tk {LS : List Str} {a : Nat} : fSl (.list (LS.map .str)) none (some (a : Int)) = some (.list ((LS.take a).map .str)) := by rw [fSl_take, List.map_take]
theorem sl_dr {LS : List Str} {a : Nat} : fSl (.list (LS.map .str)) (some (a : Int)) none = some (.list ((LS.drop a).map .str)) := by rw [fSl_drop, List.map_drop]
theorem sl_dr1 {LS : List Str} {a : Nat} : fSl (.list (LS.map .str)) (some ((a : Int) + 1)) none = some (.list ((LS.drop (a + 1)).map .str)) := sl_dr (a := a + 1)
theorem sl_md {LS : List Str} {a : Nat} : ∃ X : List Str, fSl (.list (LS.map .str)) (some ((a : Int) - 1)) (some (a : Int)) = some (.list (X.map .str)) ∧ X.length ≤ 1 ∧ ∀ s ∈ X, s ∈ LS := by
  cases a with
  | zero =>
    refine ⟨[], ?_, by simp, fun s hs => absurd hs List.not_mem_nil⟩
    simp only [fSl, sIx_nat, Nat.zero_min, Nat.zero_sub, List.take_zero, List.map_nil]
  | succ b =>
    have e : ((b + 1 : Nat) : Int) - 1 = (b : Nat) := by omega
    refine ⟨(LS.take (b + 1)).drop b, ?_, by rw [List.length_drop, List.length_take]; omega, fun s hs => List.mem_of_mem_take (List.mem_of_mem_drop hs)⟩
    rw [e, fSl_both, ← List.map_take, ← List.map_drop]
def inL : List Str := ["", " ", "0 1 low", "1 1 found", "0 1 low "]
theorem inL_le : ∀ s ∈ inL, s.length ≤ 9 := by decide +kernel
noncomputable def n3S : SF := (sSet 3 (gCall F__law_next (DL.gCons (gVar 0) DL.gNil)))
noncomputable def a4S : SF := (sSet 4 (gOp fMod (gCB cInt (DL.gCons (gOp fDiv (gVar 3) (gC (.int 8))) DL.gNil)) (gOp fAdd (gCB cLen (DL.gCons (gVar 1) DL.gNil)) (gC (.int 1)))))
noncomputable def i0S : SF := (sIf (gTest (gOp fEq (gOp fMod (gCB cInt (DL.gCons (gVar 3) DL.gNil)) (gC (.int 8))) (gC (.int 0)))) (sSet 1 (gOp fAdd (gSl (gVar 1) oNo (oInt (gVar 4))) (gSl (gVar 1) (oInt (gOp fAdd (gVar 4) (gC (.int 1)))) oNo))) sNext)
noncomputable def i1S : SF := (sIf (gTest (gOp fEq (gOp fMod (gCB cInt (DL.gCons (gVar 3) DL.gNil)) (gC (.int 8))) (gC (.int 1)))) (sSet 1 (gOp fAdd (gOp fAdd (gSl (gVar 1) oNo (oInt (gVar 4))) (gF (fLst (DL.gCons (gOp fIx (gF (fLst (DL.gCons (gC (.str "")) (DL.gCons (gC (.str " ")) (DL.gCons (gC (.str "0 1 low")) (DL.gCons (gC (.str "1 1 found")) (DL.gCons (gC (.str "0 1 low ")) DL.gNil))))))) (gOp fMod (gCB cInt (DL.gCons (gOp fDiv (gVar 3) (gC (.int 128))) DL.gNil)) (gC (.int 5)))) DL.gNil)))) (gSl (gVar 1) (oInt (gVar 4)) oNo))) sNext)
noncomputable def i2S : SF := (sIf (gTest (gOp fEq (gOp fMod (gCB cInt (DL.gCons (gVar 3) DL.gNil)) (gC (.int 8))) (gC (.int 2)))) (sSet 1 (gOp fAdd (gOp fAdd (gSl (gVar 1) oNo (oInt (gVar 4))) (gSl (gVar 1) (oInt (gOp fSub (gVar 4) (gC (.int 1)))) (oInt (gVar 4)))) (gSl (gVar 1) (oInt (gVar 4)) oNo))) sNext)
def GL (c : Nat) (LS : List Str) : Prop := LS.length ≤ c ∧ ∀ s ∈ LS, s.length ≤ 13
theorem mem_app {LA LB : List Str} {P : Str → Prop} (h : ∀ s ∈ LA, P s) (k : ∀ s ∈ LB, P s) : ∀ s ∈ LA ++ LB, P s := fun s hs => by
  rcases List.mem_append.mp hs with hs | hs
  · exact h s hs
  · exact k s hs
section
variable {s0 s2 s5 s6 : Sl} {x : Int} {a c : Nat} {LS : List Str}
theorem i0_ev (hc : c ≤ 20) (hL : GL c LS) : ∃ LS', i0S [s0, .v (.list (LS.map .str)), s2, .v (.int x), .v (.int (a : Nat)), s5, s6] = some (.nx [s0, .v (.list (LS'.map .str)), s2, .v (.int x), .v (.int (a : Nat)), s5, s6]) ∧ GL c LS' := by
  have p8 : (0 : Int) < 8 := by decide
  by_cases h : x % 8 = 0
  · have l1 : (LS.take a).length + (LS.drop (a + 1)).length ≤ LS.length := by rw [List.length_take, List.length_drop]; omega
    have q1 : (LS.take a).length + (LS.drop (a + 1)).length ≤ 1000000 := by have := hL.1; omega
    refine ⟨LS.take a ++ LS.drop (a + 1), ?_, by rw [List.length_append]; exact Nat.le_trans l1 hL.1, mem_app (fun s hs => hL.2 s (List.mem_of_mem_take hs)) (fun s hs => hL.2 s (List.mem_of_mem_drop hs))⟩
    have f : fAdd (.list ((LS.take a).map .str)) (.list ((LS.drop (a + 1)).map .str)) = some (.list ((LS.take a ++ LS.drop (a + 1)).map .str)) := by
      rw [fAdd_l, List.length_map, List.length_map, if_pos q1, List.map_append]
    simp only [i0S, h, p8, sl_tk, sl_dr1, f, Nat.reduceLeDiff, Nat.reduceSub, cd_2, cd_3, cd_4, cd_5, cd_6, cd_7, cd_12, cd_20, cd_28, cd_60, cd_1000000, big, fEq_int, fNe_int, DL.atI_0, DL.atI_1, DL.atI_2, runF, runR, gVar, gC, DL.gNil, DL.gCons, gOp, gUn, fNeg, gTest, gTru, gChain, gIf, gAndV, gOrV, gNotV, bNot, bAnd, bOr, gCall, fCall, toSls, toSl, slotsOf, put, putL, sameKind, res, resA, gCB, fCB, gF, fLst, DL.gTup, allD, gRep, gSl, oNo, oInt, wipeR, restR, noL, fLc, bYes, fSumL, lists_map, cSorted, cSortSet, DL.ints_map, gIsi, noD, tyN, isiB, sNext, sSeq, sNever, sBreak, sCont, sExpr, sRet, sRetN, sRetF, sRetO, sIf, sFrz, frzAt, sSet, sSetO, sAsg, sPar, gtName, gtNil, gtCons, gtTup, gtLst, stay, iSeq, iTpl, iRange1_eq, iRange2_eq, rg1_2, rg1_3, rg1_4, iEnumD, iZipD, sFor, sApp, sPutIx, sAug, getL, frz, frz1, fLt_i, fLe_i, fGt_i, fGe_i, fIsN, fNotN, fAdd_i, fAdd_l, fSub_i, fMul_i, fDiv_i, fMod_i, fPow_i, fIx, fTru, cLen, cInt, List.getElem?_cons_zero, List.getElem?_cons_succ, List.getElem?_nil, List.set_cons_zero, List.set_cons_succ, List.set_nil, List.replicate, List.cons_append, List.nil_append, List.append_nil, List.map_cons, List.map_nil, List.take_succ_cons, List.take_zero, List.take_nil, List.nodup_nil, List.nodup_cons, List.not_mem_nil, List.mem_cons, List.length_cons, List.length_nil, Option.bind_some, Option.bind_none, Option.map_some, Option.map_none, Option.some_or, Option.none_or, Option.or_none, Nat.reduceAdd, Nat.reduceSub, if_true, if_false, ite_true, ite_false, reduceIte, Bool.false_eq_true, Bool.not_true, Bool.not_false, decide_true, decide_false, and_self, and_true, true_and, not_false_eq_true, not_true_eq_false, or_false, false_or, or_true, true_or, reduceCtorEq, forall_const, implies_true, Bool.true_and, Bool.and_true, Bool.false_and, Bool.and_false, Bool.or_true, Bool.or_false, Bool.true_or, Bool.false_or]
  · refine ⟨LS, ?_, hL⟩
    simp only [i0S, h, p8, Nat.reduceLeDiff, Nat.reduceSub, cd_2, cd_3, cd_4, cd_5, cd_6, cd_7, cd_12, cd_20, cd_28, cd_60, cd_1000000, big, fEq_int, fNe_int, DL.atI_0, DL.atI_1, DL.atI_2, runF, runR, gVar, gC, DL.gNil, DL.gCons, gOp, gUn, fNeg, gTest, gTru, gChain, gIf, gAndV, gOrV, gNotV, bNot, bAnd, bOr, gCall, fCall, toSls, toSl, slotsOf, put, putL, sameKind, res, resA, gCB, fCB, gF, fLst, DL.gTup, allD, gRep, gSl, oNo, oInt, wipeR, restR, noL, fLc, bYes, fSumL, lists_map, cSorted, cSortSet, DL.ints_map, gIsi, noD, tyN, isiB, sNext, sSeq, sNever, sBreak, sCont, sExpr, sRet, sRetN, sRetF, sRetO, sIf, sFrz, frzAt, sSet, sSetO, sAsg, sPar, gtName, gtNil, gtCons, gtTup, gtLst, stay, iSeq, iTpl, iRange1_eq, iRange2_eq, rg1_2, rg1_3, rg1_4, iEnumD, iZipD, sFor, sApp, sPutIx, sAug, getL, frz, frz1, fLt_i, fLe_i, fGt_i, fGe_i, fIsN, fNotN, fAdd_i, fAdd_l, fSub_i, fMul_i, fDiv_i, fMod_i, fPow_i, fIx, fTru, cLen, cInt, List.getElem?_cons_zero, List.getElem?_cons_succ, List.getElem?_nil, List.set_cons_zero, List.set_cons_succ, List.set_nil, List.replicate, List.cons_append, List.nil_append, List.append_nil, List.map_cons, List.map_nil, List.take_succ_cons, List.take_zero, List.take_nil, List.nodup_nil, List.nodup_cons, List.not_mem_nil, List.mem_cons, List.length_cons, List.length_nil, Option.bind_some, Option.bind_none, Option.map_some, Option.map_none, Option.some_or, Option.none_or, Option.or_none, Nat.reduceAdd, Nat.reduceSub, if_true, if_false, ite_true, ite_false, reduceIte, Bool.false_eq_true, Bool.not_true, Bool.not_false, decide_true, decide_false, and_self, and_true, true_and, not_false_eq_true, not_true_eq_false, or_false, false_or, or_true, true_or, reduceCtorEq, forall_const, implies_true, Bool.true_and, Bool.and_true, Bool.false_and, Bool.and_false, Bool.or_true, Bool.or_false, Bool.true_or, Bool.false_or]
theorem i1_ev (hc : c ≤ 20) (x0 : 0 ≤ x) (hL : GL c LS) : ∃ LS', i1S [s0, .v (.list (LS.map .str)), s2, .v (.int x), .v (.int (a : Nat)), s5, s6] = some (.nx [s0, .v (.list (LS'.map .str)), s2, .v (.int x), .v (.int (a : Nat)), s5, s6]) ∧ GL (if x % 8 = 1 then c + 1 else c) LS' := by
  have p8 : (0 : Int) < 8 := by decide
  by_cases h : x % 8 = 1
  · have h0 := Int.emod_nonneg (x / 128) (b := 5) (by omega)
    have h1 := Int.emod_lt_of_pos (x / 128) (b := 5) (by omega)
    obtain ⟨s, e, hl⟩ := str_at (L := inL) inL_le h0 h1
    simp only [inL, List.map_cons, List.map_nil] at e
    have c128 : CDivW x 128 := ⟨by decide, by decide +kernel⟩
    have p5 : (0 : Int) < 5 := by decide
    have l1 : (LS.take a).length + (LS.drop a).length ≤ LS.length := by rw [List.length_take, List.length_drop]; omega
    have hz := hL.1
    have q1 : (LS.take a).length + 1 ≤ 1000000 := by omega
    have q2 : (LS.take a ++ [s]).length + (LS.drop a).length ≤ 1000000 := by rw [List.length_append, List.length_singleton]; omega
    refine ⟨LS.take a ++ [s] ++ LS.drop a, ?_, by rw [if_pos h, List.length_append, List.length_append, List.length_singleton]; omega, mem_app (mem_app (fun s hs => hL.2 s (List.mem_of_mem_take hs)) (fun y hy => by rw [List.mem_singleton.mp hy]; omega)) (fun s hs => hL.2 s (List.mem_of_mem_drop hs))⟩
    have f1 : fAdd (.list ((LS.take a).map .str)) (.list [.str s]) = some (.list ((LS.take a ++ [s]).map .str)) := by
      rw [fAdd_l, List.length_map, List.length_singleton, if_pos q1, List.map_append]
      rfl
    have f2 : fAdd (.list ((LS.take a ++ [s]).map .str)) (.list ((LS.drop a).map .str)) = some (.list ((LS.take a ++ [s] ++ LS.drop a).map .str)) := by
      rw [fAdd_l, List.length_map, List.length_map, if_pos q2, ← List.map_append]
    simp only [i1S, h, p8, p5, c128, e, sl_tk, sl_dr, f1, f2, Nat.reduceLeDiff, Nat.reduceSub, cd_2, cd_3, cd_4, cd_5, cd_6, cd_7, cd_12, cd_20, cd_28, cd_60, cd_1000000, big, fEq_int, fNe_int, DL.atI_0, DL.atI_1, DL.atI_2, runF, runR, gVar, gC, DL.gNil, DL.gCons, gOp, gUn, fNeg, gTest, gTru, gChain, gIf, gAndV, gOrV, gNotV, bNot, bAnd, bOr, gCall, fCall, toSls, toSl, slotsOf, put, putL, sameKind, res, resA, gCB, fCB, gF, fLst, DL.gTup, allD, gRep, gSl, oNo, oInt, wipeR, restR, noL, fLc, bYes, fSumL, lists_map, cSorted, cSortSet, DL.ints_map, gIsi, noD, tyN, isiB, sNext, sSeq, sNever, sBreak, sCont, sExpr, sRet, sRetN, sRetF, sRetO, sIf, sFrz, frzAt, sSet, sSetO, sAsg, sPar, gtName, gtNil, gtCons, gtTup, gtLst, stay, iSeq, iTpl, iRange1_eq, iRange2_eq, rg1_2, rg1_3, rg1_4, iEnumD, iZipD, sFor, sApp, sPutIx, sAug, getL, frz, frz1, fLt_i, fLe_i, fGt_i, fGe_i, fIsN, fNotN, fAdd_i, fAdd_l, fSub_i, fMul_i, fDiv_i, fMod_i, fPow_i, fIx, fTru, cLen, cInt, List.getElem?_cons_zero, List.getElem?_cons_succ, List.getElem?_nil, List.set_cons_zero, List.set_cons_succ, List.set_nil, List.replicate, List.cons_append, List.nil_append, List.append_nil, List.map_cons, List.map_nil, List.take_succ_cons, List.take_zero, List.take_nil, List.nodup_nil, List.nodup_cons, List.not_mem_nil, List.mem_cons, List.length_cons, List.length_nil, Option.bind_some, Option.bind_none, Option.map_some, Option.map_none, Option.some_or, Option.none_or, Option.or_none, Nat.reduceAdd, Nat.reduceSub, if_true, if_false, ite_true, ite_false, reduceIte, Bool.false_eq_true, Bool.not_true, Bool.not_false, decide_true, decide_false, and_self, and_true, true_and, not_false_eq_true, not_true_eq_false, or_false, false_or, or_true, true_or, reduceCtorEq, forall_const, implies_true, Bool.true_and, Bool.and_true, Bool.false_and, Bool.and_false, Bool.or_true, Bool.or_false, Bool.true_or, Bool.false_or]
  · refine ⟨LS, ?_, by rw [if_neg h]; exact hL⟩
    simp only [i1S, h, p8, Nat.reduceLeDiff, Nat.reduceSub, cd_2, cd_3, cd_4, cd_5, cd_6, cd_7, cd_12, cd_20, cd_28, cd_60, cd_1000000, big, fEq_int, fNe_int, DL.atI_0, DL.atI_1, DL.atI_2, runF, runR, gVar, gC, DL.gNil, DL.gCons, gOp, gUn, fNeg, gTest, gTru, gChain, gIf, gAndV, gOrV, gNotV, bNot, bAnd, bOr, gCall, fCall, toSls, toSl, slotsOf, put, putL, sameKind, res, resA, gCB, fCB, gF, fLst, DL.gTup, allD, gRep, gSl, oNo, oInt, wipeR, restR, noL, fLc, bYes, fSumL, lists_map, cSorted, cSortSet, DL.ints_map, gIsi, noD, tyN, isiB, sNext, sSeq, sNever, sBreak, sCont, sExpr, sRet, sRetN, sRetF, sRetO, sIf, sFrz, frzAt, sSet, sSetO, sAsg, sPar, gtName, gtNil, gtCons, gtTup, gtLst, stay, iSeq, iTpl, iRange1_eq, iRange2_eq, rg1_2, rg1_3, rg1_4, iEnumD, iZipD, sFor, sApp, sPutIx, sAug, getL, frz, frz1, fLt_i, fLe_i, fGt_i, fGe_i, fIsN, fNotN, fAdd_i, fAdd_l, fSub_i, fMul_i, fDiv_i, fMod_i, fPow_i, fIx, fTru, cLen, cInt, List.getElem?_cons_zero, List.getElem?_cons_succ, List.getElem?_nil, List.set_cons_zero, List.set_cons_succ, List.set_nil, List.replicate, List.cons_append, List.nil_append, List.append_nil, List.map_cons, List.map_nil, List.take_succ_cons, List.take_zero, List.take_nil, List.nodup_nil, List.nodup_cons, List.not_mem_nil, List.mem_cons, List.length_cons, List.length_nil, Option.bind_some, Option.bind_none, Option.map_some, Option.map_none, Option.some_or, Option.none_or, Option.or_none, Nat.reduceAdd, Nat.reduceSub, if_true, if_false, ite_true, ite_false, reduceIte, Bool.false_eq_true, Bool.not_true, Bool.not_false, decide_true, decide_false, and_self, and_true, true_and, not_false_eq_true, not_true_eq_false, or_false, false_or, or_true, true_or, reduceCtorEq, forall_const, implies_true, Bool.true_and, Bool.and_true, Bool.false_and, Bool.and_false, Bool.or_true, Bool.or_false, Bool.true_or, Bool.false_or]
theorem i2_ev (hc : c ≤ 20) (hL : GL c LS) : ∃ LS', i2S [s0, .v (.list (LS.map .str)), s2, .v (.int x), .v (.int (a : Nat)), s5, s6] = some (.nx [s0, .v (.list (LS'.map .str)), s2, .v (.int x), .v (.int (a : Nat)), s5, s6]) ∧ GL (if x % 8 = 2 then c + 1 else c) LS' := by
  have p8 : (0 : Int) < 8 := by decide
  by_cases h : x % 8 = 2
  · obtain ⟨X, e, hX, hm⟩ := sl_md (LS := LS) (a := a)
    have l1 : (LS.take a).length + (LS.drop a).length ≤ LS.length := by rw [List.length_take, List.length_drop]; omega
    have hz := hL.1
    have q1 : (LS.take a).length + X.length ≤ 1000000 := by omega
    have q2 : (LS.take a ++ X).length + (LS.drop a).length ≤ 1000000 := by rw [List.length_append]; omega
    refine ⟨LS.take a ++ X ++ LS.drop a, ?_, by rw [if_pos h, List.length_append, List.length_append]; omega, mem_app (mem_app (fun s hs => hL.2 s (List.mem_of_mem_take hs)) (fun y hy => hL.2 y (hm y hy))) (fun s hs => hL.2 s (List.mem_of_mem_drop hs))⟩
    have f1 : fAdd (.list ((LS.take a).map .str)) (.list (X.map .str)) = some (.list ((LS.take a ++ X).map .str)) := by
      rw [fAdd_l, List.length_map, List.length_map, if_pos q1, ← List.map_append]
    have f2 : fAdd (.list ((LS.take a ++ X).map .str)) (.list ((LS.drop a).map .str)) = some (.list ((LS.take a ++ X ++ LS.drop a).map .str)) := by
      rw [fAdd_l, List.length_map, List.length_map, if_pos q2, ← List.map_append]
    simp only [i2S, h, p8, e, sl_tk, sl_dr, f1, f2, Nat.reduceLeDiff, Nat.reduceSub, cd_2, cd_3, cd_4, cd_5, cd_6, cd_7, cd_12, cd_20, cd_28, cd_60, cd_1000000, big, fEq_int, fNe_int, DL.atI_0, DL.atI_1, DL.atI_2, runF, runR, gVar, gC, DL.gNil, DL.gCons, gOp, gUn, fNeg, gTest, gTru, gChain, gIf, gAndV, gOrV, gNotV, bNot, bAnd, bOr, gCall, fCall, toSls, toSl, slotsOf, put, putL, sameKind, res, resA, gCB, fCB, gF, fLst, DL.gTup, allD, gRep, gSl, oNo, oInt, wipeR, restR, noL, fLc, bYes, fSumL, lists_map, cSorted, cSortSet, DL.ints_map, gIsi, noD, tyN, isiB, sNext, sSeq, sNever, sBreak, sCont, sExpr, sRet, sRetN, sRetF, sRetO, sIf, sFrz, frzAt, sSet, sSetO, sAsg, sPar, gtName, gtNil, gtCons, gtTup, gtLst, stay, iSeq, iTpl, iRange1_eq, iRange2_eq, rg1_2, rg1_3, rg1_4, iEnumD, iZipD, sFor, sApp, sPutIx, sAug, getL, frz, frz1, fLt_i, fLe_i, fGt_i, fGe_i, fIsN, fNotN, fAdd_i, fAdd_l, fSub_i, fMul_i, fDiv_i, fMod_i, fPow_i, fIx, fTru, cLen, cInt, List.getElem?_cons_zero, List.getElem?_cons_succ, List.getElem?_nil, List.set_cons_zero, List.set_cons_succ, List.set_nil, List.replicate, List.cons_append, List.nil_append, List.append_nil, List.map_cons, List.map_nil, List.take_succ_cons, List.take_zero, List.take_nil, List.nodup_nil, List.nodup_cons, List.not_mem_nil, List.mem_cons, List.length_cons, List.length_nil, Option.bind_some, Option.bind_none, Option.map_some, Option.map_none, Option.some_or, Option.none_or, Option.or_none, Nat.reduceAdd, Nat.reduceSub, if_true, if_false, ite_true, ite_false, reduceIte, Bool.false_eq_true, Bool.not_true, Bool.not_false, decide_true, decide_false, and_self, and_true, true_and, not_false_eq_true, not_true_eq_false, or_false, false_or, or_true, true_or, reduceCtorEq, forall_const, implies_true, Bool.true_and, Bool.and_true, Bool.false_and, Bool.and_false, Bool.or_true, Bool.or_false, Bool.true_or, Bool.false_or]
  · refine ⟨LS, ?_, by rw [if_neg h]; exact hL⟩
    simp only [i2S, h, p8, Nat.reduceLeDiff, Nat.reduceSub, cd_2, cd_3, cd_4, cd_5, cd_6, cd_7, cd_12, cd_20, cd_28, cd_60, cd_1000000, big, fEq_int, fNe_int, DL.atI_0, DL.atI_1, DL.atI_2, runF, runR, gVar, gC, DL.gNil, DL.gCons, gOp, gUn, fNeg, gTest, gTru, gChain, gIf, gAndV, gOrV, gNotV, bNot, bAnd, bOr, gCall, fCall, toSls, toSl, slotsOf, put, putL, sameKind, res, resA, gCB, fCB, gF, fLst, DL.gTup, allD, gRep, gSl, oNo, oInt, wipeR, restR, noL, fLc, bYes, fSumL, lists_map, cSorted, cSortSet, DL.ints_map, gIsi, noD, tyN, isiB, sNext, sSeq, sNever, sBreak, sCont, sExpr, sRet, sRetN, sRetF, sRetO, sIf, sFrz, frzAt, sSet, sSetO, sAsg, sPar, gtName, gtNil, gtCons, gtTup, gtLst, stay, iSeq, iTpl, iRange1_eq, iRange2_eq, rg1_2, rg1_3, rg1_4, iEnumD, iZipD, sFor, sApp, sPutIx, sAug, getL, frz, frz1, fLt_i, fLe_i, fGt_i, fGe_i, fIsN, fNotN, fAdd_i, fAdd_l, fSub_i, fMul_i, fDiv_i, fMod_i, fPow_i, fIx, fTru, cLen, cInt, List.getElem?_cons_zero, List.getElem?_cons_succ, List.getElem?_nil, List.set_cons_zero, List.set_cons_succ, List.set_nil, List.replicate, List.cons_append, List.nil_append, List.append_nil, List.map_cons, List.map_nil, List.take_succ_cons, List.take_zero, List.take_nil, List.nodup_nil, List.nodup_cons, List.not_mem_nil, List.mem_cons, List.length_cons, List.length_nil, Option.bind_some, Option.bind_none, Option.map_some, Option.map_none, Option.some_or, Option.none_or, Option.or_none, Nat.reduceAdd, Nat.reduceSub, if_true, if_false, ite_true, ite_false, reduceIte, Bool.false_eq_true, Bool.not_true, Bool.not_false, decide_true, decide_false, and_self, and_true, true_and, not_false_eq_true, not_true_eq_false, or_false, false_or, or_true, true_or, reduceCtorEq, forall_const, implies_true, Bool.true_and, Bool.and_true, Bool.false_and, Bool.and_false, Bool.or_true, Bool.or_false, Bool.true_or, Bool.false_or]
end
noncomputable def bnB : SF := sSeq n3S (sSeq a4S (sSeq i0S (sSeq i1S i2S)))
theorem n3_ev {m : Nat} {ds : List PyData} {s1 s2 s3 s4 s5 s6 : Sl} (hd : Dr (m + 1) ds) : ∃ (x : Int) (ds' : List PyData), n3S [.l true ds, s1, s2, s3, s4, s5, s6] = some (.nx [.l true ds', s1, s2, .v (.int x), s4, s5, s6]) ∧ 0 ≤ x ∧ Dr m ds' := by
  obtain ⟨x, ds1, e1, x0, _, hd1⟩ := e__law_next hd
  exact ⟨x, ds1, by simp only [n3S, e1, Nat.reduceLeDiff, Nat.reduceSub, cd_2, cd_3, cd_4, cd_5, cd_6, cd_7, cd_12, cd_20, cd_28, cd_60, cd_1000000, big, fEq_int, fNe_int, DL.atI_0, DL.atI_1, DL.atI_2, runF, runR, gVar, gC, DL.gNil, DL.gCons, gOp, gUn, fNeg, gTest, gTru, gChain, gIf, gAndV, gOrV, gNotV, bNot, bAnd, bOr, gCall, fCall, toSls, toSl, slotsOf, put, putL, sameKind, res, resA, gCB, fCB, gF, fLst, DL.gTup, allD, gRep, gSl, oNo, oInt, wipeR, restR, noL, fLc, bYes, fSumL, lists_map, cSorted, cSortSet, DL.ints_map, gIsi, noD, tyN, isiB, sNext, sSeq, sNever, sBreak, sCont, sExpr, sRet, sRetN, sRetF, sRetO, sIf, sFrz, frzAt, sSet, sSetO, sAsg, sPar, gtName, gtNil, gtCons, gtTup, gtLst, stay, iSeq, iTpl, iRange1_eq, iRange2_eq, rg1_2, rg1_3, rg1_4, iEnumD, iZipD, sFor, sApp, sPutIx, sAug, getL, frz, frz1, fLt_i, fLe_i, fGt_i, fGe_i, fIsN, fNotN, fAdd_i, fAdd_l, fSub_i, fMul_i, fDiv_i, fMod_i, fPow_i, fIx, fTru, cLen, cInt, List.getElem?_cons_zero, List.getElem?_cons_succ, List.getElem?_nil, List.set_cons_zero, List.set_cons_succ, List.set_nil, List.replicate, List.cons_append, List.nil_append, List.append_nil, List.map_cons, List.map_nil, List.take_succ_cons, List.take_zero, List.take_nil, List.nodup_nil, List.nodup_cons, List.not_mem_nil, List.mem_cons, List.length_cons, List.length_nil, Option.bind_some, Option.bind_none, Option.map_some, Option.map_none, Option.some_or, Option.none_or, Option.or_none, Nat.reduceAdd, Nat.reduceSub, if_true, if_false, ite_true, ite_false, reduceIte, Bool.false_eq_true, Bool.not_true, Bool.not_false, decide_true, decide_false, and_self, and_true, true_and, not_false_eq_true, not_true_eq_false, or_false, false_or, or_true, true_or, reduceCtorEq, forall_const, implies_true, Bool.true_and, Bool.and_true, Bool.false_and, Bool.and_false, Bool.or_true, Bool.or_false, Bool.true_or, Bool.false_or], x0, hd1⟩
theorem bn_step {c m : Nat} {ds : List PyData} {LS : List Str} {s2 s3 s4 s5 s6 : Sl} (hc : c ≤ 18) (hL : GL c LS) (hd : Dr (m + 1) ds) :
    ∃ (LS' : List Str) (ds' : List PyData) (s3' s4' : Sl), bnB [.l true ds, .v (.list (LS.map .str)), s2, s3, s4, s5, s6] = some (.nx [.l true ds', .v (.list (LS'.map .str)), s2, s3', s4', s5, s6]) ∧ GL (c + 1) LS' ∧ Dr m ds' := by
  obtain ⟨x, ds1, e1, x0, hd1⟩ := n3_ev (s1 := .v (.list (LS.map .str))) (s2 := s2) (s3 := s3) (s4 := s4) (s5 := s5) (s6 := s6) hd
  have pl : (0 : Int) < (LS.length : Nat) + 1 := by omega
  have r0 := Int.emod_nonneg (x / 8) (b := (LS.length : Nat) + 1) (by omega)
  obtain ⟨a, ha⟩ : ∃ a : Nat, x / 8 % ((LS.length : Nat) + 1) = (a : Int) := ⟨(x / 8 % ((LS.length : Nat) + 1)).toNat, by omega⟩
  have c8 : CDivW x 8 := ⟨by decide, by decide +kernel⟩
  have e2 : a4S [.l true ds1, .v (.list (LS.map .str)), s2, .v (.int x), s4, s5, s6] = some (.nx [.l true ds1, .v (.list (LS.map .str)), s2, .v (.int x), .v (.int (a : Nat)), s5, s6]) := by
    simp only [a4S, c8, pl, ha, List.length_map, Nat.reduceLeDiff, Nat.reduceSub, cd_2, cd_3, cd_4, cd_5, cd_6, cd_7, cd_12, cd_20, cd_28, cd_60, cd_1000000, big, fEq_int, fNe_int, DL.atI_0, DL.atI_1, DL.atI_2, runF, runR, gVar, gC, DL.gNil, DL.gCons, gOp, gUn, fNeg, gTest, gTru, gChain, gIf, gAndV, gOrV, gNotV, bNot, bAnd, bOr, gCall, fCall, toSls, toSl, slotsOf, put, putL, sameKind, res, resA, gCB, fCB, gF, fLst, DL.gTup, allD, gRep, gSl, oNo, oInt, wipeR, restR, noL, fLc, bYes, fSumL, lists_map, cSorted, cSortSet, DL.ints_map, gIsi, noD, tyN, isiB, sNext, sSeq, sNever, sBreak, sCont, sExpr, sRet, sRetN, sRetF, sRetO, sIf, sFrz, frzAt, sSet, sSetO, sAsg, sPar, gtName, gtNil, gtCons, gtTup, gtLst, stay, iSeq, iTpl, iRange1_eq, iRange2_eq, rg1_2, rg1_3, rg1_4, iEnumD, iZipD, sFor, sApp, sPutIx, sAug, getL, frz, frz1, fLt_i, fLe_i, fGt_i, fGe_i, fIsN, fNotN, fAdd_i, fAdd_l, fSub_i, fMul_i, fDiv_i, fMod_i, fPow_i, fIx, fTru, cLen, cInt, List.getElem?_cons_zero, List.getElem?_cons_succ, List.getElem?_nil, List.set_cons_zero, List.set_cons_succ, List.set_nil, List.replicate, List.cons_append, List.nil_append, List.append_nil, List.map_cons, List.map_nil, List.take_succ_cons, List.take_zero, List.take_nil, List.nodup_nil, List.nodup_cons, List.not_mem_nil, List.mem_cons, List.length_cons, List.length_nil, Option.bind_some, Option.bind_none, Option.map_some, Option.map_none, Option.some_or, Option.none_or, Option.or_none, Nat.reduceAdd, Nat.reduceSub, if_true, if_false, ite_true, ite_false, reduceIte, Bool.false_eq_true, Bool.not_true, Bool.not_false, decide_true, decide_false, and_self, and_true, true_and, not_false_eq_true, not_true_eq_false, or_false, false_or, or_true, true_or, reduceCtorEq, forall_const, implies_true, Bool.true_and, Bool.and_true, Bool.false_and, Bool.and_false, Bool.or_true, Bool.or_false, Bool.true_or, Bool.false_or]
  obtain ⟨LA, e3, hA⟩ := i0_ev (s0 := .l true ds1) (s2 := s2) (s5 := s5) (s6 := s6) (x := x) (a := a) (c := c) (by omega) hL
  obtain ⟨LB, e4, hB⟩ := i1_ev (s0 := .l true ds1) (s2 := s2) (s5 := s5) (s6 := s6) (x := x) (a := a) (c := c) (by omega) x0 hA
  obtain ⟨LC, e5, hC⟩ := i2_ev (s0 := .l true ds1) (s2 := s2) (s5 := s5) (s6 := s6) (x := x) (a := a) (c := if x % 8 = 1 then c + 1 else c) (by split <;> omega) hB
  refine ⟨LC, ds1, _, _, (b_seq e1).trans ((b_seq e2).trans ((b_seq e3).trans ((b_seq e4).trans e5))), ⟨?_, hC.2⟩, hd1⟩
  have := hC.1
  by_cases h1 : x % 8 = 1
  · rw [if_pos h1, if_neg (by omega)] at this
    exact this
  · rw [if_neg h1] at this
    split at this <;> omega
end Lw
set_option maxHeartbeats 2000000
namespace Lw
open PySem PySem.Spec PyProof.Rows L2 DL TL
noncomputable def r2S : SF := (sFor (iRange1 (DL.gCons (gOp fMod (gCB cInt (DL.gCons (gCall F__law_next (DL.gCons (gVar 0) DL.gNil)) DL.gNil)) (gC (.int 3))) DL.gNil)) (gtName 2) bnB)
theorem r2_ev {m : Nat} {ds : List PyData} {LS : List Str} (hL : GL 12 LS) (hd : Dr (m + 3) ds) :
    ∃ (LS' : List Str) (ds' : List PyData) (s2' s3' s4' : Sl), r2S [.l true ds, .v (.list (LS.map .str)), .un, .un, .un, .un, .un] = some (.nx [.l true ds', .v (.list (LS'.map .str)), s2', s3', s4', .un, .un]) ∧ GL 14 LS' ∧ Dr m ds' := by
  obtain ⟨x, ds1, e1, x0, _, hd1⟩ := e__law_next (m := m + 2) hd
  obtain ⟨k, hk, hk2⟩ : ∃ k : Nat, x % 3 = (k : Int) ∧ k ≤ 2 := ⟨(x % 3).toNat, by omega, by omega⟩
  have ln : (rngD 0 k).length = k := by rw [rngD_zero, List.length_map, List.length_range]
  obtain ⟨ρ', e, LS', ds2, s2', s3', s4', rfl, h2, h3⟩ := for_inv (t := gtName 2) (b := bnB) (ds := rngD 0 k) (ρ := [.l true ds1, .v (.list (LS.map .str)), .un, .un, .un, .un, .un])
    (I := fun i ρ => ∃ (LS : List Str) (ds : List PyData) (s2 s3 s4 : Sl), ρ = [.l true ds, .v (.list (LS.map .str)), s2, s3, s4, .un, .un] ∧ GL (12 + i) LS ∧ Dr (m + (2 - i)) ds)
    ⟨LS, ds1, _, _, _, rfl, hL, hd1⟩ fun i d ρ hi ⟨LS, ds, s2, s3, s4, hρ, hL, hd⟩ => by
      subst hρ
      have hin : i < k := by
        have := (List.getElem?_eq_some_iff.mp hi).1
        omega
      obtain ⟨LS', ds', s3', s4', e3, hL', hd'⟩ := bn_step (m := m + (2 - (i + 1))) (c := 12 + i) (s2 := .v d) (s3 := s3) (s4 := s4) (s5 := .un) (s6 := .un) (by omega) hL (hd.mono (by omega))
      exact ⟨[.l true ds, .v (.list (LS.map .str)), .v d, s3, s4, .un, .un], _, rfl, .inl e3, LS', ds', _, _, _, rfl, hL', hd'⟩
  rw [ln] at h2
  have p3 : (0 : Int) < 3 := by decide
  have rg := @rg1_nat k (by omega)
  refine ⟨LS', ds2, s2', s3', s4', ?_, ⟨by have := h2.1; omega, h2.2⟩, h3.mono (by omega)⟩
  simp only [r2S, e1, hk, p3, rg, e, Nat.reduceLeDiff, Nat.reduceSub, cd_2, cd_3, cd_4, cd_5, cd_6, cd_7, cd_12, cd_20, cd_28, cd_60, cd_1000000, big, fEq_int, fNe_int, DL.atI_0, DL.atI_1, DL.atI_2, runF, runR, gVar, gC, DL.gNil, DL.gCons, gOp, gUn, fNeg, gTest, gTru, gChain, gIf, gAndV, gOrV, gNotV, bNot, bAnd, bOr, gCall, fCall, toSls, toSl, slotsOf, put, putL, sameKind, res, resA, gCB, fCB, gF, fLst, DL.gTup, allD, gRep, gSl, oNo, oInt, wipeR, restR, noL, fLc, bYes, fSumL, lists_map, cSorted, cSortSet, DL.ints_map, gIsi, noD, tyN, isiB, sNext, sSeq, sNever, sBreak, sCont, sExpr, sRet, sRetN, sRetF, sRetO, sIf, sFrz, frzAt, sSet, sSetO, sAsg, sPar, gtName, gtNil, gtCons, gtTup, gtLst, stay, iSeq, iTpl, iRange1_eq, iRange2_eq, rg1_2, rg1_3, rg1_4, iEnumD, iZipD, sFor, sApp, sPutIx, sAug, getL, frz, frz1, fLt_i, fLe_i, fGt_i, fGe_i, fIsN, fNotN, fAdd_i, fAdd_l, fSub_i, fMul_i, fDiv_i, fMod_i, fPow_i, fIx, fTru, cLen, cInt, List.getElem?_cons_zero, List.getElem?_cons_succ, List.getElem?_nil, List.set_cons_zero, List.set_cons_succ, List.set_nil, List.replicate, List.cons_append, List.nil_append, List.append_nil, List.map_cons, List.map_nil, List.take_succ_cons, List.take_zero, List.take_nil, List.nodup_nil, List.nodup_cons, List.not_mem_nil, List.mem_cons, List.length_cons, List.length_nil, Option.bind_some, Option.bind_none, Option.map_some, Option.map_none, Option.some_or, Option.none_or, Option.or_none, Nat.reduceAdd, Nat.reduceSub, if_true, if_false, ite_true, ite_false, reduceIte, Bool.false_eq_true, Bool.not_true, Bool.not_false, decide_true, decide_false, and_self, and_true, true_and, not_false_eq_true, not_true_eq_false, or_false, false_or, or_true, true_or, reduceCtorEq, forall_const, implies_true, Bool.true_and, Bool.and_true, Bool.false_and, Bool.and_false, Bool.or_true, Bool.or_false, Bool.true_or, Bool.false_or]
noncomputable def r5S : SF := (sSet 5 (gJoin (gC (.str "\n")) (gVar 1)))
theorem sum_le {c : Nat} : ∀ LS : List Str, (∀ s ∈ LS, s.length ≤ c) → (LS.map (·.length)).sum ≤ LS.length * c
  | [], _ => by simp
  | s :: r, h => by
    have ih := sum_le r fun x hx => h x (List.mem_cons_of_mem _ hx)
    have := h s List.mem_cons_self
    simp only [List.map_cons, List.sum_cons, List.length_cons, Nat.add_mul]
    omega
theorem r5_ev {LS : List Str} {s0 s2 s3 s4 : Sl} (hL : GL 14 LS) : ∃ T : Str, r5S [s0, .v (.list (LS.map .str)), s2, s3, s4, .un, .un] = some (.nx [s0, .v (.list (LS.map .str)), s2, s3, s4, .v (.str T), .un]) ∧ T.length ≤ 196 := by
  have sm := sum_le LS hL.2
  have hz := hL.1
  have l1 : ((("\n" : String) : Str)).length = 1 := by decide +kernel
  have hm : LS.length * 13 ≤ 14 * 13 := Nat.mul_le_mul_right _ hz
  refine ⟨Txt.join "\n" LS, ?_, ?_⟩
  · have q : (LS.map (·.length)).sum + LS.length * ((("\n" : String) : Str)).length ≤ 16777216 := by rw [l1]; omega
    simp only [r5S, gJoin, DL.strs_map, q, Nat.reduceLeDiff, Nat.reduceSub, cd_2, cd_3, cd_4, cd_5, cd_6, cd_7, cd_12, cd_20, cd_28, cd_60, cd_1000000, big, fEq_int, fNe_int, DL.atI_0, DL.atI_1, DL.atI_2, runF, runR, gVar, gC, DL.gNil, DL.gCons, gOp, gUn, fNeg, gTest, gTru, gChain, gIf, gAndV, gOrV, gNotV, bNot, bAnd, bOr, gCall, fCall, toSls, toSl, slotsOf, put, putL, sameKind, res, resA, gCB, fCB, gF, fLst, DL.gTup, allD, gRep, gSl, oNo, oInt, wipeR, restR, noL, fLc, bYes, fSumL, lists_map, cSorted, cSortSet, DL.ints_map, gIsi, noD, tyN, isiB, sNext, sSeq, sNever, sBreak, sCont, sExpr, sRet, sRetN, sRetF, sRetO, sIf, sFrz, frzAt, sSet, sSetO, sAsg, sPar, gtName, gtNil, gtCons, gtTup, gtLst, stay, iSeq, iTpl, iRange1_eq, iRange2_eq, rg1_2, rg1_3, rg1_4, iEnumD, iZipD, sFor, sApp, sPutIx, sAug, getL, frz, frz1, fLt_i, fLe_i, fGt_i, fGe_i, fIsN, fNotN, fAdd_i, fAdd_l, fSub_i, fMul_i, fDiv_i, fMod_i, fPow_i, fIx, fTru, cLen, cInt, List.getElem?_cons_zero, List.getElem?_cons_succ, List.getElem?_nil, List.set_cons_zero, List.set_cons_succ, List.set_nil, List.replicate, List.cons_append, List.nil_append, List.append_nil, List.map_cons, List.map_nil, List.take_succ_cons, List.take_zero, List.take_nil, List.nodup_nil, List.nodup_cons, List.not_mem_nil, List.mem_cons, List.length_cons, List.length_nil, Option.bind_some, Option.bind_none, Option.map_some, Option.map_none, Option.some_or, Option.none_or, Option.or_none, Nat.reduceAdd, Nat.reduceSub, if_true, if_false, ite_true, ite_false, reduceIte, Bool.false_eq_true, Bool.not_true, Bool.not_false, decide_true, decide_false, and_self, and_true, true_and, not_false_eq_true, not_true_eq_false, or_false, false_or, or_true, true_or, reduceCtorEq, forall_const, implies_true, Bool.true_and, Bool.and_true, Bool.false_and, Bool.and_false, Bool.or_true, Bool.or_false, Bool.true_or, Bool.false_or]
  · have := StrLaws.join_length_le "\n" LS
    rw [join_eq]
    rw [l1] at this
    omega
noncomputable def n4S : SF := (sSet 4 (gOp fMod (gCB cInt (DL.gCons (gOp fDiv (gVar 3) (gC (.int 4))) DL.gNil)) (gOp fAdd (gCB cLen (DL.gCons (gVar 5) DL.gNil)) (gC (.int 1)))))
noncomputable def t0S : SF := (sIf (gTest (gOp fEq (gOp fMod (gCB cInt (DL.gCons (gVar 3) DL.gNil)) (gC (.int 4))) (gC (.int 0)))) (sSeq (sSet 6 (gOp fIx (gF (fLst (DL.gCons (gC (.str " ")) (DL.gCons (gC (.str "\n")) (DL.gCons (gC (.str "0")) (DL.gCons (gC (.str "-")) (DL.gCons (gC (.str "x")) (DL.gCons (gC (.str "f")) (DL.gCons (gC (.str "+")) (DL.gCons (gC (.str "_")) (DL.gCons (gC (.str ":")) (DL.gCons (gC (.str "/")) DL.gNil)))))))))))) (gOp fMod (gCB cInt (DL.gCons (gOp fDiv (gVar 3) (gC (.int 64))) DL.gNil)) (gC (.int 10)))))
  (sSet 5 (gOp fAdd (gOp fAdd (gSl (gVar 5) oNo (oInt (gVar 4))) (gVar 6)) (gSl (gVar 5) (oInt (gVar 4)) oNo)))) sNext)
noncomputable def t1S : SF := (sIf (gTest (gOp fEq (gOp fMod (gCB cInt (DL.gCons (gVar 3) DL.gNil)) (gC (.int 4))) (gC (.int 1)))) (sSet 5 (gOp fAdd (gSl (gVar 5) oNo (oInt (gVar 4))) (gSl (gVar 5) (oInt (gOp fAdd (gVar 4) (gC (.int 1)))) oNo))) sNext)
noncomputable def rtS : SF := (sRet (gOp fEqX (gRepD (gCall F__law_told (DL.gCons (gVar 5) DL.gNil))) (gRepD (gCall F__law_due (DL.gCons (gVar 5) DL.gNil)))))
theorem right_eq : g__law_right = sSeq r1S (sSeq r2S (sSeq r5S (sSeq n3S (sSeq n4S (sSeq t0S (sSeq t1S rtS)))))) := rfl
def sgL : List Str := [" ", "\n", "0", "-", "x", "f", "+", "_", ":", "/"]
theorem sgL_le : ∀ s ∈ sgL, s.length ≤ 1 := by decide +kernel
section
variable {s0 s1 s2 s6 : Sl} {x : Int} {a : Nat} {T : Str}
theorem n4_ev {s4 : Sl} (hT : T.length ≤ 196) (x0 : 0 ≤ x) : ∃ a : Nat, n4S [s0, s1, s2, .v (.int x), s4, .v (.str T), s6] = some (.nx [s0, s1, s2, .v (.int x), .v (.int (a : Nat)), .v (.str T), s6]) := by
  have pl : (0 : Int) < (T.length : Nat) + 1 := by omega
  have r0 := Int.emod_nonneg (x / 4) (b := (T.length : Nat) + 1) (by omega)
  obtain ⟨a, ha⟩ : ∃ a : Nat, x / 4 % ((T.length : Nat) + 1) = (a : Int) := ⟨(x / 4 % ((T.length : Nat) + 1)).toNat, by omega⟩
  have c4 : CDivW x 4 := ⟨by decide, by decide +kernel⟩
  have q : T.length ≤ 1000000 := by omega
  exact ⟨a, by simp only [n4S, c4, pl, ha, q, Nat.reduceLeDiff, Nat.reduceSub, cd_2, cd_3, cd_4, cd_5, cd_6, cd_7, cd_12, cd_20, cd_28, cd_60, cd_1000000, big, fEq_int, fNe_int, DL.atI_0, DL.atI_1, DL.atI_2, runF, runR, gVar, gC, DL.gNil, DL.gCons, gOp, gUn, fNeg, gTest, gTru, gChain, gIf, gAndV, gOrV, gNotV, bNot, bAnd, bOr, gCall, fCall, toSls, toSl, slotsOf, put, putL, sameKind, res, resA, gCB, fCB, gF, fLst, DL.gTup, allD, gRep, gSl, oNo, oInt, wipeR, restR, noL, fLc, bYes, fSumL, lists_map, cSorted, cSortSet, DL.ints_map, gIsi, noD, tyN, isiB, sNext, sSeq, sNever, sBreak, sCont, sExpr, sRet, sRetN, sRetF, sRetO, sIf, sFrz, frzAt, sSet, sSetO, sAsg, sPar, gtName, gtNil, gtCons, gtTup, gtLst, stay, iSeq, iTpl, iRange1_eq, iRange2_eq, rg1_2, rg1_3, rg1_4, iEnumD, iZipD, sFor, sApp, sPutIx, sAug, getL, frz, frz1, fLt_i, fLe_i, fGt_i, fGe_i, fIsN, fNotN, fAdd_i, fAdd_l, fSub_i, fMul_i, fDiv_i, fMod_i, fPow_i, fIx, fTru, cLen, cInt, List.getElem?_cons_zero, List.getElem?_cons_succ, List.getElem?_nil, List.set_cons_zero, List.set_cons_succ, List.set_nil, List.replicate, List.cons_append, List.nil_append, List.append_nil, List.map_cons, List.map_nil, List.take_succ_cons, List.take_zero, List.take_nil, List.nodup_nil, List.nodup_cons, List.not_mem_nil, List.mem_cons, List.length_cons, List.length_nil, Option.bind_some, Option.bind_none, Option.map_some, Option.map_none, Option.some_or, Option.none_or, Option.or_none, Nat.reduceAdd, Nat.reduceSub, if_true, if_false, ite_true, ite_false, reduceIte, Bool.false_eq_true, Bool.not_true, Bool.not_false, decide_true, decide_false, and_self, and_true, true_and, not_false_eq_true, not_true_eq_false, or_false, false_or, or_true, true_or, reduceCtorEq, forall_const, implies_true, Bool.true_and, Bool.and_true, Bool.false_and, Bool.and_false, Bool.or_true, Bool.or_false, Bool.true_or, Bool.false_or]⟩
theorem sl_t {lo hi : Option Int} (hT : T.length ≤ 1000000) : fSl (.str T) lo hi = some (.str (cutS T lo hi)) := by
  show (if T.length ≤ big then _ else none) = _
  rw [if_pos hT]
theorem t0_ev (hT : T.length ≤ 196) (x0 : 0 ≤ x) (h4 : x % 4 = 0) : ∃ (T' : Str) (s6' : Sl), t0S [s0, s1, s2, .v (.int x), .v (.int (a : Nat)), .v (.str T), s6] = some (.nx [s0, s1, s2, .v (.int x), .v (.int (a : Nat)), .v (.str T'), s6']) ∧ T'.length ≤ 396 := by
  have p4 : (0 : Int) < 4 := by decide
  have p10 : (0 : Int) < 10 := by decide
  have h0 := Int.emod_nonneg (x / 64) (b := 10) (by omega)
  have h1 := Int.emod_lt_of_pos (x / 64) (b := 10) (by omega)
  obtain ⟨s, e, hl⟩ := str_at (L := sgL) sgL_le h0 h1
  simp only [sgL, List.map_cons, List.map_nil] at e
  have c64 : CDivW x 64 := ⟨by decide, by decide +kernel⟩
  have hT6 : T.length ≤ 1000000 := by omega
  have k1 := cutS_length T none (some (a : Int))
  have k2 := cutS_length T (some (a : Int)) none
  have f1 : fAdd (.str (cutS T none (some (a : Int)))) (.str s) = some (.str (cutS T none (some (a : Int)) ++ s)) := by
    rw [fAdd_s, if_pos (by show _ ≤ 1000000; omega)]
  have f2 : fAdd (.str (cutS T none (some (a : Int)) ++ s)) (.str (cutS T (some (a : Int)) none)) = some (.str (cutS T none (some (a : Int)) ++ s ++ cutS T (some (a : Int)) none)) := by
    rw [fAdd_s, if_pos (by rw [lenS]; show _ ≤ 1000000; omega)]
  refine ⟨cutS T none (some (a : Int)) ++ s ++ cutS T (some (a : Int)) none, .v (.str s), ?_, ?_⟩
  · simp only [t0S, h4, p4, p10, c64, e, sl_t hT6, f1, f2, Nat.reduceLeDiff, Nat.reduceSub, cd_2, cd_3, cd_4, cd_5, cd_6, cd_7, cd_12, cd_20, cd_28, cd_60, cd_1000000, big, fEq_int, fNe_int, DL.atI_0, DL.atI_1, DL.atI_2, runF, runR, gVar, gC, DL.gNil, DL.gCons, gOp, gUn, fNeg, gTest, gTru, gChain, gIf, gAndV, gOrV, gNotV, bNot, bAnd, bOr, gCall, fCall, toSls, toSl, slotsOf, put, putL, sameKind, res, resA, gCB, fCB, gF, fLst, DL.gTup, allD, gRep, gSl, oNo, oInt, wipeR, restR, noL, fLc, bYes, fSumL, lists_map, cSorted, cSortSet, DL.ints_map, gIsi, noD, tyN, isiB, sNext, sSeq, sNever, sBreak, sCont, sExpr, sRet, sRetN, sRetF, sRetO, sIf, sFrz, frzAt, sSet, sSetO, sAsg, sPar, gtName, gtNil, gtCons, gtTup, gtLst, stay, iSeq, iTpl, iRange1_eq, iRange2_eq, rg1_2, rg1_3, rg1_4, iEnumD, iZipD, sFor, sApp, sPutIx, sAug, getL, frz, frz1, fLt_i, fLe_i, fGt_i, fGe_i, fIsN, fNotN, fAdd_i, fAdd_l, fSub_i, fMul_i, fDiv_i, fMod_i, fPow_i, fIx, fTru, cLen, cInt, List.getElem?_cons_zero, List.getElem?_cons_succ, List.getElem?_nil, List.set_cons_zero, List.set_cons_succ, List.set_nil, List.replicate, List.cons_append, List.nil_append, List.append_nil, List.map_cons, List.map_nil, List.take_succ_cons, List.take_zero, List.take_nil, List.nodup_nil, List.nodup_cons, List.not_mem_nil, List.mem_cons, List.length_cons, List.length_nil, Option.bind_some, Option.bind_none, Option.map_some, Option.map_none, Option.some_or, Option.none_or, Option.or_none, Nat.reduceAdd, Nat.reduceSub, if_true, if_false, ite_true, ite_false, reduceIte, Bool.false_eq_true, Bool.not_true, Bool.not_false, decide_true, decide_false, and_self, and_true, true_and, not_false_eq_true, not_true_eq_false, or_false, false_or, or_true, true_or, reduceCtorEq, forall_const, implies_true, Bool.true_and, Bool.and_true, Bool.false_and, Bool.and_false, Bool.or_true, Bool.or_false, Bool.true_or, Bool.false_or]
  · rw [lenS, lenS]; omega
theorem t0_no (h4 : ¬ x % 4 = 0) : t0S [s0, s1, s2, .v (.int x), .v (.int (a : Nat)), .v (.str T), s6] = some (.nx [s0, s1, s2, .v (.int x), .v (.int (a : Nat)), .v (.str T), s6]) := by
  have p4 : (0 : Int) < 4 := by decide
  simp only [t0S, h4, p4, Nat.reduceLeDiff, Nat.reduceSub, cd_2, cd_3, cd_4, cd_5, cd_6, cd_7, cd_12, cd_20, cd_28, cd_60, cd_1000000, big, fEq_int, fNe_int, DL.atI_0, DL.atI_1, DL.atI_2, runF, runR, gVar, gC, DL.gNil, DL.gCons, gOp, gUn, fNeg, gTest, gTru, gChain, gIf, gAndV, gOrV, gNotV, bNot, bAnd, bOr, gCall, fCall, toSls, toSl, slotsOf, put, putL, sameKind, res, resA, gCB, fCB, gF, fLst, DL.gTup, allD, gRep, gSl, oNo, oInt, wipeR, restR, noL, fLc, bYes, fSumL, lists_map, cSorted, cSortSet, DL.ints_map, gIsi, noD, tyN, isiB, sNext, sSeq, sNever, sBreak, sCont, sExpr, sRet, sRetN, sRetF, sRetO, sIf, sFrz, frzAt, sSet, sSetO, sAsg, sPar, gtName, gtNil, gtCons, gtTup, gtLst, stay, iSeq, iTpl, iRange1_eq, iRange2_eq, rg1_2, rg1_3, rg1_4, iEnumD, iZipD, sFor, sApp, sPutIx, sAug, getL, frz, frz1, fLt_i, fLe_i, fGt_i, fGe_i, fIsN, fNotN, fAdd_i, fAdd_l, fSub_i, fMul_i, fDiv_i, fMod_i, fPow_i, fIx, fTru, cLen, cInt, List.getElem?_cons_zero, List.getElem?_cons_succ, List.getElem?_nil, List.set_cons_zero, List.set_cons_succ, List.set_nil, List.replicate, List.cons_append, List.nil_append, List.append_nil, List.map_cons, List.map_nil, List.take_succ_cons, List.take_zero, List.take_nil, List.nodup_nil, List.nodup_cons, List.not_mem_nil, List.mem_cons, List.length_cons, List.length_nil, Option.bind_some, Option.bind_none, Option.map_some, Option.map_none, Option.some_or, Option.none_or, Option.or_none, Nat.reduceAdd, Nat.reduceSub, if_true, if_false, ite_true, ite_false, reduceIte, Bool.false_eq_true, Bool.not_true, Bool.not_false, decide_true, decide_false, and_self, and_true, true_and, not_false_eq_true, not_true_eq_false, or_false, false_or, or_true, true_or, reduceCtorEq, forall_const, implies_true, Bool.true_and, Bool.and_true, Bool.false_and, Bool.and_false, Bool.or_true, Bool.or_false, Bool.true_or, Bool.false_or]
theorem t1_no (h4 : ¬ x % 4 = 1) : t1S [s0, s1, s2, .v (.int x), .v (.int (a : Nat)), .v (.str T), s6] = some (.nx [s0, s1, s2, .v (.int x), .v (.int (a : Nat)), .v (.str T), s6]) := by
  have p4 : (0 : Int) < 4 := by decide
  simp only [t1S, h4, p4, Nat.reduceLeDiff, Nat.reduceSub, cd_2, cd_3, cd_4, cd_5, cd_6, cd_7, cd_12, cd_20, cd_28, cd_60, cd_1000000, big, fEq_int, fNe_int, DL.atI_0, DL.atI_1, DL.atI_2, runF, runR, gVar, gC, DL.gNil, DL.gCons, gOp, gUn, fNeg, gTest, gTru, gChain, gIf, gAndV, gOrV, gNotV, bNot, bAnd, bOr, gCall, fCall, toSls, toSl, slotsOf, put, putL, sameKind, res, resA, gCB, fCB, gF, fLst, DL.gTup, allD, gRep, gSl, oNo, oInt, wipeR, restR, noL, fLc, bYes, fSumL, lists_map, cSorted, cSortSet, DL.ints_map, gIsi, noD, tyN, isiB, sNext, sSeq, sNever, sBreak, sCont, sExpr, sRet, sRetN, sRetF, sRetO, sIf, sFrz, frzAt, sSet, sSetO, sAsg, sPar, gtName, gtNil, gtCons, gtTup, gtLst, stay, iSeq, iTpl, iRange1_eq, iRange2_eq, rg1_2, rg1_3, rg1_4, iEnumD, iZipD, sFor, sApp, sPutIx, sAug, getL, frz, frz1, fLt_i, fLe_i, fGt_i, fGe_i, fIsN, fNotN, fAdd_i, fAdd_l, fSub_i, fMul_i, fDiv_i, fMod_i, fPow_i, fIx, fTru, cLen, cInt, List.getElem?_cons_zero, List.getElem?_cons_succ, List.getElem?_nil, List.set_cons_zero, List.set_cons_succ, List.set_nil, List.replicate, List.cons_append, List.nil_append, List.append_nil, List.map_cons, List.map_nil, List.take_succ_cons, List.take_zero, List.take_nil, List.nodup_nil, List.nodup_cons, List.not_mem_nil, List.mem_cons, List.length_cons, List.length_nil, Option.bind_some, Option.bind_none, Option.map_some, Option.map_none, Option.some_or, Option.none_or, Option.or_none, Nat.reduceAdd, Nat.reduceSub, if_true, if_false, ite_true, ite_false, reduceIte, Bool.false_eq_true, Bool.not_true, Bool.not_false, decide_true, decide_false, and_self, and_true, true_and, not_false_eq_true, not_true_eq_false, or_false, false_or, or_true, true_or, reduceCtorEq, forall_const, implies_true, Bool.true_and, Bool.and_true, Bool.false_and, Bool.and_false, Bool.or_true, Bool.or_false, Bool.true_or, Bool.false_or]
theorem t1_ev (hT : T.length ≤ 196) (h4 : x % 4 = 1) : ∃ (T' : Str), t1S [s0, s1, s2, .v (.int x), .v (.int (a : Nat)), .v (.str T), s6] = some (.nx [s0, s1, s2, .v (.int x), .v (.int (a : Nat)), .v (.str T'), s6]) ∧ T'.length ≤ 396 := by
  have p4 : (0 : Int) < 4 := by decide
  have hT6 : T.length ≤ 1000000 := by omega
  have k1 := cutS_length T none (some (a : Int))
  have k2 := cutS_length T (some ((a : Int) + 1)) none
  have f1 : fAdd (.str (cutS T none (some (a : Int)))) (.str (cutS T (some ((a : Int) + 1)) none)) = some (.str (cutS T none (some (a : Int)) ++ cutS T (some ((a : Int) + 1)) none)) := by
    rw [fAdd_s, if_pos (by show _ ≤ 1000000; omega)]
  refine ⟨cutS T none (some (a : Int)) ++ cutS T (some ((a : Int) + 1)) none, ?_, ?_⟩
  · simp only [t1S, h4, p4, sl_t hT6, f1, Nat.reduceLeDiff, Nat.reduceSub, cd_2, cd_3, cd_4, cd_5, cd_6, cd_7, cd_12, cd_20, cd_28, cd_60, cd_1000000, big, fEq_int, fNe_int, DL.atI_0, DL.atI_1, DL.atI_2, runF, runR, gVar, gC, DL.gNil, DL.gCons, gOp, gUn, fNeg, gTest, gTru, gChain, gIf, gAndV, gOrV, gNotV, bNot, bAnd, bOr, gCall, fCall, toSls, toSl, slotsOf, put, putL, sameKind, res, resA, gCB, fCB, gF, fLst, DL.gTup, allD, gRep, gSl, oNo, oInt, wipeR, restR, noL, fLc, bYes, fSumL, lists_map, cSorted, cSortSet, DL.ints_map, gIsi, noD, tyN, isiB, sNext, sSeq, sNever, sBreak, sCont, sExpr, sRet, sRetN, sRetF, sRetO, sIf, sFrz, frzAt, sSet, sSetO, sAsg, sPar, gtName, gtNil, gtCons, gtTup, gtLst, stay, iSeq, iTpl, iRange1_eq, iRange2_eq, rg1_2, rg1_3, rg1_4, iEnumD, iZipD, sFor, sApp, sPutIx, sAug, getL, frz, frz1, fLt_i, fLe_i, fGt_i, fGe_i, fIsN, fNotN, fAdd_i, fAdd_l, fSub_i, fMul_i, fDiv_i, fMod_i, fPow_i, fIx, fTru, cLen, cInt, List.getElem?_cons_zero, List.getElem?_cons_succ, List.getElem?_nil, List.set_cons_zero, List.set_cons_succ, List.set_nil, List.replicate, List.cons_append, List.nil_append, List.append_nil, List.map_cons, List.map_nil, List.take_succ_cons, List.take_zero, List.take_nil, List.nodup_nil, List.nodup_cons, List.not_mem_nil, List.mem_cons, List.length_cons, List.length_nil, Option.bind_some, Option.bind_none, Option.map_some, Option.map_none, Option.some_or, Option.none_or, Option.or_none, Nat.reduceAdd, Nat.reduceSub, if_true, if_false, ite_true, ite_false, reduceIte, Bool.false_eq_true, Bool.not_true, Bool.not_false, decide_true, decide_false, and_self, and_true, true_and, not_false_eq_true, not_true_eq_false, or_false, false_or, or_true, true_or, reduceCtorEq, forall_const, implies_true, Bool.true_and, Bool.and_true, Bool.false_and, Bool.and_false, Bool.or_true, Bool.or_false, Bool.true_or, Bool.false_or]
  · rw [lenS]; omega
theorem rt_ev {ds : List PyData} {s3 s4 : Sl} (hT : T.length ≤ 396) : ∃ ρ', rtS [.l true ds, s1, s2, s3, s4, .v (.str T), s6] = some (.rt (.bool true) (.l true ds :: ρ')) := by
  have e1 := e__law_told (t := T) (by omega)
  have e2 := e__law_due (t := T) (by omega)
  have sb := out_show hT
  have n := fEqX_self (PyData.list (outR (readT T))).shown
  generalize outR (readT T) = O at *
  exact ⟨_, by simp only [rtS, gRepD, e1, e2, sb, n, Nat.reduceLeDiff, Nat.reduceSub, cd_2, cd_3, cd_4, cd_5, cd_6, cd_7, cd_12, cd_20, cd_28, cd_60, cd_1000000, big, fEq_int, fNe_int, DL.atI_0, DL.atI_1, DL.atI_2, runF, runR, gVar, gC, DL.gNil, DL.gCons, gOp, gUn, fNeg, gTest, gTru, gChain, gIf, gAndV, gOrV, gNotV, bNot, bAnd, bOr, gCall, fCall, toSls, toSl, slotsOf, put, putL, sameKind, res, resA, gCB, fCB, gF, fLst, DL.gTup, allD, gRep, gSl, oNo, oInt, wipeR, restR, noL, fLc, bYes, fSumL, lists_map, cSorted, cSortSet, DL.ints_map, gIsi, noD, tyN, isiB, sNext, sSeq, sNever, sBreak, sCont, sExpr, sRet, sRetN, sRetF, sRetO, sIf, sFrz, frzAt, sSet, sSetO, sAsg, sPar, gtName, gtNil, gtCons, gtTup, gtLst, stay, iSeq, iTpl, iRange1_eq, iRange2_eq, rg1_2, rg1_3, rg1_4, iEnumD, iZipD, sFor, sApp, sPutIx, sAug, getL, frz, frz1, fLt_i, fLe_i, fGt_i, fGe_i, fIsN, fNotN, fAdd_i, fAdd_l, fSub_i, fMul_i, fDiv_i, fMod_i, fPow_i, fIx, fTru, cLen, cInt, List.getElem?_cons_zero, List.getElem?_cons_succ, List.getElem?_nil, List.set_cons_zero, List.set_cons_succ, List.set_nil, List.replicate, List.cons_append, List.nil_append, List.append_nil, List.map_cons, List.map_nil, List.take_succ_cons, List.take_zero, List.take_nil, List.nodup_nil, List.nodup_cons, List.not_mem_nil, List.mem_cons, List.length_cons, List.length_nil, Option.bind_some, Option.bind_none, Option.map_some, Option.map_none, Option.some_or, Option.none_or, Option.or_none, Nat.reduceAdd, Nat.reduceSub, if_true, if_false, ite_true, ite_false, reduceIte, Bool.false_eq_true, Bool.not_true, Bool.not_false, decide_true, decide_false, and_self, and_true, true_and, not_false_eq_true, not_true_eq_false, or_false, false_or, or_true, true_or, reduceCtorEq, forall_const, implies_true, Bool.true_and, Bool.and_true, Bool.false_and, Bool.and_false, Bool.or_true, Bool.or_false, Bool.true_or, Bool.false_or]; rfl⟩
end
theorem tail_ev {ds : List PyData} {s1 s2 s4 s6 : Sl} {x : Int} {T : Str} (hT : T.length ≤ 196) (x0 : 0 ≤ x) : ∃ ρ', (sSeq n4S (sSeq t0S (sSeq t1S rtS))) [.l true ds, s1, s2, .v (.int x), s4, .v (.str T), s6] = some (.rt (.bool true) (.l true ds :: ρ')) := by
  obtain ⟨a, e1⟩ := n4_ev (s0 := .l true ds) (s1 := s1) (s2 := s2) (s4 := s4) (s6 := s6) hT x0
  by_cases h0 : x % 4 = 0
  · obtain ⟨T', s6', e2, hT'⟩ := t0_ev (s0 := .l true ds) (s1 := s1) (s2 := s2) (s6 := s6) (a := a) hT x0 h0
    obtain ⟨ρ', e4⟩ := rt_ev (ds := ds) (s1 := s1) (s2 := s2) (s3 := .v (.int x)) (s4 := .v (.int (a : Nat))) (s6 := s6') hT'
    exact ⟨_, (b_seq e1).trans ((b_seq e2).trans ((b_seq (t1_no (by omega))).trans e4))⟩
  · by_cases h1 : x % 4 = 1
    · obtain ⟨T', e3, hT'⟩ := t1_ev (s0 := .l true ds) (s1 := s1) (s2 := s2) (s6 := s6) (a := a) hT h1
      obtain ⟨ρ', e4⟩ := rt_ev (ds := ds) (s1 := s1) (s2 := s2) (s3 := .v (.int x)) (s4 := .v (.int (a : Nat))) (s6 := s6) hT'
      exact ⟨_, (b_seq e1).trans ((b_seq (t0_no h0)).trans ((b_seq e3).trans e4))⟩
    · obtain ⟨ρ', e4⟩ := rt_ev (ds := ds) (s1 := s1) (s2 := s2) (s3 := .v (.int x)) (s4 := .v (.int (a : Nat))) (s6 := s6) (T := T) (by omega)
      exact ⟨_, (b_seq e1).trans ((b_seq (t0_no h0)).trans ((b_seq (t1_no h1)).trans e4))⟩
theorem e__law_right {m : Nat} {ds : List PyData} (hd : Dr (m + 17) ds) : ∃ ds', F__law_right [.l true ds] = some (.bool true, [.l true ds']) ∧ Dr m ds' := by
  obtain ⟨LS, ds1, e1, l1, l2, hd1⟩ := r1_ev (m := m + 4) hd
  obtain ⟨LS2, ds2, s2, s3, s4, e2, hL2, hd2⟩ := r2_ev (m := m + 1) ⟨l1, l2⟩ hd1
  obtain ⟨T, e3, hT⟩ := r5_ev (s0 := .l true ds2) (s2 := s2) (s3 := s3) (s4 := s4) hL2
  obtain ⟨x, ds3, e4, x0, hd3⟩ := n3_ev (s1 := .v (.list (LS2.map .str))) (s2 := s2) (s3 := s3) (s4 := s4) (s5 := .v (.str T)) (s6 := .un) hd2
  obtain ⟨ρ', e5⟩ := tail_ev (ds := ds3) (s1 := .v (.list (LS2.map .str))) (s2 := s2) (s4 := s4) (s6 := .un) hT x0
  exact ⟨ds3, run_rt (n := 1) (m := 7) (as := [.l true ds]) (ρ := .l true ds3 :: ρ') rfl ((congrFun right_eq _).trans ((b_seq e1).trans ((b_seq e2).trans ((b_seq e3).trans ((b_seq e4).trans e5))))), hd3⟩
theorem range_at {n i : Nat} {d : PyData} (h : (rngD 0 n)[i]? = some d) : d = .int (i : Nat) ∧ i < n := by
  have hi : i < n := by
    have := (List.getElem?_eq_some_iff.mp h).1
    simpa [rngD] using this
  rw [rngD_zero, List.getElem?_map, List.getElem?_range hi] at h
  exact ⟨(Option.some.inj h).symm, hi⟩
theorem sl6 {ds : List PyData} : fSl (.list ds) none (some 6) = some (.list (ds.take 6)) := fSl_take (k := 6)
theorem law_true : LawTrue := by
  intro ns hz _
  have ln : (ns.take 6).length ≤ 6 := by simp; omega
  have hcells : ∀ ρ : Rho, ((ns.take 6).map PyData.int) ++ [PyData.int 0] = ((ns.take 6 ++ [0]).map PyData.int) := fun _ => by simp
  have rg : ∀ ρ : Rho, rg1 [.int 6] ρ = some (rngD 0 6, ρ) := fun ρ => rg1_nat (n := 6) (by decide)
  obtain ⟨ρ', e, s1, s2, s3, rfl⟩ := for_inv (t := gtName 1) (b := (sSeq (sSetO 2 (fCall R__law_draws (DL.gCons (gVar 1) DL.gNil)))
    (sFor (iRange1 (DL.gCons (gC (.int 6)) DL.gNil)) (gtName 3) (sIf (bNot (gTru (gCall F__law_right (DL.gCons (gVar 2) DL.gNil)))) (sRet (gC (.bool false))) sNext))))
    (ds := (ns.take 6 ++ [0]).map .int) (ρ := [.w (ns.map .int), .un, .un, .un]) (I := fun i ρ => ∃ s1 s2 s3, ρ = [.w (ns.map .int), s1, s2, s3]) ⟨_, _, _, rfl⟩ fun i d ρ hi ⟨s1, s2, s3, hρ⟩ => by
      subst hρ
      obtain ⟨c, hc⟩ : ∃ c : Int, d = .int c := by
        rw [List.getElem?_map] at hi
        obtain ⟨c, _, h⟩ := Option.map_eq_some_iff.mp hi
        exact ⟨c, h.symm⟩
      subst hc
      obtain ⟨ds, e1, hd⟩ := e__law_draws c
      obtain ⟨ρ2, e2, ds2, s3', rfl, hd2⟩ := for_inv (t := gtName 3) (b := sIf (bNot (gTru (gCall F__law_right (DL.gCons (gVar 2) DL.gNil)))) (sRet (gC (.bool false))) sNext)
        (ds := rngD 0 6) (ρ := [.w (ns.map .int), .v (.int c), .l false ds, s3]) (I := fun i ρ => ∃ ds s3, ρ = [.w (ns.map .int), .v (.int c), .l false ds, s3] ∧ Dr (2 ^ 59 + 17 * (6 - i)) ds) ⟨ds, s3, rfl, hd.mono (by decide)⟩ fun i d ρ hi ⟨ds, s3, hρ, hd⟩ => by
          subst hρ
          obtain ⟨rfl, hin⟩ := range_at hi
          obtain ⟨ds', e3, hd'⟩ := e__law_right (m := 2 ^ 59 + 17 * (6 - (i + 1))) (hd.mono (by omega))
          refine ⟨[.w (ns.map .int), .v (.int c), .l false ds, .v (.int (i : Nat))], [.w (ns.map .int), .v (.int c), .l false ds', .v (.int (i : Nat))], rfl, .inl ?_, ds', _, rfl, hd'⟩
          simp [e3, Nat.reduceLeDiff, Nat.reduceSub, cd_2, cd_3, cd_4, cd_5, cd_6, cd_7, cd_12, cd_20, cd_28, cd_60, cd_1000000, big, fEq_int, fNe_int, DL.atI_0, DL.atI_1, DL.atI_2, runF, runR, gVar, gC, DL.gNil, DL.gCons, gOp, gUn, fNeg, gTest, gTru, gChain, gIf, gAndV, gOrV, gNotV, bNot, bAnd, bOr, gCall, fCall, toSls, toSl, slotsOf, put, putL, sameKind, res, resA, gCB, fCB, gF, fLst, DL.gTup, allD, gRep, gSl, oNo, oInt, wipeR, restR, noL, fLc, bYes, fSumL, lists_map, cSorted, cSortSet, DL.ints_map, gIsi, noD, tyN, isiB, sNext, sSeq, sNever, sBreak, sCont, sExpr, sRet, sRetN, sRetF, sRetO, sIf, sFrz, frzAt, sSet, sSetO, sAsg, sPar, gtName, gtNil, gtCons, gtTup, gtLst, stay, iSeq, iTpl, iRange1_eq, iRange2_eq, rg1_2, rg1_3, rg1_4, iEnumD, iZipD, sFor, sApp, sPutIx, sAug, getL, frz, frz1, fLt_i, fLe_i, fGt_i, fGe_i, fIsN, fNotN, fAdd_i, fAdd_l, fSub_i, fMul_i, fDiv_i, fMod_i, fPow_i, fIx, fTru, cLen, cInt, List.getElem?_cons_zero, List.getElem?_cons_succ, List.getElem?_nil, List.set_cons_zero, List.set_cons_succ, List.set_nil, List.replicate, List.cons_append, List.nil_append, List.append_nil, List.map_cons, List.map_nil, List.take_succ_cons, List.take_zero, List.take_nil, List.nodup_nil, List.nodup_cons, List.not_mem_nil, List.mem_cons, List.length_cons, List.length_nil, Option.bind_some, Option.bind_none, Option.map_some, Option.map_none, Option.some_or, Option.none_or, Option.or_none, Nat.reduceAdd, Nat.reduceSub, if_true, if_false, ite_true, ite_false, reduceIte, Bool.false_eq_true, Bool.not_true, Bool.not_false, decide_true, decide_false, and_self, and_true, true_and, not_false_eq_true, not_true_eq_false, or_false, false_or, or_true, true_or, reduceCtorEq, forall_const, implies_true, Bool.true_and, Bool.and_true, Bool.false_and, Bool.and_false, Bool.or_true, Bool.or_false, Bool.true_or, Bool.false_or]
      refine ⟨[.w (ns.map .int), .v (.int c), s2, s3], [.w (ns.map .int), .v (.int c), .l false ds2, s3'], rfl, .inl ?_, _, _, _, rfl⟩
      simp only [e1, e2, rg, Nat.reduceLeDiff, Nat.reduceSub, cd_2, cd_3, cd_4, cd_5, cd_6, cd_7, cd_12, cd_20, cd_28, cd_60, cd_1000000, big, fEq_int, fNe_int, DL.atI_0, DL.atI_1, DL.atI_2, runF, runR, gVar, gC, DL.gNil, DL.gCons, gOp, gUn, fNeg, gTest, gTru, gChain, gIf, gAndV, gOrV, gNotV, bNot, bAnd, bOr, gCall, fCall, toSls, toSl, slotsOf, put, putL, sameKind, res, resA, gCB, fCB, gF, fLst, DL.gTup, allD, gRep, gSl, oNo, oInt, wipeR, restR, noL, fLc, bYes, fSumL, lists_map, cSorted, cSortSet, DL.ints_map, gIsi, noD, tyN, isiB, sNext, sSeq, sNever, sBreak, sCont, sExpr, sRet, sRetN, sRetF, sRetO, sIf, sFrz, frzAt, sSet, sSetO, sAsg, sPar, gtName, gtNil, gtCons, gtTup, gtLst, stay, iSeq, iTpl, iRange1_eq, iRange2_eq, rg1_2, rg1_3, rg1_4, iEnumD, iZipD, sFor, sApp, sPutIx, sAug, getL, frz, frz1, fLt_i, fLe_i, fGt_i, fGe_i, fIsN, fNotN, fAdd_i, fAdd_l, fSub_i, fMul_i, fDiv_i, fMod_i, fPow_i, fIx, fTru, cLen, cInt, List.getElem?_cons_zero, List.getElem?_cons_succ, List.getElem?_nil, List.set_cons_zero, List.set_cons_succ, List.set_nil, List.replicate, List.cons_append, List.nil_append, List.append_nil, List.map_cons, List.map_nil, List.take_succ_cons, List.take_zero, List.take_nil, List.nodup_nil, List.nodup_cons, List.not_mem_nil, List.mem_cons, List.length_cons, List.length_nil, Option.bind_some, Option.bind_none, Option.map_some, Option.map_none, Option.some_or, Option.none_or, Option.or_none, Nat.reduceAdd, Nat.reduceSub, if_true, if_false, ite_true, ite_false, reduceIte, Bool.false_eq_true, Bool.not_true, Bool.not_false, decide_true, decide_false, and_self, and_true, true_and, not_false_eq_true, not_true_eq_false, or_false, false_or, or_true, true_or, reduceCtorEq, forall_const, implies_true, Bool.true_and, Bool.and_true, Bool.false_and, Bool.and_false, Bool.or_true, Bool.or_false, Bool.true_or, Bool.false_or]
  refine ⟨[.w (ns.map .int)], ?_⟩
  have h6 : (ns.take 6).length + 1 ≤ 1000000 := by omega
  rw [← hcells []] at e
  simp only [F_law, g_law, sl6, ← List.map_take, List.length_map, h6, Nat.reduceLeDiff, Nat.reduceSub, e, Nat.reduceLeDiff, Nat.reduceSub, cd_2, cd_3, cd_4, cd_5, cd_6, cd_7, cd_12, cd_20, cd_28, cd_60, cd_1000000, big, fEq_int, fNe_int, DL.atI_0, DL.atI_1, DL.atI_2, runF, runR, gVar, gC, DL.gNil, DL.gCons, gOp, gUn, fNeg, gTest, gTru, gChain, gIf, gAndV, gOrV, gNotV, bNot, bAnd, bOr, gCall, fCall, toSls, toSl, slotsOf, put, putL, sameKind, res, resA, gCB, fCB, gF, fLst, DL.gTup, allD, gRep, gSl, oNo, oInt, wipeR, restR, noL, fLc, bYes, fSumL, lists_map, cSorted, cSortSet, DL.ints_map, gIsi, noD, tyN, isiB, sNext, sSeq, sNever, sBreak, sCont, sExpr, sRet, sRetN, sRetF, sRetO, sIf, sFrz, frzAt, sSet, sSetO, sAsg, sPar, gtName, gtNil, gtCons, gtTup, gtLst, stay, iSeq, iTpl, iRange1_eq, iRange2_eq, rg1_2, rg1_3, rg1_4, iEnumD, iZipD, sFor, sApp, sPutIx, sAug, getL, frz, frz1, fLt_i, fLe_i, fGt_i, fGe_i, fIsN, fNotN, fAdd_i, fAdd_l, fSub_i, fMul_i, fDiv_i, fMod_i, fPow_i, fIx, fTru, cLen, cInt, List.getElem?_cons_zero, List.getElem?_cons_succ, List.getElem?_nil, List.set_cons_zero, List.set_cons_succ, List.set_nil, List.replicate, List.cons_append, List.nil_append, List.append_nil, List.map_cons, List.map_nil, List.take_succ_cons, List.take_zero, List.take_nil, List.nodup_nil, List.nodup_cons, List.not_mem_nil, List.mem_cons, List.length_cons, List.length_nil, Option.bind_some, Option.bind_none, Option.map_some, Option.map_none, Option.some_or, Option.none_or, Option.or_none, Nat.reduceAdd, Nat.reduceSub, if_true, if_false, ite_true, ite_false, reduceIte, Bool.false_eq_true, Bool.not_true, Bool.not_false, decide_true, decide_false, and_self, and_true, true_and, not_false_eq_true, not_true_eq_false, or_false, false_or, or_true, true_or, reduceCtorEq, forall_const, implies_true, Bool.true_and, Bool.and_true, Bool.false_and, Bool.and_false, Bool.or_true, Bool.or_false, Bool.true_or, Bool.false_or]
end Lw
open PySem PySem.W PyProof.Rows
set_option maxRecDepth 100000 in
set_option maxHeartbeats 0 in
theorem PySem.Challenge.cw_halfsearch_k71_texts_that_are_none_holds : PySem.Challenge.rw_halfsearch_k71_texts_that_are_none.Holds := by
  w_on; o_law; k_head; (case hw => w_witness2)
  k_fill
  refine Lw.walk (l := PySem.Challenge.rw_halfsearch_k71_texts_that_are_none) rfl rfl (fun w h Y => PySem.W.kIn_of Y) ?F
  case F =>
    intro w mg fa h KX G hmg
    refine' Lw.all_mk Lw.law_true KX G hmg ?a5 ?l5 ?c5 ?k5 ?a6 ?l6 ?c6 ?k6 ?a8 ?l8 ?c8 ?k8 ?a9 ?l9 ?c9 ?k9 ?a10 ?l10 ?c10 ?k10 ?a11 ?l11 ?c11 ?k11 ?a12 ?l12 ?c12 ?k12 ?a13 ?l13 ?c13 ?k13 ?a14 ?l14 ?c14 ?k14 ?a15 ?l15 ?c15 ?k15 ?s_FIGURES ?s_LABELS ?t_LABELS ?u_LABELS ?z_ValueError ?z_all ?z_enumerate ?z_int ?z_isinstance ?z_len ?z_range ?z_repr ?z_str ?eaC1 ?eini1 ?eov1 ?ent1 ?esa1 ?ega1 ?egg1 ?eno1 ?eiC1 ?etC1 ?ekC1 ?eeC1 ?ety1 ?ehd1 ?eis1 ?ess1 ?el1 ?ecd1 ?eha1 ?ehn1 ?eht1 ?ehm1 ?ex_InvalidText_ValueError
    (case a5 => k_is); (case l5 => k_is); (case c5 => k_is); (case k5 => k_is)
    (case a6 => k_is); (case l6 => k_is); (case c6 => k_is); (case k6 => k_is)
    (case a8 => k_is); (case l8 => k_is); (case c8 => k_is); (case k8 => k_is)
    (case a9 => k_is); (case l9 => k_is); (case c9 => k_is); (case k9 => k_is)
    (case a10 => k_is); (case l10 => k_is); (case c10 => k_is); (case k10 => k_is)
    (case a11 => k_is); (case l11 => k_is); (case c11 => k_is); (case k11 => k_is)
    (case a12 => k_is); (case l12 => k_is); (case c12 => k_is); (case k12 => k_is)
    (case a13 => k_is); (case l13 => k_is); (case c13 => k_is); (case k13 => k_is)
    (case a14 => k_is); (case l14 => k_is); (case c14 => k_is); (case k14 => k_is)
    (case a15 => k_is); (case l15 => k_is); (case c15 => k_is); (case k15 => k_is)
    (case s_FIGURES => k_is)
    (case s_LABELS => k_is); (case t_LABELS => k_is); (case u_LABELS => exact ⟨rfl, rfl, by decide, .cons ⟨_, rfl⟩ (.cons ⟨_, rfl⟩ (.cons ⟨_, rfl⟩ (.cons ⟨_, rfl⟩ (.nil))))⟩)
    (case z_ValueError => k_is)
    (case z_all => k_is)
    (case z_enumerate => k_is)
    (case z_int => k_is)
    (case z_isinstance => k_is)
    (case z_len => k_is)
    (case z_range => k_is)
    (case z_repr => k_is)
    (case z_str => k_is)
    (case eaC1 => k_is)
    (case eini1 => first | kx_is | k_is)
    (case eov1 => first | kx_is | k_is)
    (case ent1 => k_is)
    (case esa1 => k_is)
    (case ega1 => k_is)
    (case egg1 => k_is)
    (case eno1 => k_is)
    (case eiC1 => k_is)
    (case etC1 => k_is)
    (case ekC1 => k_is)
    (case eeC1 => k_is)
    (case ety1 => k_is)
    (case ehd1 => k_is)
    (case eis1 => k_is)
    (case ess1 => first | rfl | k_is)
    (case el1 => k_is)
    (case ecd1 => k_is)
    (case eha1 => k_is)
    (case ehn1 => k_is)
    (case eht1 => k_is)
    (case ehm1 => k_is)
    (case ex_InvalidText_ValueError => k_is)
