import PyProof.Rows.All
import Wide.All
import OpenK.AllK
import Wide.FinOn
import HandS.Base
import HandS.Call
import HandS.List
import HandS.Dict
import HandS.Iter
import HandS.Words
import KE.KeyNested
import HandS.SortKw
import HandS.Deep
import HandS.ForMost
import HandS.TupSets
import HandS.IsInst
import HandS.TupAny
import HandS.Style
import HandS.Wide
import HandS.More
import KE.DataMinMax
import KE.DatumOrd
import HandS.Codes
import PySem.Challenge.RW_viewwood_k42_whole_no_rising_row_is_long
set_option Elab.async false
set_option linter.all false
set_option maxRecDepth 100000
/-! Labels: tuples of spots (None or a number, a number), and dicts keyed by them. -/
namespace K42
open PySem PySem.Spec PyProof.Rows L2

abbrev Spot := Option Int × Int
abbrev Lab := List Spot

def keyV : Option Int → V
  | none => .non
  | some i => .int i
/-- the value v is the spot s -/
def SpotAt (H : Hp) (v : V) (s : Spot) : Prop := ∃ a, v = .ref a ∧ H a = some (.tup [keyV s.1, .int s.2])
/-- the value v is the label l -/
def LabAt (H : Hp) (v : V) (l : Lab) : Prop := ∃ a vs, v = .ref a ∧ H a = some (.tup vs) ∧ Paired (SpotAt H) vs l
abbrev Labs (H : Hp) : List V → List Lab → Prop := Paired (LabAt H)
/-- all tuples stay -/
def Tups (H H' : Hp) : Prop := ∀ b xs, H b = some (.tup xs) → H' b = some (.tup xs)

theorem Tups.refl (H : Hp) : Tups H H := fun _ _ h => h
theorem Tups.trans {H H1 H2 : Hp} (a : Tups H H1) (b : Tups H1 H2) : Tups H H2 := fun c xs h => b c xs (a c xs h)
theorem Tups.new {H : Hp} {p : Addr} {o : HO} (h : H p = none) : Tups H (upd H p o) := fun b xs e => by rw [upd_ne (ne_of_none e h)]; exact e
/-- a store at what is no tuple -/
theorem Tups.put {H : Hp} {p : Addr} {o o' : HO} (h : H p = some o') (n : ∀ xs, o' ≠ .tup xs) : Tups H (upd H p o) := fun b xs e => by
  rw [upd_ne (fun z => by subst z; rw [h] at e; exact n xs (Option.some.inj e))]; exact e
theorem SpotAt.mono {H H' : Hp} (t : Tups H H') {v : V} {s : Spot} (h : SpotAt H v s) : SpotAt H' v s := let ⟨a, e, k⟩ := h; ⟨a, e, t _ _ k⟩
theorem LabAt.mono {H H' : Hp} (t : Tups H H') {v : V} {l : Lab} (h : LabAt H v l) : LabAt H' v l :=
  let ⟨a, vs, e, k, p⟩ := h
  ⟨a, vs, e, t _ _ k, Paired.mono (fun _ _ => SpotAt.mono t) p⟩
theorem labs_mono {H H' : Hp} (t : Tups H H') {vs : List V} {ls : List Lab} (h : Labs H vs ls) : Labs H' vs ls := Paired.mono (fun _ _ => LabAt.mono t) h

theorem keyV_inj : ∀ {a b : Option Int}, keyV a = keyV b → a = b
  | none, none, _ => rfl
  | some _, some _, h => by
    injection (show V.int _ = V.int _ from h) with h
    rw [h]
  | none, some _, h => nomatch (show V.non = V.int _ from h)
  | some _, none, h => nomatch (show V.int _ = V.non from h)
theorem numK_inj : ∀ {a b : Option Int}, (match a with | none => NestedKey.none | some i => .num i) = (match b with | none => NestedKey.none | some i => .num i) → a = b
  | none, none, _ => rfl
  | some _, some _, h => by
    injection (show NestedKey.num _ = NestedKey.num _ from h) with h
    rw [h]
  | none, some _, h => nomatch (show NestedKey.none = NestedKey.num _ from h)
  | some _, none, h => nomatch (show NestedKey.num _ = NestedKey.none from h)
theorem SpotAt.inj {H : Hp} {v : V} {s t : Spot} (h : SpotAt H v s) (k : SpotAt H v t) : s = t := by
  obtain ⟨a, rfl, e⟩ := h
  obtain ⟨b, eb, e'⟩ := k
  cases eb
  rw [e] at e'
  have z := Option.some.inj e'
  injection z with z
  injection z with z1 z2
  injection z2 with z2
  injection z2 with z2
  exact Prod.ext (keyV_inj z1) z2
theorem spots_inj {H : Hp} : ∀ {vs : List V} {l m : Lab}, Paired (SpotAt H) vs l → Paired (SpotAt H) vs m → l = m
  | _, _, _, .nil, .nil => rfl
  | _, _, _, .cons h t, .cons h' t' => by rw [h.inj h', spots_inj t t']
theorem LabAt.inj {H : Hp} {v : V} {l m : Lab} (h : LabAt H v l) (k : LabAt H v m) : l = m := by
  obtain ⟨a, vs, rfl, e, p⟩ := h
  obtain ⟨b, ws, eb, e', p'⟩ := k
  cases eb
  rw [e] at e'
  have z := Option.some.inj e'
  injection z with z
  subst z
  exact spots_inj p p'

/-! ### labels as keys -/
def numK : Option Int → NestedKey
  | none => .none
  | some i => .num i
def spotK (s : Spot) : NestedKey := .tup [numK s.1, .num s.2]
def labK (l : Lab) : NestedKey := .tup (l.map spotK)
theorem spotK_inj {s t : Spot} (h : spotK s = spotK t) : s = t := by
  unfold spotK at h
  injection h with h
  injection h with h1 h2
  injection h2 with h2
  injection h2 with h2
  exact Prod.ext (numK_inj h1) h2
theorem labK_inj {l m : Lab} (h : labK l = labK m) : l = m := by
  unfold labK at h
  injection h with h
  induction l generalizing m with
  | nil => cases m with
    | nil => rfl
    | cons _ _ => exact nomatch h
  | cons s l ih => cases m with
    | nil => exact nomatch h
    | cons t m =>
      rw [List.map_cons, List.map_cons] at h
      injection h with h1 h2
      rw [spotK_inj h1, ih h2]
theorem numK_depth (o : Option Int) : (numK o).depth = 0 := by cases o <;> rfl
theorem spotsK_depth : ∀ l : Lab, NestedKey.depthAll (l.map spotK) ≤ 1
  | [] => Nat.zero_le _
  | s :: l => by
    have ih := spotsK_depth l
    have e : (spotK s).depth = 1 := by
      simp only [spotK, NestedKey.depth, NestedKey.depthAll, numK_depth]; rfl
    rw [List.map_cons]
    simp only [NestedKey.depthAll]
    omega
theorem labK_depth (l : Lab) : (labK l).depth ≤ 8 := by
  have h := spotsK_depth l
  simp only [labK, NestedKey.depth]
  omega

section
variable {P : Program} {w : World} {H : Hp} {h : Heap}
theorem keyV_is {o : Option Int} {u : Value} (r : RelV (keyV o) u) : NestedIs h (numK o) u := by
  cases o with
  | none => cases (show u = Value.none from r); exact .none
  | some i => obtain ⟨t, rfl⟩ := (show ∃ t, u = Value.int i t from r); exact .int i t
theorem spot_is (ok : HOk P w H h) {v : V} {u : Value} {s : Spot} (x : SpotAt H v s) (r : RelV v u) : NestedIs h (spotK s) u := by
  obtain ⟨a, rfl, e⟩ := x
  cases (show u = Value.ref a from r)
  obtain ⟨_, its, rv, o, h1, h2, n, h3⟩ := (show ObjOk P w H h a (.tup [keyV s.1, .int s.2]) from ok a _ e)
  refine .tup h1 h2 h3 ?_
  cases rv with
  | cons r1 rv =>
    cases rv with
    | cons r2 rv =>
      cases rv
      obtain ⟨t, rfl⟩ := (show ∃ t, _ = Value.int s.2 t from r2)
      exact .cons (keyV_is r1) (.cons (.int _ t) .nil)
theorem spots_are (ok : HOk P w H h) : ∀ {vs : List V} {us : List Value} {l : Lab}, Paired (SpotAt H) vs l → Vals vs us → NestedAll h (l.map spotK) us
  | _, _, _, .nil, .nil => .nil
  | _, _, _, .cons x t, .cons r rt => .cons (spot_is ok x r) (spots_are ok t rt)
theorem lab_is (ok : HOk P w H h) {a : Addr} {l : Lab} (x : LabAt H (.ref a) l) : (nestedKind P w).is h (labK l) a := by
  obtain ⟨b, vs, eb, e, p⟩ := x
  cases eb
  obtain ⟨_, its, rv, o, h1, h2, n, h3⟩ := (show ObjOk P w H h a (.tup vs) from ok a _ e)
  exact ⟨.tup h1 h2 h3 (by simpa using spots_are ok p rv), labK_depth l⟩
end

/-! ### dicts keyed by labels: the label, where its tuple lies, the value -/
abbrev LKV := List (Lab × Addr × V)
abbrev LRel (kvs : LKV) (xs : List (NestedKey × Addr × Value)) : Prop := Paired (fun (p : Lab × Addr × V) (q : NestedKey × Addr × Value) => q.1 = labK p.1 ∧ q.2.1 = p.2.1 ∧ RelV p.2.2 q.2.2) kvs xs
def LDict (P : Program) (w : World) (d : Addr) (kvs : LKV) : HO := .ext fun h => (d == sysModules) = false ∧ kvs.length ≤ sizeLine ∧ ∃ xs, LRel kvs xs ∧
  ∃ o es ep, h.get? d = some o ∧ o.ExactDict ∧ o.data = .dict es ep ∧ es.toList = xs.map (entryOfKey (nestedKind P w)) ∧ (xs.map (·.1)).Nodup
/-- what stands under a label -/
def getL (kvs : LKV) (l : Lab) : Option V := (kvs.find? fun p => decide (p.1 = l)).map (·.2.2)
/-- at d such a dict is to be read -/
def DAt (P : Program) (w : World) (H : Hp) (d : Addr) (kvs : LKV) : Prop := Rd H d (LDict P w d kvs) ∧ ∀ p ∈ kvs, LabAt H (.ref p.2.1) p.1

theorem getL_cons {p : Lab × Addr × V} {r : LKV} {l : Lab} : getL (p :: r) l = if p.1 = l then some p.2.2 else getL r l := by
  unfold getL
  rw [List.find?_cons]
  by_cases e : p.1 = l
  · rw [if_pos e, decide_eq_true e] <;> rfl
  · rw [if_neg e, decide_eq_false e]
theorem lrel_get {kvs : LKV} {xs : List (NestedKey × Addr × Value)} (r : LRel kvs xs) (l : Lab) : RelO (getL kvs l) ((atKey xs (labK l)).map (·.2)) := by
  induction r with
  | nil => exact True.intro
  | @cons p q ps qs h t ih =>
    obtain ⟨h1, _, h2⟩ := h
    rw [getL_cons]
    by_cases e : p.1 = l
    · have b : atKey (q :: qs) (labK l) = some q.2 := by simp [atKey, List.find?_cons, h1.trans (congrArg labK e)]
      rw [if_pos e, b]; exact h2
    · have e' : ¬ q.1 = labK l := fun z => e (labK_inj (h1.symm.trans z))
      have b : atKey (q :: qs) (labK l) = atKey qs (labK l) := by simp [atKey, List.find?_cons, e']
      rw [if_neg e, b]; exact ih

section
variable {P : Program} {w : World} {H : Hp} {h : Heap} {d : Addr} {kvs : LKV}
theorem ldict_new {o : Obj} {es : Array DictEntry} {ep : Nat} {xs : List (NestedKey × Addr × Value)} (hd : (d == sysModules) = false) (z : kvs.length ≤ sizeLine) (r : LRel kvs xs) (h1 : h.get? d = some o) (h2 : o.ExactDict)
    (h3 : o.data = .dict es ep) (h4 : es.toList = xs.map (entryOfKey (nestedKind P w))) (h5 : (xs.map (·.1)).Nodup) : ObjOk P w H h d (LDict P w d kvs) :=
  ⟨⟨hd, z, xs, r, o, es, ep, h1, h2, h3, h4, h5⟩, ⟨o, h1⟩, fun _ _ ⟨hd, z, xs, r, o, es, ep, e, q⟩ k => ⟨hd, z, xs, r, o, es, ep, k o e, q⟩⟩
theorem ldict_rd (ok : HOk P w H h) (D : DAt P w H d kvs) : (d == sysModules) = false ∧ kvs.length ≤ sizeLine ∧ ∃ xs, LRel kvs xs ∧ h.DictOfH (nestedKind P w) d xs := by
  obtain ⟨rd, ks⟩ := D
  obtain ⟨⟨hd, z, xs, r, o, es, ep, h1, h2, h3, h4, h5⟩, _⟩ := (show ObjOk P w H h d (LDict P w d kvs) from rd.ok ok)
  refine ⟨hd, z, xs, r, o, es, ep, h1, h2, h3, h4, ?_, h5⟩
  have all : ∀ {ps : LKV} {qs : List (NestedKey × Addr × Value)}, LRel ps qs → (∀ p ∈ ps, LabAt H (.ref p.2.1) p.1) → ∀ x ∈ qs, (nestedKind P w).is h x.1 x.2.1 := by
    intro ps qs r
    induction r with
    | nil => intro _ x hx; exact nomatch hx
    | @cons p q ps qs e t ih =>
      intro ks x hx
      rcases List.mem_cons.mp hx with z | hx
      · subst z
        rw [e.1, e.2.1]
        exact lab_is ok (ks p List.mem_cons_self)
      · exact ih (fun p hp => ks p (List.mem_cons_of_mem _ hp)) x hx
  exact all r ks
end
theorem DAt.at {P : Program} {w : World} {H H' : Hp} {d : Addr} {kvs : LKV} (D : DAt P w H d kvs) (t : Tups H H') (e : H' d = H d) : DAt P w H' d kvs := by
  obtain ⟨rd, ks⟩ := D
  refine ⟨?_, fun p hp => (ks p hp).mono t⟩
  unfold Rd
  rw [e]
  exact rd

section
variable {X : Cx} {pins : List (Addr × Obj)} {σ : L2.St} {H : Hp} {s : Shared} {d b : Addr} {l : Lab} {v : V} {kvs : LKV} {A : Around} {E : Value → Shared → Prop}
theorem ld_get {Q : Value → Shared → Prop} (hu : A.units + 64 < cLine) (I : Inv X pins σ H s) (D : DAt X.prog X.w H d kvs) (hl : LabAt H (.ref b) l) (g : getL kvs l = some v)
    (h : ∀ u s', Inv X pins σ H s' → RelV v u → Q u s') : wpAny (model X.prog X.w) A (getItem (.ref d) (.ref b)) Q E s := by
  obtain ⟨hd, z, xs, r, m⟩ := ldict_rd I.hok D
  have q := lrel_get r l
  rw [g] at q
  obtain ⟨u, hw, ru⟩ := RelO.some_of q
  obtain ⟨p, hp, hp2⟩ := Option.map_eq_some_iff.mp hw
  refine wpAny_getItem_heap (knd := nestedKind X.prog X.w) (by show A.in1.units + 8 < cLine; rw [Around.in1_units]; omega) (lab_is I.hok hl) m hp ?_
  rw [hp2]
  exact h u _ (I.tok _) ru
theorem ld_in {Q : Value → Shared → Prop} (hu : A.units + 64 < cLine) (I : Inv X pins σ H s) (D : DAt X.prog X.w H d kvs) (hl : LabAt H (.ref b) l)
    (h : ∀ s', Inv X pins σ H s' → Q (.bool (getL kvs l).isSome) s') : wpAny (model X.prog X.w) A (compareOp .In (.ref b) (.ref d)) Q E s := by
  obtain ⟨hd, z, xs, r, m⟩ := ldict_rd I.hok D
  refine wpAny_in_heap (knd := nestedKind X.prog X.w) (by show A.in1.units + 8 < cLine; rw [Around.in1_units]; omega) (lab_is I.hok hl) hd m ?_
  have q := (lrel_get r l).isSome_eq
  rw [Option.isSome_map] at q
  rw [← q]
  exact h _ (I.tok _)
/-- a label that isn't there yet -/
theorem ld_set {u : Value} {Q : Unit → Shared → Prop} (hu : A.units + 64 < cLine) (I : Inv X pins σ H s) (e : H d = some (LDict X.prog X.w d kvs)) (ks : ∀ p ∈ kvs, LabAt H (.ref p.2.1) p.1) (hl : LabAt H (.ref b) l) (g : getL kvs l = none)
    (hz : kvs.length < sizeLine) (rv : RelV v u) (h : ∀ s', Inv X pins σ (upd H d (LDict X.prog X.w d (kvs ++ [(l, b, v)]))) s' → Q () s') : wpAny (model X.prog X.w) A (setItem (.ref d) (.ref b) u) Q E s := by
  obtain ⟨hd, z, xs, r, m⟩ := ldict_rd I.hok ⟨.inl e, ks⟩
  have q := lrel_get r l
  rw [g] at q
  have hn : atKey xs (labK l) = none := by
    cases z : atKey xs (labK l) with
    | none => rfl
    | some y => rw [z] at q; exact (show False from q).elim
  have hlen : xs.length ≤ sizeLine := by rw [← Paired.length r]; exact z
  refine wpAny_setItem_heap (knd := nestedKind X.prog X.w) (hsz := hlen) (by show A.in1.units + 8 < cLine; rw [Around.in1_units]; omega) (lab_is I.hok hl) m fun h' m' hs => h _ ?_
  rw [storedH_new hn] at m'
  obtain ⟨o, es, ep, h1, h2, h3, h4, _, h5⟩ := m'
  refine I.write (x := d) (e := d) (by rw [e]; exact True.intro) (.inl rfl) (fun c o hc z => (hs.2 c hc).trans z) ⟨o, h1⟩ ?_
  refine ldict_new hd ?_ (Paired.snoc r ⟨rfl, rfl, rv⟩) h1 h2 h3 h4 h5
  rw [List.length_append, List.length_singleton]
  exact hz
end
end K42
/-! Rules for dicts keyed by labels. -/
namespace K42
open PySem PySem.Spec PyProof.Rows L2

/-! ### {} -/
def tNewLD (P : Program) (w : World) : TE := fun _ H Q => ∀ p, H p = none → Q (.ref p) (upd H p (LDict P w p []))
section
variable {X : Cx} {pos : Pos}
theorem pe_newLD : PE X (.Dict [] [] pos) (tNewLD X.prog X.w) := ⟨fun pins s σ H Q I h =>
  wpAny_Dict_empty ⟨.ref s.heap.objs.size, _, I.laid (a := s.heap.objs.size) (o := LDict X.prog X.w s.heap.objs.size []) (t' := s.toks) (fun _ _ q => Heap.get?_push_of_some _ q) (Nat.le_refl _)
    (ldict_new (beq_eq_false_iff_ne.mpr (Ne.symm (Nat.ne_of_lt I.big))) (Nat.zero_le _) .nil (Heap.get?_push_size _ rfl) ⟨rfl, rfl, rfl⟩ rfl rfl List.nodup_nil), rfl, h _ (I.hok.fresh (Nat.le_refl _))⟩⟩
end

/-! ### d[l], l in d, d[l] = v -/
def rIxLD (P : Program) (w : World) : R2 := fun x y H Q => ∃ (d b : Addr) (l : Lab) (kvs : LKV) (v : V), x = .ref d ∧ y = .ref b ∧ DAt P w H d kvs ∧ LabAt H (.ref b) l ∧ getL kvs l = some v ∧ Q v H
def rInLD (P : Program) (w : World) : R2 := fun x y H Q => ∃ (d b : Addr) (l : Lab) (kvs : LKV), x = .ref b ∧ y = .ref d ∧ DAt P w H d kvs ∧ LabAt H (.ref b) l ∧ Q (.bl (getL kvs l).isSome) H
def rSetLD (P : Program) (w : World) : TSet := fun o i v H Q => ∃ (d b : Addr) (l : Lab) (kvs : LKV), o = .ref d ∧ i = .ref b ∧ H d = some (LDict P w d kvs) ∧ (∀ p ∈ kvs, LabAt H (.ref p.2.1) p.1) ∧ LabAt H (.ref b) l ∧ getL kvs l = none ∧ kvs.length < sizeLine ∧
  Q (upd H d (LDict P w d (kvs ++ [(l, b, v)])))
section
variable {X : Cx}
theorem ldict_type {pins : List (Addr × Obj)} {σ : L2.St} {H : Hp} {s : Shared} {d : Addr} {kvs : LKV} (I : Inv X pins σ H s) (D : DAt X.prog X.w H d kvs) : s.TypeIs (.ref d) "dict" := by
  obtain ⟨_, _, xs, _, m⟩ := ldict_rd I.hok D
  exact m.typeIs
theorem ix_ld (hu : X.A.units + 64 < cLine) : IxR X (rIxLD X.prog X.w) := by
  intro value slice pins s σ H x y v u Q I rx ry h hs
  obtain ⟨d, b, l, kvs, z, rfl, rfl, D, hl, g, q⟩ := h
  cases rx
  cases ry
  exact tail_any (ldict_type I D) PySem.F.slot_dict_getitem.lookup (ld_get hu I D hl g fun u s' I' r => ⟨z, H, I', r, q⟩) hs
theorem op_inLD (hu : X.A.units + 64 < cLine) : OpR X (compareOp .In) (rInLD X.prog X.w) := by
  intro pins s σ H x y v u Q I rx ry h
  obtain ⟨d, b, l, kvs, rfl, rfl, D, hl, q⟩ := h
  cases rx
  cases ry
  exact ld_in hu I D hl fun s' I' => ⟨.bl _, H, I', rfl, q⟩
theorem set_ld (hu : X.A.units + 64 < cLine) : PSet X (rSetLD X.prog X.w) := by
  intro pins s σ H o i v ov iv u Q I ro ri rv h
  obtain ⟨d, b, l, kvs, rfl, rfl, e, ks, hl, g, hz, q⟩ := h
  cases ro
  cases ri
  exact ld_set hu I e ks hl g hz rv fun s' I' => ⟨_, I', q⟩
end

/-! ### for l in d, the dict locked -/
/-- the keys' own tuples, in their order -/
def ItL (P : Program) (w : World) (d : Addr) (o : Obj) (kvs : LKV) : It :=
  ⟨fun i H => H d = some (.frz o (LDict P w d kvs)) ∧ i < kvs.length, fun i H x H' => H' = H ∧ ∃ p, kvs[i]? = some p ∧ x = .ref p.2.1, fun i H => H d = some (.frz o (LDict P w d kvs)) ∧ kvs.length ≤ i⟩
theorem locked_ld {X : Cx} {pins : List (Addr × Obj)} {σ : L2.St} {H : Hp} {s : Shared} {d : Addr} {o : Obj} {kvs : LKV} (I : Inv X pins σ H s) (h : H d = some (.frz o (LDict X.prog X.w d kvs))) :
    (d == sysModules) = false ∧ s.heap.get? d = some o ∧ o.ExactDict ∧ ∃ (es : Array DictEntry) (ep : Nat), o.data = .dict es ep ∧ es.size = kvs.length ∧
      ∀ (i : Nat) (p : Lab × Addr × V), kvs[i]? = some p → ∃ en : DictEntry, es[i]? = some en ∧ en.key = .ref p.2.1 := by
  obtain ⟨g, ⟨sm, z, xs, r, o', es, ep, g', ex, dt, he, _⟩, _⟩ := I.hok d _ h
  rw [g] at g'
  cases g'
  refine ⟨sm, g, ex, es, ep, dt, ?_, fun i p e => ?_⟩
  · rw [size_of_entries he, ← Paired.length r]
  · obtain ⟨q, hq, _, e2, _⟩ := paired_get r e
    have z := entry_at he i
    rw [hq] at z
    exact ⟨_, z, congrArg Value.ref e2⟩
section
variable {P : Program} {w : World} {K : PySem.W.Frag} {tg : Expr} {d : Addr} {o : Obj} {es : Array DictEntry} {ep : Nat}
theorem turn_ld {kvs : LKV} (it : Addr) (hod : o.data = .dict es ep) : Turn P w K tg (ItL P w d o kvs) [it] it (fun i h => h.IsKeyIter it d i kvs.length ep) where
  mem := List.mem_singleton.mpr rfl
  obj := fun i h tn b hb => by
    cases List.mem_singleton.mp hb
    obtain ⟨ob, g, _, dt⟩ := tn
    exact ⟨ob, g, fun v z => nomatch dt.symm.trans z⟩
  keep := fun i h h' tn k => tn.at fun ob g => k it (List.mem_singleton.mpr rfl) ob g
  item := by
    intro X hP hw hK hc i pins s σ H E I hf tn go
    subst hP hw hK
    obtain ⟨lk, lt⟩ := go
    obtain ⟨n0, n1, n2, n3, n4, n5⟩ := hf it (List.mem_singleton.mpr rfl)
    obtain ⟨_, gd, _, es', ep', dt, sz, ent⟩ := locked_ld I lk
    obtain ⟨rfl, rfl⟩ := dict_ep hod dt
    have at_ := List.getElem?_eq_getElem lt
    obtain ⟨en, hen, key⟩ := ent i _ at_
    refine next_key_item tn gd dt sz hen fun h' tn' sb => ?_
    obtain ⟨ob, g, c, dd⟩ := id tn'
    refine ⟨en.key, rfl, go_of (s := { s with heap := h' }) g c dd (by decide) ⟨.ref (kvs[i]).2.1, H, ?_, key, ⟨rfl, _, at_, rfl⟩, tn', fun b hb => (hf b hb).1⟩⟩
    exact I.turned (t' := s.toks) (fun b ob hb z => (sb.2 b hb).trans z) n0 n1 n3 n4 n5
  done := by
    intro X hP hw hK hc i pins s σ H E I hf tn st
    subst hP hw hK
    obtain ⟨lk, ge⟩ := st
    obtain ⟨n0, n1, n2, n3, n4, n5⟩ := hf it (List.mem_singleton.mpr rfl)
    obtain ⟨_, gd, _, es', ep', dt, sz, ent⟩ := locked_ld I lk
    obtain ⟨rfl, rfl⟩ := dict_ep hod dt
    exact next_key_end (I.ok.hd hc) tn gd dt sz ge fun h' eb => ⟨rfl, I.turned (t' := s.toks) (fun b ob hb z => eb b ob hb z) n0 n1 n3 n4 n5⟩
  self := fun A i s Q E tn h => by
    refine wpAny_pyIter_slot tn.typeIs F.slot_dict_keyiterator_iter (wpAny_call_entry F.slot_dict_keyiterator_iter tn.typeIs F.entry_dict_keyiterator_iter ?_ (F.args_dict_keyiterator_iter_1 _))
    exact wpAny_pure ⟨_, rfl, "dict_keyiterator", _, tn.typeIs, F.slot_dict_keyiterator_next.lookup, h⟩
end
def iLD (P : Program) (w : World) (td : TE) : TI := fun σ H R => td σ H fun x H1 => ∃ d o kvs, x = .ref d ∧ H1 d = some (.frz o (LDict P w d kvs)) ∧ R (ItL P w d o kvs) H1
theorem pi_ld {X : Cx} {tg e : Expr} {td : TE} (he : PE X e td) : PI X tg e (iLD X.prog X.w td) := by
  refine ⟨fun pins s σ H R I h => ?_⟩
  refine thn (he.run pins s σ H _ I h) fun u s1 ⟨x, H1, I1, rx, d, o, kvs, ex, lk, q⟩ => ?_
  subst ex
  cases rx
  obtain ⟨sm, gd, ex, es, ep, dt, sz, ent⟩ := locked_ld I1 lk
  refine iter_keys sm gd ex dt (pi_one (tk := s1.toks) I1 _ (turn_ld _ dt) ⟨_, Heap.get?_push_size _ rfl, rfl, ?_⟩ q)
  rw [sz] <;> rfl

/-- a comprehension over it -/
theorem lc_ld {P : Program} {w : World} {d : Addr} {o : Obj} {kvs : LKV} {g : TG} {tt : TT} {te : TE} {vs : List Nat} {σ : L2.St} {H1 : Hp} {D : Addr} {Qd : Hp → Prop} (Pv : Nat → Hp → Prop) (h0 : Pv 0 (upd H1 D (.lst []))) (hl : ∀ i H, Pv i H → H d = some (.frz o (LDict P w d kvs)))
    (hs : ∀ i p H, kvs[i]? = some p → Pv i H → g (.ref p.2.1) (wipe σ vs) H fun σ2 H2 => wipe σ2 vs = wipe σ vs ∧ tt σ2 H2 fun b H3 =>
      if b = true then te σ2 H3 fun y H4 => ∃ acc, H4 D = some (.lst acc) ∧ acc.length < sizeLine ∧ Pv (i + 1) (upd H4 D (.lst (acc ++ [y]))) else Pv (i + 1) H3) (hd : ∀ H, Pv kvs.length H → Qd H) :
    ∃ W : Nat → Nat → Hp → Prop, (∃ m, W 0 m (upd H1 D (.lst []))) ∧ ∀ i m H, W i m H →
      ((ItL P w d o kvs).stop i H ∧ Qd H) ∨ ((ItL P w d o kvs).go i H ∧ ∃ Nx : Hp → Prop, (∀ H', Nx H' → ∃ m', m' < m ∧ W (i + 1) m' H') ∧ ∀ x H', (ItL P w d o kvs).yld i H x H' → g x (wipe σ vs) H' fun σ2 H2 => wipe σ2 vs = wipe σ vs ∧ tt σ2 H2 fun b H3 =>
        if b = true then te σ2 H3 fun y H4 => ∃ acc, H4 D = some (.lst acc) ∧ acc.length < sizeLine ∧ Nx (upd H4 D (.lst (acc ++ [y]))) else Nx H3) := by
  refine ⟨fun i m H => m = kvs.length - i ∧ i ≤ kvs.length ∧ Pv i H, ⟨_, rfl, Nat.zero_le _, h0⟩, ?_⟩
  rintro i m H ⟨rfl, le, p⟩
  have lk := hl i H p
  rcases Nat.lt_or_ge i kvs.length with lt | ge
  · refine .inr ⟨⟨lk, lt⟩, Pv (i + 1), fun H' p' => ⟨kvs.length - (i + 1), by omega, rfl, lt, p'⟩, fun x H' y => ?_⟩
    obtain ⟨rfl, q, e, rfl⟩ := y
    exact hs i q _ e p
  · cases Nat.le_antisymm le ge
    exact .inl ⟨⟨lk, ge⟩, hd H p⟩
end K42
/-! Sets of labels: what set(a list of labels) holds. -/
namespace K42
open PySem PySem.Spec PyProof.Rows L2

abbrev IsLab (h : Heap) (l : Lab) (a : Addr) : Prop := NestedIs h (labK l) (.ref a)
def lh (w : World) (l : Lab) : Int := (labK l).hash w
abbrev Row := Addr × Lab
def rowL (w : World) (p : Row) : Int × Value := (lh w p.2, Value.ref p.1)

theorem isLab_keep {h h' : Heap} {l : Lab} {b : Addr} (x : IsLab h l b) (k : ∀ c o, h.get? c = some o → h'.get? c = some o) : IsLab h' l b := NestedIs.at (fun c o _ _ e _ => k c o e) _ _ x
/-- a set's object is changed: no label is one -/
theorem isLab_but {h h' : Heap} {l : Lab} {a b : Addr} {o : Obj} {es : Array (Int × Value)} {ep : Nat} {t : SetTable} (x : IsLab h l b) (ho : h.get? a = some o) (hd : o.data = .set es ep t) (hs : Heap.SameBut a h h') : IsLab h' l b :=
  NestedIs.at (fun c oc vs n e dc => (hs.2 c fun z => by
    subst z
    rw [ho] at e
    cases e
    exact nomatch hd.symm.trans dc).trans e) _ _ x

section
variable {P : Program} {w : World} {A : Around} {E : Value → Shared → Prop} {s : Shared}
/-! ### small questions about labels -/
theorem part_ofa {h : Heap} {o : Option Int} {v : Value} (n : Nat) (x : NestedIs h (numK o) v) : ofAClassStatement n v = pure false := by
  cases o with
  | none => cases x; cases n <;> rfl
  | some i => cases x <;> cases n <;> rfl
theorem part_hby {h : Heap} {o : Option Int} {v : Value} (n : Nat) (x : NestedIs h (numK o) v) : hashByValue n v = pure true := by
  cases o with
  | none => cases x; cases n <;> rfl
  | some i => cases x <;> cases n <;> rfl
/-- a question of a tuple that asks each item -/
theorem ask_ofa {a : Addr} {o : Obj} {items : Array Value} {m n : Nat} {Q : Bool → Shared → Prop} (ho : s.heap.get? a = some o) (hc : o.cls = .type "tuple") (hd : o.data = .seq items m)
    (each : ∀ v ∈ items.toList, ∀ Q' : Bool → Shared → Prop, Q' false s → wpAny (model P w) A (ofAClassStatement n v) Q' E s) (h : Q false s) : wpAny (model P w) A (ofAClassStatement (n + 1) (.ref a)) Q E s := by
  unfold ofAClassStatement
  refine wpAny_bind (wpAny_typeOf ⟨o, ho, hc⟩ ?_)
  dsimp only
  simp only [show (("tuple" : String) == "tuple") = true from by decide, if_true, Bool.not_true, Bool.false_eq_true, if_false]
  try refine wpAny_bind (wpAny_pure ?_)
  try simp only [Bool.not_true, Bool.false_eq_true, if_false]
  refine wpAny_bind (show wpAny _ _ (seqItems? (.ref a)) _ _ s from wpAny_seqItems ho hd ?_)
  dsimp only
  refine wpAny_bind ?_
  rw [show (forIn items _ _ : Sem _) = _ from (Array.forIn_toList).symm]
  refine wpAny_forIn_list _ (fun left r s' => r.1 = none ∧ s' = s ∧ ∀ v ∈ left, v ∈ items.toList) _ (fun v left r s' q => ?_) (fun r s' q => ?_) _ _ ⟨rfl, rfl, fun _ z => z⟩
  · obtain ⟨_, rfl, sub⟩ := q
    refine wpAny_bind (each v (sub v List.mem_cons_self) _ ?_)
    simp only [Bool.false_eq_true, if_false]
    exact wpAny_pure ⟨rfl, rfl, fun u z => sub u (List.mem_cons_of_mem _ z)⟩
  · obtain ⟨e, rfl, _⟩ := q
    obtain ⟨r1, r2⟩ := r
    cases e
    exact wpAny_pure h
theorem ask_hby {a : Addr} {o : Obj} {items : Array Value} {m n : Nat} {Q : Bool → Shared → Prop} (ho : s.heap.get? a = some o) (hc : o.cls = .type "tuple") (hd : o.data = .seq items m)
    (each : ∀ v ∈ items.toList, ∀ Q' : Bool → Shared → Prop, Q' true s → wpAny (model P w) A (hashByValue n v) Q' E s) (h : Q true s) : wpAny (model P w) A (hashByValue (n + 1) (.ref a)) Q E s := by
  unfold hashByValue
  refine wpAny_bind (wpAny_specialOf ⟨o, ho, hc⟩ F.slot_tuple_hash.lookup ?_)
  refine wpAny_bind (show wpAny _ _ (seqItems? (.ref a)) _ _ s from wpAny_seqItems ho hd ?_)
  refine wpAny_bind ?_
  show wpAny _ _ (forIn items _ _) _ _ s
  rw [← Array.forIn_toList]
  refine wpAny_forIn_list _ (fun left r s' => r.1 = none ∧ s' = s ∧ ∀ v ∈ left, v ∈ items.toList) _ (fun v left r s' q => ?_) (fun r s' q => ?_) _ _ ⟨rfl, rfl, fun _ z => z⟩
  · obtain ⟨_, rfl, sub⟩ := q
    refine wpAny_bind (each v (sub v List.mem_cons_self) _ ?_)
    simp only [Bool.not_true, Bool.false_eq_true, if_false]
    exact wpAny_pure ⟨rfl, rfl, fun u z => sub u (List.mem_cons_of_mem _ z)⟩
  · obtain ⟨e, rfl, _⟩ := q
    obtain ⟨r1, r2⟩ := r
    cases e
    exact wpAny_pure h
theorem nested_mem {h : Heap} : ∀ {ks : List NestedKey} {vs : List Value}, NestedAll h ks vs → ∀ v ∈ vs, ∃ k ∈ ks, NestedIs h k v
  | _, _, .nil, v, hv => nomatch hv
  | _, _, .cons x t, v, hv => by
    rcases List.mem_cons.mp hv with e | hv
    · exact ⟨_, List.mem_cons_self, e ▸ x⟩
    · obtain ⟨k, hk, q⟩ := nested_mem t v hv
      exact ⟨k, List.mem_cons_of_mem _ hk, q⟩
theorem spot_parts {h : Heap} {sp : Spot} {vs : List Value} (x : NestedAll h [numK sp.1, .num sp.2] vs) : ∀ v ∈ vs, ∃ o, NestedIs h (numK o) v := fun v hv => by
  obtain ⟨k, hk, q⟩ := nested_mem x v hv
  rcases List.mem_cons.mp hk with e | hk
  · exact ⟨sp.1, e ▸ q⟩
  · rw [List.mem_singleton.mp hk] at q
    exact ⟨some sp.2, q⟩
theorem spot_ofa {v : Value} {sp : Spot} (n : Nat) (x : NestedIs s.heap (spotK sp) v) {Q : Bool → Shared → Prop} (h : Q false s) : wpAny (model P w) A (ofAClassStatement (n + 1) v) Q E s := by
  cases x with
  | tup h1 h2 h3 h4 =>
    refine ask_ofa h1 h2 h3 (fun v hv Q' q => ?_) h
    obtain ⟨o, y⟩ := spot_parts h4 v hv
    rw [part_ofa n y]
    exact wpAny_pure q
theorem spot_hby {v : Value} {sp : Spot} (n : Nat) (x : NestedIs s.heap (spotK sp) v) {Q : Bool → Shared → Prop} (h : Q true s) : wpAny (model P w) A (hashByValue (n + 1) v) Q E s := by
  cases x with
  | tup h1 h2 h3 h4 =>
    refine ask_hby h1 h2 h3 (fun v hv Q' q => ?_) h
    obtain ⟨o, y⟩ := spot_parts h4 v hv
    rw [part_hby n y]
    exact wpAny_pure q
theorem lab_ofa {l : Lab} {b : Addr} (x : IsLab s.heap l b) {Q : Bool → Shared → Prop} (h : Q false s) : wpAny (model P w) A (ofAClassStatement 8 (.ref b)) Q E s := by
  cases x with
  | tup h1 h2 h3 h4 =>
    refine ask_ofa (n := 7) h1 h2 h3 (fun v hv Q' q => ?_) h
    obtain ⟨k, hk, y⟩ := nested_mem h4 v hv
    obtain ⟨sp, _, rfl⟩ := List.mem_map.mp hk
    exact spot_ofa 6 y q
theorem lab_hby {l : Lab} {b : Addr} (x : IsLab s.heap l b) {Q : Bool → Shared → Prop} (h : Q true s) : wpAny (model P w) A (hashByValue 8 (.ref b)) Q E s := by
  cases x with
  | tup h1 h2 h3 h4 =>
    refine ask_hby (n := 7) h1 h2 h3 (fun v hv Q' q => ?_) h
    obtain ⟨k, hk, y⟩ := nested_mem h4 v hv
    obtain ⟨sp, _, rfl⟩ := List.mem_map.mp hk
    exact spot_hby 6 y q
theorem lab_eq {l m : Lab} {a b : Addr} (hu : A.units + 8 < cLine) (x : IsLab s.heap l a) (y : IsLab s.heap m b) {Q : Bool → Shared → Prop} (h : Q (decide (l = m)) s) : wpAny (model P w) A (eqBool (.ref a) (.ref b)) Q E s := by
  refine (nestedKind P w).eqBool hu ⟨x, labK_depth l⟩ ⟨y, labK_depth m⟩ ?_
  rw [show decide (labK l = labK m) = decide (l = m) from decide_eq_decide.mpr ⟨labK_inj, fun e => by rw [e]⟩]
  exact h
theorem lab_quiet {l : Lab} {b : Addr} (x : IsLab s.heap l b) {Q : Bool → Shared → Prop} (h : Q true s) : wpAny (model P w) A (eqIsQuiet 8 (.ref b)) Q E s := (nestedKind P w).quiet ⟨x, labK_depth l⟩ h
/-- a search among labels shows nothing -/
theorem labs_unseen {l : Lab} {b : Addr} (x : IsLab s.heap l b) {ys : List Value} (hy : ∀ y ∈ ys, ∃ m c, y = Value.ref c ∧ IsLab s.heap m c) {Q : Bool → Shared → Prop} (h : Q false s) :
    wpAny (model P w) A (searchCouldBeSeen (.ref b) ys) Q E s := by
  unfold searchCouldBeSeen
  refine wpAny_bind ?_
  refine wpAny_forIn_list _ (fun left r s' => r.1 = none ∧ s' = s ∧ ∀ y ∈ left, y ∈ ys) _ (fun v left r s' q => ?_) (fun r s' q => ?_) _ _ ⟨rfl, rfl, fun _ z => z⟩
  · obtain ⟨_, rfl, sub⟩ := q
    have sub' : ∀ y ∈ left, y ∈ ys := fun u z => sub u (List.mem_cons_of_mem _ z)
    obtain ⟨m, c, rfl, hc⟩ := hy v (sub v List.mem_cons_self)
    dsimp only
    by_cases very : (b == c || (carriedByValue (.ref b) && carriedByValue (.ref c))) = true
    · exact wp_if_pos very (wpAny_pure ⟨rfl, rfl, sub'⟩)
    · refine wp_if_neg very (wpAny_bind (lab_quiet x ?_))
      simp only [Bool.not_true, Bool.false_eq_true, if_false]
      refine wpAny_bind (lab_quiet hc ?_)
      simp only [Bool.not_true, Bool.false_eq_true, if_false]
      refine wpAny_bind (lab_ofa x ?_)
      simp only [Bool.false_eq_true, if_false]
      refine wpAny_bind (lab_ofa hc ?_)
      simp only [Bool.false_eq_true, if_false]
      exact wpAny_pure ⟨rfl, rfl, sub'⟩
  · obtain ⟨e, rfl, _⟩ := q
    obtain ⟨r1, r2⟩ := r
    cases e
    exact wpAny_pure h
end
end K42
/-! Sets of labels: the table. -/
namespace K42
open PySem PySem.Spec PyProof.Rows L2

/-- at a stands a set of the labels of L, laid in the table t -/
structure LSet (w : World) (h : Heap) (a : Addr) (L : List Row) (es : Array (Int × Value)) (ep : Nat) (t : SetTable) : Prop where
  obj : ∃ o, h.get? a = some o ∧ o.ExactSet ∧ o.data = .set es ep t
  rows : es.toList = L.map (rowL w)
  tab : TabOk t (L.map fun p => lh w p.2)
  uniq : (L.map (·.2)).Nodup
  labs : ∀ p ∈ L, IsLab h p.2 p.1
  plain : t.plain = true
  order : w.params.followText "set-order" = true ∨ t.led = true
  loose : L.length * 5 < t.mask * 3
  few : L.length < 64

section
variable {P : Program} {w : World} {A : Around} {E : Value → Shared → Prop} {s : Shared} {a : Addr} {L : List Row} {es : Array (Int × Value)} {ep : Nat} {t : SetTable}
theorem rows_size (h : es.toList = L.map (rowL w)) : es.size = L.length := by rw [← Array.length_toList, h, List.length_map]
theorem rows_at (h : es.toList = L.map (rowL w)) (i : Nat) : es[i]? = (L[i]?).map (rowL w) := by rw [← Array.getElem?_toList, h, List.getElem?_map]
theorem fits_of {n : Nat} (hs : t.place.size = n) (hd : t.dummies = #[]) (hm : n ≤ t.mask) : t.fits n = true := by
  unfold SetTable.fits SetTable.fill
  rw [hd, Bool.and_eq_true, beq_iff_eq, decide_eq_true_eq, hs]
  exact ⟨rfl, hm⟩
theorem LSet.placed (R : LSet w s.heap a L es ep t) : t.place.size = L.length := R.tab.sz.trans (List.length_map _)
theorem LSet.fits (R : LSet w s.heap a L es ep t) : t.fits es.size = true := by
  rw [rows_size R.rows]
  have := R.loose
  exact fits_of R.placed R.tab.dm (by omega)
theorem LSet.stands (R : LSet w s.heap a L es ep t) : ¬ t.gaveWay = true := by
  have := mask_odd R.tab.mok
  unfold SetTable.gaveWay
  rw [this]
  decide

theorem nth_dummy (m : Nat) : ∀ (n : Nat) (p : SetTable.Probe), p.dummy = none → (nth m p n).dummy = none
  | 0, _, h => h
  | n + 1, p, h => nth_dummy m n (adv m p) (by unfold adv; split <;> exact h)

/-- the search for the label k, from the c-th place of its way on -/
theorem look_from (R : LSet w s.heap a L es ep t) {x : Addr} {k : Lab} (hx : IsLab s.heap k x) (hu : A.units + 8 < cLine) {N : Nat} (hN : N < 10 * SetTable.turns t.mask) (free : way t.mask (lh w k) N ∉ t.place.toList)
    (full : ∀ c, c < N → way t.mask (lh w k) c ∈ t.place.toList) {Q : SetFound → Shared → Prop} (yes : k ∈ L.map (·.2) → Q (.there none) s) (no : k ∉ L.map (·.2) → Q (.free (way t.mask (lh w k) N) false) s) :
    ∀ (f c : Nat) (at_ : Option SetTable.Probe), at_.getD (t.probeStart (lh w k)) = nth t.mask (t.probeStart (lh w k)) c → c ≤ N → N - c < f →
      (∀ (i : Nat) (p : Row), L[i]? = some p → p.2 = k → ∃ c', c ≤ c' ∧ c' < N ∧ t.place.toList[i]? = some (way t.mask (lh w k) c')) → wpAny (model P w) A (setSearchFrom a (.ref x) (lh w k) true f at_) Q E s
  | 0, _, _, _, _, lt, _ => nomatch lt
  | f + 1, c, at_, begun, le, lt, ahead => by
    obtain ⟨o, ho, hex, hd⟩ := R.obj
    -- the places of the way, from here
    have step : ∀ q, nth t.mask (nth t.mask (t.probeStart (lh w k)) c) q = nth t.mask (t.probeStart (lh w k)) (c + q) := fun q => (nth_add t.mask c _ q).symm
    have place : ∀ q, (nth t.mask (nth t.mask (t.probeStart (lh w k)) c) q).j = way t.mask (lh w k) (c + q) := fun q => congrArg SetTable.Probe.j (step q)
    have toN : c + (N - c) = N := by omega
    have hashed : ∀ (i : Nat) (p : Row), L[i]? = some p → (es[i]?.map (·.1)).getD 0 = lh w p.2 := fun i p e => by rw [rows_at R.rows, e]; rfl
    have spec := go_spec t R.tab.ris R.tab.dm (fun i => (es[i]?.map (·.1)).getD 0) (lh w k) (10 * SetTable.turns t.mask) (N - c) _ (nth_dummy t.mask c _ rfl) (by omega)
      (fun q z => by rw [place]; exact full _ (by omega)) (by rw [place, toN]; exact free)
    rw [setSearchFrom_succ]
    refine wpAny_bind (wpAny_setState_of ho hd R.fits ?_)
    dsimp only
    refine wp_if_neg R.stands ?_
    try refine wpAny_bind (wpAny_pure ?_)
    rcases spec with ⟨q, i, hq, hi, hh, before, found⟩ | ⟨before, found⟩
    · rw [place] at hi
      have probed : t.probe (fun i => (es[i]?.map (·.1)).getD 0) (lh w k) (at_.getD (t.probeStart (lh w k))) = some (.candidate (way t.mask (lh w k) (c + q)) i (nth t.mask (t.probeStart (lh w k)) (c + (q + 1)))) := by
        rw [begun, ← place, ← step]; exact found
      rw [probed]
      dsimp only
      have iL : i < L.length := by
        have z := (List.getElem?_eq_some_iff.mp hi).1
        rw [Array.length_toList, R.placed] at z
        exact z
      obtain ⟨p, hp⟩ : ∃ p, L[i]? = some p := ⟨_, List.getElem?_eq_getElem iL⟩
      have mem : p ∈ L := List.mem_of_getElem? hp
      have entry : es[i]? = some (rowL w p) := by rw [rows_at R.rows, hp]; rfl
      have live : t.slot (way t.mask (lh w k) (c + q)) = .live i := slot_live R.tab.ris hi
      have go : wpAny (model P w) A (searchRest a (.ref x) (lh w k) true f es t (way t.mask (lh w k) (c + q)) i (nth t.mask (t.probeStart (lh w k)) (c + (q + 1)))) Q E s := by
        unfold searchRest
        rw [entry]
        dsimp only [rowL]
        refine wpAny_bind (wpAny_holding (lab_eq hu (R.labs p mem) hx ?_))
        refine wpAny_bind (wpAny_setState_of ho hd R.fits ?_)
        dsimp only
        rcases Classical.em (p.2 = k) with same | other
        · exact wp_if_pos (by simp [same]) (wpAny_pure (yes (List.mem_map.mpr ⟨p, mem, same⟩)))
        · refine wp_if_neg (by simp [other]) ?_
          try refine wpAny_bind (wpAny_pure ?_)
          rw [sameMem]
          dsimp only
          simp only [if_true, live, entry, rowL]
          refine wpAny_bind (wpAny_isSame_ref_self (wpAny_bind (wpAny_pure ?_)))
          simp only [if_true]
          refine wp_if_neg (by simp [other]) ?_
          refine look_from R hx hu hN free full yes no f (c + (q + 1)) _ rfl (by omega) (by omega) fun i0 p0 h0 hk0 => ?_
          obtain ⟨c', g1, g2, g3⟩ := ahead i0 p0 h0 hk0
          refine ⟨c', ?_, g2, g3⟩
          rcases Nat.lt_trichotomy c' (c + q) with z | z | z
          · refine absurd ((hashed i0 p0 h0).trans (congrArg (lh w) hk0)) (before (c' - c) i0 (by omega) ?_)
            rw [place, show c + (c' - c) = c' by omega]
            exact g3
          · rw [z] at g3
            have l2 := slot_live R.tab.ris g3
            rw [live] at l2
            injection l2 with l2
            rw [← l2, hp] at h0
            exact absurd ((congrArg Prod.snd (Option.some.inj h0)).trans hk0) other
          · omega
      by_cases led : t.led = true
      · refine wp_if_neg (by simp [led]) ?_
        try refine wpAny_bind (wpAny_pure ?_)
        exact go
      · refine wp_if_pos (by simp [led]) ?_
        refine wpAny_bind (labs_unseen hx (fun y hy => ?_) ?_)
        · obtain ⟨e, he, rfl⟩ := List.mem_map.mp hy
          have he2 : e ∈ es.toList := by
            have z : e ∈ es ∧ e.1 = lh w k := by simpa using he
            simpa using z.1
          rw [R.rows] at he2
          obtain ⟨p2, hp2, rfl⟩ := List.mem_map.mp he2
          exact ⟨p2.2, p2.1, rfl, R.labs p2 hp2⟩
        · refine wp_if_neg (by decide) ?_
          try refine wpAny_bind (wpAny_pure ?_)
          exact go
    · have probed : t.probe (fun i => (es[i]?.map (·.1)).getD 0) (lh w k) (at_.getD (t.probeStart (lh w k))) = some (.empty (way t.mask (lh w k) N) none) := by
        have z := place (N - c)
        rw [toN] at z
        rw [begun, ← z]; exact found
      rw [probed]
      dsimp only
      refine wpAny_pure (no fun hm => ?_)
      obtain ⟨p0, h0, hk0⟩ := List.mem_map.mp hm
      obtain ⟨i0, hi0⟩ := List.mem_iff_getElem?.mp h0
      obtain ⟨c', g1, g2, g3⟩ := ahead i0 p0 hi0 hk0
      refine before (c' - c) i0 (by omega) ?_ ((hashed i0 p0 hi0).trans (congrArg (lh w) hk0))
      rw [place, show c + (c' - c) = c' by omega]
      exact g3
/-- the whole search, for adding -/
theorem look_for (R : LSet w s.heap a L es ep t) {x : Addr} {k : Lab} (hx : IsLab s.heap k x) (hu : A.units + 8 < cLine) {Q : SetFound → Shared → Prop} (yes : k ∈ L.map (·.2) → Q (.there none) s)
    (no : ∀ N, k ∉ L.map (·.2) → way t.mask (lh w k) N ∉ t.place.toList → (∀ c, c < N → way t.mask (lh w k) c ∈ t.place.toList) → Q (.free (way t.mask (lh w k) N) false) s) : wpAny (model P w) A (setSearch a (.ref x) (lh w k) true) Q E s := by
  have lo := R.loose
  obtain ⟨N, lt, free, full⟩ := R.tab.first (by rw [List.length_map]; omega) (lh w k)
  have most : 10 * SetTable.turns t.mask ≤ 1420 := by
    unfold SetTable.turns
    rcases R.tab.mok with e | e | e <;> omega
  unfold setSearch
  refine look_from R hx hu lt free full yes (fun z => no N z free full) 100000 0 none rfl (Nat.zero_le _) (by omega) fun i p hp hk => ?_
  have iP : i < t.place.toList.length := by
    rw [Array.length_toList, R.placed]
    exact (List.getElem?_eq_some_iff.mp hp).1
  obtain ⟨c, lt, e⟩ := R.tab.before free (i := i) (h := lh w k) (by rw [List.getElem?_map, hp, ← hk]; rfl) (List.getElem?_eq_getElem iP)
  exact ⟨c, Nat.zero_le _, lt, by rw [e]; exact List.getElem?_eq_getElem iP⟩

/-- entries taken in another order -/
theorem rows_moved {order : Array Nat} (hr : es.toList = L.map (rowL w)) (hp : order.toList.Perm (List.range L.length)) :
    ∃ M : List Row, (order.filterMap (es[·]?)).toList = M.map (rowL w) ∧ M.Perm L ∧ (M.map fun p => lh w p.2) = order.toList.map fun i => (es.map (·.1)).getD i 0 := by
  have whole : (List.range L.length).filterMap (fun i => L[i]?) = L := by
    have up : ∀ n, n ≤ L.length → (List.range n).filterMap (fun i => L[i]?) = L.take n := by
      intro n
      induction n with
      | zero => intro _; rfl
      | succ n ih =>
        intro hn
        have one := List.getElem?_eq_getElem (l := L) hn
        rw [List.range_succ, List.filterMap_append, ih (Nat.le_of_lt hn), List.take_add_one, one, List.filterMap_cons_some one]
        rfl
    rw [up _ (Nat.le_refl _), List.take_length]
  refine ⟨order.toList.filterMap fun i => L[i]?, ?_, ?_, ?_⟩
  · rw [Array.toList_filterMap, List.map_filterMap]
    exact congrArg (fun f => List.filterMap f order.toList) (funext fun i => rows_at hr i)
  · have z := hp.filterMap fun i => L[i]?
    rw [whole] at z
    exact z
  · have inL : ∀ i ∈ order.toList, i < L.length := fun i hi => List.mem_range.mp (hp.mem_iff.mp hi)
    clear hp
    generalize order.toList = l at inL
    induction l with
    | nil => rfl
    | cons i l ih =>
      have one := List.getElem?_eq_getElem (l := L) (inL i List.mem_cons_self)
      rw [List.filterMap_cons_some one, List.map_cons, List.map_cons, ih fun j hj => inL j (List.mem_cons_of_mem _ hj)]
      have z : (es.map (·.1))[i]? = some (lh w (L[i]'(inL i List.mem_cons_self)).2) := by rw [Array.getElem?_map, rows_at hr, one]; rfl
      rw [Array.getD_eq_getD_getElem?, z]
      rfl
end
end K42
/-! Sets of labels: adding, set(list), its length. -/
namespace K42
open PySem PySem.Spec PyProof.Rows L2
section
variable {P : Program} {w : World} {A : Around} {E : Value → Shared → Prop} {s : Shared} {a : Addr} {L : List Row} {es : Array (Int × Value)} {ep : Nat} {t : SetTable}
/-- the table is laid anew with M + 1 places -/
theorem lay_anew {o : Obj} (ho : s.heap.get? a = some o) (hex : o.ExactSet) (hd : o.data = .set es ep t) (hr : es.toList = L.map (rowL w)) (hsz : t.place.size = es.size) (hdm : t.dummies = #[]) (hfl : es.size ≤ t.mask)
    (uq : (L.map (·.2)).Nodup) (lb : ∀ p ∈ L, IsLab s.heap p.2 p.1) (pl : t.plain = true) (od : w.params.followText "set-order" = true ∨ t.led = true) (few : L.length < 64) {wanted M : Nat}
    (hw : SetTable.sizeAbove wanted = M + 1) (hM : MaskOk M) (hM2 : M ≤ 127) (hn : L.length * 5 < M * 3) {Q : Unit → Shared → Prop}
    (hQ : ∀ h' L' es' ep' t', Heap.SameBut a s.heap h' → LSet w h' a L' es' ep' t' → L'.Perm L → Q () { s with heap := h' }) : wpAny (model P w) A (setRelay a wanted) Q E s := by
  have n1 := rows_size hr
  obtain ⟨t', order, laid, perm, tab, mask, led, plain, dum⟩ := relaid_ok t (hs := es.map (·.1)) (wanted := wanted) (M := M) (by rw [hw]; rfl) hM (by rw [Array.size_map, n1]; omega)
  rw [Array.size_map, n1] at perm
  obtain ⟨L2, e1, e2, e3⟩ := rows_moved hr perm
  rw [← e3] at tab
  have n2 : (order.filterMap (es[·]?)).size = es.size := by rw [rows_size e1, e2.length_eq, n1]
  rw [setRelay_eq]
  refine wpAny_bind (wpAny_setState_of ho hd (fits_of hsz hdm hfl) ?_)
  dsimp only
  refine wp_if_neg (by rw [hw, sizeLine_eq]; omega) ?_
  try refine wpAny_bind (wpAny_pure ?_)
  rw [laid]
  dsimp only
  refine wpAny_bind (wp_if_neg (by rw [n2]; simp) ?_)
  try refine wpAny_bind (wpAny_pure ?_)
  refine wpAny_pure ?_
  dsimp only
  refine wpAny_storeSet_of ho hd ?_ (by rw [n2, n1, sizeLine_eq]; omega)
  have sb : Heap.SameBut a s.heap (s.heap.update a (Obj.putSet (order.filterMap (es[·]?)) t')) := Heap.SameBut.update ..
  exact hQ _ L2 _ (ep + 1) t' sb ⟨⟨_, store_at ho hd, ⟨hex.1, hex.2.1, hex.2.2⟩, rfl⟩, e1, tab, (e2.map (·.2)).nodup_iff.mpr uq, fun p hp => isLab_but (lb p (e2.mem_iff.mp hp)) ho hd sb, plain.trans pl,
    by rw [led]; exact od, by rw [e2.length_eq, mask]; exact hn, by rw [e2.length_eq]; exact few⟩ e2

/-- a label is added -/
theorem add_lab (R : LSet w s.heap a L es ep t) {x : Addr} {k : Lab} (hx : IsLab s.heap k x) (hu : A.units + 8 < cLine) (few : L.length + 1 < 64) {Q : Bool → Shared → Prop}
    (hQ : ∀ b h' L' es' ep' t', Heap.SameBut a s.heap h' → LSet w h' a L' es' ep' t' → (k ∈ L.map (·.2) → L' = L) → (k ∉ L.map (·.2) → L'.Perm ((x, k) :: L)) → Q b { s with heap := h' }) :
    wpAny (model P w) A (setAddHashed a (.ref x) (lh w k)) Q E s := by
  obtain ⟨o, ho, hex, hd⟩ := R.obj
  have lo := R.loose
  unfold setAddHashed
  refine wpAny_holding ?_
  rw [show (100000 : Nat) = 99999 + 1 from rfl, setAddHashedIn_succ]
  refine wpAny_bind (wpAny_setState_of ho hd R.fits ?_)
  dsimp only
  refine wp_if_neg (by simp [byScan, Value.scannable]) ?_
  try refine wpAny_bind (wpAny_pure ?_)
  refine wpAny_bind (look_for R hx hu (fun hm => ?_) fun N hm free full => ?_)
  · exact wpAny_pure (hQ false s.heap L es ep t (Heap.SameBut.refl a s.heap) R (fun _ => rfl) fun z => absurd hm z)
  dsimp only
  refine wpAny_bind (wpAny_setState_of ho hd R.fits ?_)
  dsimp only
  obtain ⟨g1, g2, g3, g4, g5, g6, _, _, g9⟩ := R.tab.put free full
  have pl1 := g6.trans R.plain
  generalize hpt : t.put (way t.mask (lh w k) N) = pt at g1 g3 g4 g5 g6 g9 pl1 ⊢
  obtain ⟨t1, q⟩ := pt
  dsimp only at g1 g3 g4 g5 g6 g9 pl1 ⊢
  subst g1
  first
    | (refine wpAny_bind (wp_if_pos pl1 (lab_hby hx ?_)))
    | refine wp_if_pos pl1 (wpAny_bind (lab_hby hx ?_))
  simp only [if_true]
  have rows1 : (SetTable.insertAt es (SetTable.below t.place (way t.mask (lh w k) N)) (lh w k, Value.ref x)).toList = (L.take (SetTable.below t.place (way t.mask (lh w k) N)) ++ (x, k) :: L.drop (SetTable.below t.place (way t.mask (lh w k) N))).map (rowL w) := by
    rw [SetTable.toList_insertAt, R.rows, List.map_append, List.map_cons, List.map_take, List.map_drop]
    rfl
  generalize SetTable.below t.place (way t.mask (lh w k) N) = q at g2 g3 rows1 ⊢
  have perm := put_perm L q (x, k)
  have len1 := perm.length_eq
  rw [List.length_cons] at len1
  have tab1 : TabOk t1 ((L.take q ++ (x, k) :: L.drop q).map fun p => lh w p.2) := by
    rw [List.map_append, List.map_cons, List.map_take, List.map_drop]
    exact g3
  have uq1 : ((L.take q ++ (x, k) :: L.drop q).map (·.2)).Nodup := (perm.map (·.2)).nodup_iff.mpr (List.nodup_cons.mpr ⟨hm, R.uniq⟩)
  generalize SetTable.insertAt es q (lh w k, Value.ref x) = es1 at rows1 ⊢
  generalize L.take q ++ (x, k) :: L.drop q = L1 at perm len1 tab1 uq1 rows1
  have n1 := rows_size rows1
  refine wpAny_bind (wpAny_storeSet_of ho hd ?_ (by rw [n1, len1, sizeLine_eq]; omega))
  have sb : Heap.SameBut a s.heap (s.heap.update a (Obj.putSet es1 t1)) := Heap.SameBut.update ..
  have ho1 := store_at (es' := es1) (t' := t1) ho hd
  generalize s.heap.update a (Obj.putSet es1 t1) = h1 at sb ho1 ⊢
  have lb1 : ∀ p ∈ L1, IsLab h1 p.2 p.1 := fun p hp => by
    rcases List.mem_cons.mp (perm.mem_iff.mp hp) with e | hp
    · rw [e]; exact isLab_but hx ho hd sb
    · exact isLab_but (R.labs p hp) ho hd sb
  have od1 : w.params.followText "set-order" = true ∨ t1.led = true := by rw [g5]; exact R.order
  have fill : t1.tooFull = decide ((L.length + 1) * 5 ≥ t1.mask * 3) := by
    unfold SetTable.tooFull
    rw [g9, List.length_map]
  by_cases full1 : t1.tooFull = true
  · first
      | (refine wpAny_bind ?_; refine wp_if_pos (by simp [full1]) ?_)
      | (refine wp_if_pos (by simp [full1]) ?_; refine wpAny_bind ?_)
    have much := of_decide_eq_true (fill.symm.trans full1)
    rw [g4] at much
    have sz1 : t1.place.size = es1.size := by rw [tab1.sz, List.length_map, n1]
    rw [rows_size R.rows]
    have anew : ∀ M, SetTable.sizeAbove (SetTable.grown (L.length + 1)) = M + 1 → MaskOk M → M ≤ 127 → (L.length + 1) * 5 < M * 3 → L.length + 1 ≤ t.mask →
        wpAny (model P w) A (setRelay a (SetTable.grown (L.length + 1))) (fun _ s' => wpAny (model P w) A (pure true) Q E s') E { s with heap := h1 } := fun M z1 z2 z3 z4 z5 => by
      refine lay_anew (s := { s with heap := h1 }) (L := L1) ho1 ⟨hex.1, hex.2.1, hex.2.2⟩ rfl rows1 sz1 tab1.dm (by rw [n1, len1, g4]; exact z5) uq1 lb1 pl1 od1 (by rw [len1]; exact few) z1 z2 z3 (by rw [len1]; exact z4) ?_
      intro h2 L2 es2 ep2 t2 sb2 R2 perm2
      exact wpAny_pure (hQ true h2 L2 es2 ep2 t2 (sb.trans sb2) R2 (fun z => absurd z hm) fun _ => perm2.trans perm)
    rcases R.tab.mok with e | e | e <;> rw [e] at much lo
    · have e4 : L.length = 4 := by omega
      exact anew 31 (by rw [e4, size_20]) (.inr (.inl rfl)) (by decide) (by omega) (by omega)
    · have e18 : L.length = 18 := by omega
      exact anew 127 (by rw [e18, size_76]) (.inr (.inr rfl)) (by decide) (by omega) (by omega)
    · omega
  · first
      | refine wp_if_neg (by simp [full1]) ?_
      | (refine wpAny_bind ?_; refine wp_if_neg (by simp [full1]) ?_; refine wpAny_pure ?_)
    have little := of_decide_eq_false (fill.symm.trans (Bool.eq_false_iff.mpr full1))
    exact wpAny_pure (hQ true h1 L1 es1 (ep + 1) t1 sb ⟨⟨_, ho1, ⟨hex.1, hex.2.1, hex.2.2⟩, rfl⟩, rows1, tab1, uq1, lb1, pl1, od1, by rw [len1]; omega, by rw [len1]; exact few⟩ (fun z => absurd z hm) fun _ => perm)

/-- what has come in of the first i -/
structure In (ks : List Row) (i : Nat) (L : List Row) : Prop where
  from_ : ∀ p ∈ L, p ∈ ks.take i
  all : ∀ p ∈ ks.take i, p.2 ∈ L.map (·.2)
  len : L.length ≤ i
theorem In.next {ks L L' : List Row} {i : Nat} {x : Row} (g : In ks i L) (h : ks[i]? = some x) (c1 : x.2 ∈ L.map (·.2) → L' = L) (c2 : x.2 ∉ L.map (·.2) → L'.Perm (x :: L)) : In ks (i + 1) L' := by
  have tk : ks.take (i + 1) = ks.take i ++ [x] := by rw [List.take_add_one, h]; rfl
  rcases Classical.em (x.2 ∈ L.map (·.2)) with c | c
  · cases c1 c
    refine ⟨fun p hp => ?_, fun p hp => ?_, Nat.le_succ_of_le g.len⟩
    · rw [tk]; exact List.mem_append_left _ (g.from_ p hp)
    · rw [tk] at hp
      rcases List.mem_append.mp hp with z | z
      · exact g.all p z
      · cases List.mem_singleton.mp z; exact c
  · have perm := c2 c
    refine ⟨fun p hp => ?_, fun p hp => ?_, by rw [perm.length_eq]; exact Nat.succ_le_succ g.len⟩
    · rw [tk]
      rcases List.mem_cons.mp (perm.mem_iff.mp hp) with e | z
      · exact List.mem_append_right _ (List.mem_singleton.mpr e)
      · exact List.mem_append_left _ (g.from_ p z)
    · rw [(perm.map (·.2)).mem_iff]
      rw [tk] at hp
      rcases List.mem_append.mp hp with z | z
      · exact List.mem_cons_of_mem _ (g.all p z)
      · cases List.mem_singleton.mp z; exact List.mem_cons_self

theorem LSet.keep {h h' : Heap} (R : LSet w h a L es ep t) (ha : ∀ o, h.get? a = some o → h'.get? a = some o) (hl : ∀ p ∈ L, IsLab h' p.2 p.1) : LSet w h' a L es ep t :=
  let ⟨o, ho, r⟩ := R.obj
  ⟨⟨o, ha o ho, r⟩, R.rows, R.tab, R.uniq, hl, R.plain, R.order, R.loose, R.few⟩
abbrev bareSet (w : World) : Obj := { cls := .type "set", dict := none, data := .set #[] 0 (.fresh 0 0 (!w.params.followText "set-order")) }
theorem lset_bare {h : Heap} (ho : h.get? a = some (bareSet w)) : LSet w h a [] #[] 0 (.fresh 0 0 (!w.params.followText "set-order")) := by
  refine ⟨⟨_, ho, ⟨rfl, rfl, rfl⟩, rfl⟩, rfl, ⟨List.Pairwise.nil, rfl, rfl, .inl rfl, (fun x hx => nomatch hx), (fun i h j hi => nomatch (show none = some h from hi))⟩, List.nodup_nil, (fun p hp => nomatch hp), rfl, ?_, show 0 * 5 < 7 * 3 by decide, show 0 < 64 by decide⟩
  show _ ∨ (!w.params.followText "set-order") = true
  cases w.params.followText "set-order" <;> simp

/-- the loop that fills it -/
theorem fill_set {I : Addr} {fp wr : List Addr} {G : Array GenState → Array GenState → Prop} {n : Nat} {Pv : Nat → Value → Prop} {St : Nat → Shared → Prop} {R : Result → Shared → Prop}
    (W : WalksS P w A.in1 I fp wr G n Pv St) (S : Addr) (hSf : S ∉ fp) (ks : List Row) (hn : n = ks.length) (few : ks.length < 64) (val : ∀ i v, Pv i v → ∃ p, ks[i]? = some p ∧ v = .ref p.1)
    (h0 : Heap) (lab0 : ∀ p ∈ ks, IsLab h0 p.2 p.1) (noS : h0.get? S = none) (noW : ∀ b ∈ wr, h0.get? b = none) (hu : A.in1.units + 8 < cLine) :
    ∀ (j i : Nat) (s : Shared), n - i = j → i ≤ n → St i s → (∀ b o, h0.get? b = some o → s.heap.get? b = some o) → (∃ L es ep t, LSet w s.heap S L es ep t ∧ In ks i L) →
      (∀ s' L es ep t, Moved (S :: wr) G s s' → LSet w s'.heap S L es ep t → In ks n L → (∀ b o, h0.get? b = some o → s'.heap.get? b = some o) → R (.ok (.ret .none)) s') →
      codeAny (model P w) A (.builtin "set.update.loop" ⟨[.ref S, .ref I], []⟩) R s := by
  have noSw : S ∉ wr := fun z => hSf (W.sub _ z)
  have wide : ∀ b ∈ wr, b ∈ S :: wr := fun b z => List.mem_cons_of_mem _ z
  have old : ∀ {s s' : Shared}, Moved wr G s s' → (∀ b o, h0.get? b = some o → s.heap.get? b = some o) → ∀ b o, h0.get? b = some o → s'.heap.get? b = some o := fun m k b o e =>
    m.heap b o (fun z => nomatch (noW b z).symm.trans e) (k b o e)
  intro j
  induction j with
  | zero =>
    intro i s hj hi hst keep ⟨L, es, ep, t, hS, g⟩ hR
    cases (show i = n by omega)
    refine codeAny_builtin F.entry_set_update_loop ?_
    rw [Around.under_plainId F.plain_set_update_loop _]
    refine wpAny_bind (show wpAny _ A.in1 (pyNext (.ref I)) _ _ s from W.done s _ _ hst fun s' m => ?_)
    have keep' := old m keep
    have hS' : LSet w s'.heap S L es ep t := hS.keep (fun o e => m.heap S o noSw e) fun p hp => isLab_keep (lab0 p (List.mem_of_mem_take (g.from_ p hp))) keep'
    exact wpAny_pure (hR s' L es ep t (m.mono wide) hS' g keep')
  | succ j ih =>
    intro i s hj hi hst keep ⟨L, es, ep, t, hS, g⟩ hR
    have lt : i < n := by omega
    refine codeAny_builtin F.entry_set_update_loop ?_
    rw [Around.under_plainId F.plain_set_update_loop _]
    refine wpAny_bind (show wpAny _ A.in1 (pyNext (.ref I)) _ _ s from W.item i s _ _ lt hst fun v s' hP hst' m => ?_)
    obtain ⟨p, hp, rfl⟩ := val i v hP
    have keep' := old m keep
    have hS' : LSet w s'.heap S L es ep t := hS.keep (fun o e => m.heap S o noSw e) fun q hq => isLab_keep (lab0 q (List.mem_of_mem_take (g.from_ q hq))) keep'
    have hx : IsLab s'.heap p.2 p.1 := isLab_keep (lab0 p (List.mem_of_getElem? hp)) keep'
    refine wpAny_bind (show wpAny _ A.in1 (holding [Value.ref p.1] (setAdd S (.ref p.1))) _ _ s' from wpAny_holding ?_)
    unfold setAdd
    refine wpAny_holding (wpAny_bind ((nestedKind P w).pyHash (k := labK p.2) hu ⟨hx, labK_depth p.2⟩ ?_))
    refine add_lab (s := { s' with toks := s'.toks + (labK p.2).draws }) hS' hx hu (by have := g.len; omega) fun b h' L' es' ep' t' sb hS2 c1 c2 => ?_
    have keep2 : ∀ b o, h0.get? b = some o → h'.get? b = some o := fun b o e => (sb.2 b fun z => by subst z; exact nomatch noS.symm.trans e).trans (keep' b o e)
    refine wpAny_pure ⟨plainId_quiet F.plain_set_update_loop _, ih (i + 1) _ (by omega) lt (W.frame _ s' _ _ hst' (Nat.le_add_right _ _) fun b hb o e => ?_) keep2 ⟨L', es', ep', t', hS2, g.next hp c1 c2⟩ fun s'' L2 es2 ep2 t2 m'' hS'' g'' keep'' => ?_⟩
    · exact (sb.2 b fun z => hSf (z ▸ hb)).trans e
    · refine hR s'' L2 es2 ep2 t2 (Moved.trans W.gtrans ((m.mono wide).then_heap (Nat.le_add_right _ _) fun b o hb e => ?_) m'') hS'' g'' keep''
      exact (sb.2 b fun z => hb (by rw [z]; exact List.mem_cons_self)).trans e
end
end K42
/-! len(set(a list of labels)). -/
namespace K42
open PySem PySem.Spec PyProof.Rows L2
section
variable {P : Program} {w : World} {A : Around} {E : Value → Shared → Prop} {s : Shared}
abbrev withSet (w : World) (h : Heap) : Heap := h.push (bareSet w)
/-- what set.__init__ leaves -/
def FilledSet (w : World) (s : Shared) (ks : List Row) (s' : Shared) : Prop := ∃ h' tk L es ep t, s' = { s with heap := h', toks := tk } ∧ LSet w h' s.heap.objs.size L es ep t ∧ In ks ks.length L ∧ ∀ b o, s.heap.get? b = some o → h'.get? b = some o

set_option maxHeartbeats 4000000 in
theorem init_set {l : Addr} {items : Array Value} {B B0 : Around} (ks : List Row) (hh : B.handled = none) (hl : s.heap.IsList l items) (hit : items.toList = ks.map fun p => Value.ref p.1)
    (lab : ∀ p ∈ ks, IsLab s.heap p.2 p.1) (few : ks.length < 64) (hu : B.units + 16 < cLine) :
    wpAny (model P w) B (Builtin.«set.__init__» ⟨[.ref s.heap.objs.size, .ref l], []⟩)
      (fun fin s' => match fin with | .done f => wants (fun r s₂ => r = .none ∧ FilledSet w s ks s₂) E (.ok f) s' | .again c' => c'.quiet = true ∧ codeAny (model P w) B0 c' (wants (fun r s₂ => r = .none ∧ FilledSet w s ks s₂) E) s')
      (fun e s' => wants (fun r s₂ => r = .none ∧ FilledSet w s ks s₂) E (.error e) s') { s with heap := withSet w s.heap } := by
  have n1 : items.size = ks.length := by rw [← Array.length_toList, hit, List.length_map]
  obtain ⟨⟨oc, od, _, osl⟩, hol, hcl, nl, hdl⟩ := hl
  simp only at hcl hdl
  subst hcl hdl
  have gl : (withSet w s.heap).get? l = some { cls := .type "list", dict := od, data := .seq items nl, slots := osl } := Heap.get?_push_of_some _ hol
  have gS : (withSet w s.heap).get? s.heap.objs.size = some (bareSet w) := Heap.get?_push_size _ rfl
  have hT : Shared.TypeIs { s with heap := withSet w s.heap } (.ref s.heap.objs.size) "set" := ⟨_, gS, rfl⟩
  have hl1 : (withSet w s.heap).IsList l items := ⟨_, gl, rfl, nl, rfl⟩
  have lt : l < s.heap.objs.size := Heap.lt_size hol
  have h1 := F.sub_list_set
  have h2 := F.sub_list_frozenset
  have h3 : (Value.type "list" == Value.type "dict") = false := by decide
  have h4 := F.called_set.init.lookup
  have h5 := F.called_set.init.bind (.ref s.heap.objs.size)
  unfold Builtin.«set.__init__» noKeywords Builtin.Frozenset.updateFrom
  generalize hp : pyIter = walker
  wp_walk
  subst hp
  refine wpAny_pyIter_list hl1 ?_
  refine wpAny_bind (wpAny_runValue ?_)
  have absent : ∀ b, s.heap.objs.size ≤ b → s.heap.get? b = none := fun b hb => by
    cases q : s.heap.get? b with
    | none => rfl
    | some o => exact absurd (Nat.lt_of_lt_of_le (Heap.lt_size q) hb) (Nat.lt_irrefl _)
  have sz : (withSet w s.heap).objs.size = s.heap.objs.size + 1 := Heap.size_push ..
  have neI : l ≠ (withSet w s.heap).objs.size := by rw [sz]; exact Nat.ne_of_lt (Nat.lt_succ_of_lt lt)
  have notIn : s.heap.objs.size ∉ [(withSet w s.heap).objs.size, l] := by
    rw [sz]
    simp only [List.mem_cons, List.not_mem_nil, or_false, not_or]
    exact ⟨Nat.ne_of_lt (Nat.lt_succ_self _), Nat.ne_of_gt lt⟩
  have val : ∀ (i : Nat) (v : Value), items[i]? = some v → ∃ p, ks[i]? = some p ∧ v = .ref p.1 := fun i v hv => by
    rw [← Array.getElem?_toList, hit, List.getElem?_map] at hv
    obtain ⟨p, hp, e⟩ := Option.map_eq_some_iff.mp hv
    exact ⟨p, hp, e.symm⟩
  refine fill_set ((Walks.list (by simpa using hh) _ l neI items).toS) s.heap.objs.size notIn ks n1 few val s.heap lab (absent _ (Nat.le_refl _))
    (fun b hb => absent b (by rw [List.mem_singleton.mp hb, sz]; exact Nat.le_succ _)) ?_ (items.size - 0) 0 _ (by omega) (Nat.zero_le _)
    ⟨⟨_, Heap.get?_push_size _ rfl, rfl, rfl⟩, hl1.push _⟩ (fun b o e => Heap.get?_push_of_some _ (Heap.get?_push_of_some _ e)) ⟨[], #[], 0, _, lset_bare (Heap.get?_push_of_some _ gS), ⟨(fun p z => nomatch z), (fun p z => nomatch (show p ∈ [] from z)), Nat.le_refl _⟩⟩ ?_
  · simp only [Around.in1_units]
    omega
  · intro s' L es ep t m hS g keep
    obtain ⟨h', g', d', tk', os'⟩ := s'
    have e1 : g' = s.gens := m.gens
    have e2 : d' = s.drawn := m.drawn
    have e3 : os' = s.os := m.os
    subst e1 e2 e3
    rw [n1] at g
    refine wpAny_pure ?_
    exact (show wpAny _ _ (ret Value.none) _ _ _ from wpAny_pure ⟨rfl, h', tk', L, es, ep, t, rfl, hS, g, keep⟩)

set_option maxHeartbeats 4000000 in
/-- set(xs) -/
theorem call_setL {l : Addr} {items : Array Value} (ks : List Row) {Q : Value → Shared → Prop} (hh : A.handled = none) (hl : s.heap.IsList l items) (hit : items.toList = ks.map fun p => Value.ref p.1)
    (lab : ∀ p ∈ ks, IsLab s.heap p.2 p.1) (few : ks.length < 64) (hu : A.units + 32 < cLine) (h : ∀ s', FilledSet w s ks s' → Q (.ref s.heap.objs.size) s') : wpAny (model P w) A (call (.type "set") [.ref l]) Q E s := by
  obtain ⟨c, tl, hmro⟩ := F.called_set.mro
  have k1 := F.called_set.made
  have k2 := F.called_set.sub
  have k3 := F.called_set.notType
  have k4 := F.called_set.canCreate
  have k5 := F.typeCall_set_1 (.ref l)
  refine wpAny_call (codeAny_of_tree (show wpAny _ _ (callAny (.type "set") _) _ _ _ from wpAny_pure ⟨Code.quiet_builtin _ (by decide +kernel), codeAny_builtin F.entry_type_call ?_⟩))
  rw [Around.under_plain (weight_type_call_type "set" [.ref l] []) rfl]
  repeat (any_goals (first | assumption | wp_step))
  refine codeAny_mono (code_set_led1 (.ref l) (E := E) (Q₁ := fun obj s₁ => obj = .ref s.heap.objs.size ∧ s₁ = { s with heap := withSet w s.heap }) ⟨rfl, rfl⟩) fun r s₁ hr => ?_
  rcases r with e | fl
  · exact hr
  cases fl with
  | ret obj =>
    obtain ⟨rfl, rfl⟩ := hr
    have gS : (withSet w s.heap).get? s.heap.objs.size = some (bareSet w) := Heap.get?_push_size _ rfl
    have hT : Shared.TypeIs { s with heap := withSet w s.heap } (.ref s.heap.objs.size) "set" := ⟨_, gS, rfl⟩
    have k6 := F.called_set.init.lookup
    have k7 := F.called_set.init.bind (.ref s.heap.objs.size)
    repeat (any_goals (first | assumption | wp_step))
    refine codeAny_mono (codeAny_call_builtin (R := wants (fun r s₂ => r = .none ∧ FilledSet w s ks s₂) E) F.called_set.init.plain F.entry_set_init (check_set_init_1 hT ?_)) fun r₂ s₂ hr₂ => ?_
    · refine init_set ks ?_ hl hit lab few ?_
      · exact hh
      · simp only [Around.in1_units]
        omega
    · rcases r₂ with e | fl₂
      · exact hr₂
      cases fl₂ with
      | ret r =>
        obtain ⟨rfl, filled⟩ := hr₂
        repeat (any_goals (first | assumption | wp_step))
        exact h _ filled
      | _ => exact hr₂.elim
  | _ => exact hr.elim
end

/-! ### len(set(xs)) over the layer -/
/-- the labels of xs, with their addresses -/
def RowsAt (H : Hp) (xs : List V) (ls : List Lab) : Prop := Labs H xs ls
theorem rows_of {H : Hp} : ∀ {xs : List V} {ls : List Lab}, Labs H xs ls → ∃ ks : List Row, xs = ks.map (fun p => V.ref p.1) ∧ ls = ks.map (·.2) ∧ ∀ p ∈ ks, LabAt H (.ref p.1) p.2
  | _, _, .nil => ⟨[], rfl, rfl, fun p z => nomatch z⟩
  | _, _, .cons (b := l) x t => by
    obtain ⟨ks, e1, e2, e3⟩ := rows_of t
    obtain ⟨a, vs, rfl, _⟩ := id x
    refine ⟨(a, l) :: ks, by rw [e1]; rfl, by rw [e2]; rfl, fun p hp => ?_⟩
    rcases List.mem_cons.mp hp with rfl | hp
    · exact x
    · exact e3 p hp
theorem refs_vals : ∀ {ks : List Row} {us : List Value}, Vals (ks.map fun p => V.ref p.1) us → us = ks.map fun p => Value.ref p.1
  | [], _, .nil => rfl
  | p :: ks, _, .cons r t => by
    cases r
    rw [List.map_cons, ← refs_vals t]
theorem perm_within {α : Type} [BEq α] [LawfulBEq α] : ∀ {A B : List α}, A.Nodup → (∀ x ∈ A, x ∈ B) → B.length ≤ A.length → A.Perm B
  | [], B, _, _, h => by
    cases B with
    | nil => exact .nil
    | cons _ _ => exact absurd h (by simp)
  | a :: A, B, nd, sub, h => by
    have hb := sub a List.mem_cons_self
    obtain ⟨na, nd'⟩ := List.nodup_cons.mp nd
    have pe := List.perm_cons_erase hb
    have len := pe.length_eq
    rw [List.length_cons] at len h
    have sub' : ∀ x ∈ A, x ∈ B.erase a := fun x hx => by
      have z := pe.mem_iff.mp (sub x (List.mem_cons_of_mem _ hx))
      rcases List.mem_cons.mp z with e | z
      · exact absurd (e ▸ hx) na
      · exact z
    exact ((perm_within nd' sub' (by omega)).cons a).trans pe.symm
theorem nodup_len {α : Type} [BEq α] [LawfulBEq α] : ∀ {A B : List α}, A.Nodup → (∀ x ∈ A, x ∈ B) → A.length ≤ B.length
  | [], _, _, _ => Nat.zero_le _
  | a :: A, B, nd, sub => by
    have hb := sub a List.mem_cons_self
    obtain ⟨na, nd'⟩ := List.nodup_cons.mp nd
    have pe := List.perm_cons_erase hb
    have len := pe.length_eq
    rw [List.length_cons] at len ⊢
    have sub' : ∀ x ∈ A, x ∈ B.erase a := fun x hx => by
      have z := pe.mem_iff.mp (sub x (List.mem_cons_of_mem _ hx))
      rcases List.mem_cons.mp z with e | z
      · exact absurd (e ▸ hx) na
      · exact z
    have := nodup_len nd' sub'
    omega
/-- how many unlike labels -/
theorem uniq_len {ks L : List Row} (g : In ks ks.length L) (uq : (L.map (·.2)).Nodup) : L.length ≤ ks.length ∧ (L.length = ks.length ↔ (ks.map (·.2)).Nodup) := by
  have e := List.take_length (l := ks)
  have fr : ∀ p ∈ L, p ∈ ks := fun p hp => by have := g.from_ p hp; rwa [e] at this
  have al : ∀ p ∈ ks, p.2 ∈ L.map (·.2) := fun p hp => g.all p (by rw [e]; exact hp)
  have sub1 : ∀ x ∈ L.map (·.2), x ∈ ks.map (·.2) := fun x hx => by
    obtain ⟨p, hp, rfl⟩ := List.mem_map.mp hx
    exact List.mem_map.mpr ⟨p, fr p hp, rfl⟩
  have sub2 : ∀ x ∈ ks.map (·.2), x ∈ L.map (·.2) := fun x hx => by
    obtain ⟨p, hp, rfl⟩ := List.mem_map.mp hx
    exact al p hp
  refine ⟨g.len, fun h => ?_, fun h => ?_⟩
  · have z : (L.map (·.2)).length = (ks.map (·.2)).length := by rw [List.length_map, List.length_map, h]
    exact (perm_within uq sub1 (Nat.le_of_eq z.symm)).nodup_iff.mp uq
  · have z := nodup_len h sub2
    rw [List.length_map, List.length_map] at z
    exact Nat.le_antisymm g.len z

def tLenSetL (K : PySem.W.Frag) (ta : TE) : TE := fun σ H Q => ta σ H fun x H1 => ∃ (l : Addr) (xs : List V) (ls : List Lab), x = .ref l ∧ SqL K H1 l xs ∧ Labs H1 xs ls ∧ ls.length < 64 ∧ ∀ n : Nat, n ≤ ls.length → (n = ls.length ↔ ls.Nodup) → Q (.int n) H1
theorem pe_lenSetL {X : Cx} {a : Expr} {ta : TE} {p p2 q pos : Pos} (hg : Gl X "len") (hm : X.mg "len" = none) (hg2 : Gl X "set") (hm2 : X.mg "set" = none) (hu : X.A.units + 64 < cLine) (ha : PE X a ta) (hc : X.calm = true := by rfl)
    (na : starEach [a] X.env = (false, eval a X.env) :: starEach [] X.env := by rfl) : PE X (.Call (.Name "len" p) [.Call (.Name "set" p2) [a] [] q] [] pos) (tLenSetL X.K ta) := by
  refine ⟨fun pins s σ H Q I h => ?_⟩
  refine Call_ (ld_blt I hg hm boot_len (PyProof.Rows.callWith_builtin1 (PyProof.Rows.args_cons (Call_ (ld_blt I hg2 hm2 boot_set ?_)) rfl) rfl rfl))
  refine PyProof.Rows.callWith_type1 (PyProof.Rows.args_cons (thn (ha.run pins s σ H _ I h) fun v s1 ⟨x, H1, I1, r1, q1⟩ => PyProof.Rows.args_nil ?_) na) na rfl
  obtain ⟨l, xs, ls, rfl, hq, lb, few, q1⟩ := q1
  cases r1
  obtain ⟨ks, rfl, rfl, lab⟩ := rows_of lb
  rw [List.length_map] at few q1
  obtain ⟨its, r, pl, _⟩ := I1.list hq
  cases refs_vals r
  refine call_setL ks (I1.ok.hd hc) pl.isList (by simp) (fun p hp => (lab_is (P := X.prog) (w := X.w) I1.hok (lab p hp)).1) few (by omega) fun s2 ⟨h', tk, L, es, ep, t, e2, S, g, keep⟩ => ?_
  subst e2
  refine PyProof.Rows.args_nil ?_
  have I2 : Inv X pins σ H1 { s1 with heap := h', toks := tk } := I1.kept keep
  obtain ⟨o, ho, hex, hd⟩ := S.obj
  have n1 := rows_size S.rows
  have un := uniq_len g S.uniq
  refine call_len_set ho hex hd (S.fits (s := { s1 with heap := h' })) (by have := S.few; omega) ⟨.int (L.length : Nat), H1, I2.tok _, ⟨_, by rw [n1]⟩, q1 _ un.1 un.2⟩
end K42
/-! Labels in lists: in, index; list.extend of a tuple; max with a default. -/
namespace K42
open PySem PySem.Spec PyProof.Rows L2

/-! ### labels as data -/
def numD : Option Int → PyData
  | none => .none
  | some i => .int i
def spotD (s : Spot) : PyData := .tuple [numD s.1, .int s.2]
def labD (l : Lab) : PyData := .tuple (l.map spotD)
theorem keyV_dp {K : PySem.W.Frag} {H : Hp} (o : Option Int) : Dp K H (keyV o) (numD o) := by
  cases o with
  | none => exact .non
  | some i => exact .int i
theorem spot_dp {K : PySem.W.Frag} {H : Hp} {v : V} {s : Spot} (x : SpotAt H v s) : Dp K H v (spotD s) := by
  obtain ⟨a, rfl, e⟩ := x
  exact .tup (SqT.of e) (.cons (keyV_dp s.1) (.cons (.int s.2) .nil))
theorem spots_dp {K : PySem.W.Frag} {H : Hp} : ∀ {vs : List V} {l : Lab}, Paired (SpotAt H) vs l → DpAll K H vs (l.map spotD)
  | _, _, .nil => .nil
  | _, _, .cons x t => .cons (spot_dp x) (spots_dp t)
theorem lab_dp {K : PySem.W.Frag} {H : Hp} {v : V} {l : Lab} (x : LabAt H v l) : Dp K H v (labD l) := by
  obtain ⟨a, vs, rfl, e, p⟩ := x
  exact .tup (SqT.of e) (spots_dp p)
theorem labs_dp {K : PySem.W.Frag} {H : Hp} : ∀ {vs : List V} {ls : List Lab}, Labs H vs ls → DpAll K H vs (ls.map labD)
  | _, _, .nil => .nil
  | _, _, .cons x t => .cons (lab_dp x) (labs_dp t)
theorem numD_eqv : ∀ a b : Option Int, PyData.eqv (numD a) (numD b) = decide (a = b)
  | none, none => by simp [numD, PyData.eqv]
  | none, some _ => by simp [numD, PyData.eqv]
  | some _, none => by simp [numD, PyData.eqv]
  | some i, some j => by simp [numD, PyData.eqv, Bool.beq_eq_decide_eq]
theorem spotD_eqv (s t : Spot) : PyData.eqv (spotD s) (spotD t) = decide (s = t) := by
  obtain ⟨a, b⟩ := s
  obtain ⟨c, d⟩ := t
  simp only [spotD, PyData.eqv, PyData.eqvAll, numD_eqv, Bool.and_true]
  rw [Bool.eq_iff_iff]
  simp [Prod.ext_iff]
theorem spotsD_eqv : ∀ l m : Lab, PyData.eqvAll (l.map spotD) (m.map spotD) = decide (l = m)
  | [], [] => by simp [PyData.eqvAll]
  | [], _ :: _ => by simp [PyData.eqvAll]
  | _ :: _, [] => by simp [PyData.eqvAll]
  | s :: l, t :: m => by
    simp only [List.map_cons, PyData.eqvAll, spotD_eqv, spotsD_eqv l m]
    rw [Bool.eq_iff_iff]
    simp
theorem labD_eqv (l m : Lab) : PyData.eqv (labD l) (labD m) = decide (l = m) := by
  simp only [labD, PyData.eqv]
  exact spotsD_eqv l m
theorem numD_flat : ∀ o : Option Int, (numD o).canLay0 = true ∧ (numD o).depth = 0
  | none => ⟨by simp [numD, PyData.canLay0], by simp [numD, PyData.depth]⟩
  | some _ => ⟨by simp [numD, PyData.canLay0], by simp [numD, PyData.depth]⟩
theorem spotsD_lay : ∀ l : Lab, PyData.canLayAll0 (l.map spotD) = true ∧ PyData.depthAll (l.map spotD) ≤ 1
  | [] => ⟨by simp [PyData.canLayAll0], by simp [PyData.depthAll]⟩
  | s :: l => by
    have ih := spotsD_lay l
    have h := numD_flat s.1
    constructor
    · simp [PyData.canLayAll0, PyData.canLay0, spotD, h.1, ih.1]
    · have e : (spotD s).depth = 1 := by simp [spotD, PyData.depth, PyData.depthAll, h.2]
      simp only [List.map_cons, PyData.depthAll, e]
      have := ih.2
      omega
theorem labD_lay (l : Lab) : (labD l).canLay0 = true ∧ (labD l).depth ≤ 2 := by
  have h := spotsD_lay l
  refine ⟨by simp only [labD, PyData.canLay0]; exact h.1, ?_⟩
  simp only [labD, PyData.depth]
  have := h.2
  omega
theorem labsD_lay : ∀ ls : List Lab, PyData.canLayAll0 (ls.map labD) = true ∧ PyData.depthAll (ls.map labD) ≤ 2
  | [] => ⟨by simp [PyData.canLayAll0], by simp [PyData.depthAll]⟩
  | l :: ls => by
    have ih := labsD_lay ls
    have h := labD_lay l
    refine ⟨by simp [PyData.canLayAll0, h.1, ih.1], ?_⟩
    simp only [List.map_cons, PyData.depthAll]
    have := ih.2
    have := h.2
    omega
theorem labD_shaped (l : Lab) : SeqAt.shaped (labD l) = true := by
  have h := labD_lay l
  exact Bool.and_eq_true_iff.mpr ⟨h.1, decide_eq_true (by have := h.2; omega)⟩
theorem labsD_shaped (ls : List Lab) : SeqAt.shaped (.list (ls.map labD)) = true := by
  have h := labsD_lay ls
  refine Bool.and_eq_true_iff.mpr ⟨by simp only [PyData.canLay0]; exact h.1, decide_eq_true ?_⟩
  simp only [PyData.depth]
  have := h.2
  omega
theorem any_labD (ls : List Lab) (l : Lab) : ((ls.map labD).any fun z => PyData.eqv z (labD l)) = decide (l ∈ ls) := by
  rw [Bool.eq_iff_iff, List.any_eq_true, decide_eq_true_eq]
  constructor
  · rintro ⟨z, hz, e⟩
    obtain ⟨m, hm, rfl⟩ := List.mem_map.mp hz
    rw [labD_eqv] at e
    rw [← of_decide_eq_true e]
    exact hm
  · intro h
    exact ⟨labD l, List.mem_map.mpr ⟨l, h, rfl⟩, by rw [labD_eqv]; exact decide_eq_true rfl⟩

/-! ### l in xs, l not in xs, xs.index(l) -/
def rInLs (K : PySem.W.Frag) (neg : Bool) : R2 := fun x y H Q => ∃ (l : Lab) (p : Addr) (xs : List V) (ls : List Lab), y = .ref p ∧ LabAt H x l ∧ SqL K H p xs ∧ Labs H xs ls ∧ Q (.bl (if neg then !decide (l ∈ ls) else decide (l ∈ ls))) H
section
variable {X : Cx}
theorem op_inLs (hu : X.A.units + 65 < cLine) : OpR X (compareOp .In) (rInLs X.K false) := by
  intro pins s σ H x y v u Q I rx ry ⟨l, p, xs, ls, ey, hl, hs, hL, q⟩
  subst ey
  refine op_inD hu pins s σ H x _ v u Q I rx ry ⟨labD l, ls.map labD, lab_dp hl, .lst hs (labs_dp hL), labD_shaped l, labsD_shaped ls, ?_⟩
  rw [any_labD]
  exact q
theorem op_notInLs (hu : X.A.units + 65 < cLine) : OpR X (compareOp .NotIn) (rInLs X.K true) := by
  intro pins s σ H x y v u Q I rx ry ⟨l, p, xs, ls, ey, hl, hs, hL, q⟩
  subst ey
  refine op_notInD hu pins s σ H x _ v u Q I rx ry ⟨labD l, ls.map labD, lab_dp hl, .lst hs (labs_dp hL), labD_shaped l, labsD_shaped ls, ?_⟩
  rw [any_labD]
  exact q
def rIndexLs (K : PySem.W.Frag) : V → List V → Hp → VK → Prop := fun x ys H Q => ∃ (a : Addr) (y : V) (l : Lab) (xs : List V) (ls : List Lab), x = .ref a ∧ ys = [y] ∧ SqL K H a xs ∧ Labs H xs ls ∧ LabAt H y l ∧ l ∈ ls ∧ Q (.int (ls.idxOf l : Nat)) H
theorem mt_indexLs (hu : X.A.units + 65 < cLine) : MtR X "list.index" (rIndexLs X.K) := by
  intro pins s σ H x ys v us Q I rx rs ⟨a, y, l, xs, ls, ex, ey, hs, hL, hl, mem, q⟩
  have lt := List.idxOf_lt_length_iff.mpr mem
  have at_ : ls[ls.idxOf l]? = some l := by rw [List.getElem?_eq_getElem lt, List.getElem_idxOf]
  refine mt_indexD hu pins s σ H x ys v us Q I rx rs ⟨a, y, labD l, ls.map labD, ls.idxOf l, labD l, ex, ey, .lst hs (labs_dp hL), lab_dp hl, labsD_shaped ls, labD_shaped l, by rw [List.getElem?_map, at_]; rfl, by rw [labD_eqv]; exact decide_eq_true rfl, fun m z lt' hz => ?_, q⟩
  rw [List.getElem?_map] at hz
  obtain ⟨k, hk, rfl⟩ := Option.map_eq_some_iff.mp hz
  rw [labD_eqv]
  refine decide_eq_false fun e => ?_
  subst e
  obtain ⟨hm, e⟩ := List.getElem?_eq_some_iff.mp hk
  have := List.not_of_lt_findIdx (p := (· == k)) (xs := ls) (i := m) lt'
  simp [e] at this
end

/-! ### xs.extend(t), t a tuple -/
theorem extend_tup (l b : Addr) (items items2 : Array Value) (n n2 : Nat) (od : Option Addr) (sl : Array (Option Value)) (h0 : ¬(!items.isEmpty && Builtin.List.listTooLong (items.size + items2.size)) = true) (h1 : items.size ≤ sizeLine) (h2 : items.size + items2.size ≤ sizeLine + 1) :
    Meets (Builtin.«list.extend» ⟨[.ref l, .ref b], []⟩) (fun _ R s => s.heap.get? l = some { cls := .type "list", dict := none, data := .seq items n, slots := #[] } ∧ s.heap.get? b = some { cls := .type "tuple", dict := od, data := .seq items2 n2, slots := sl } ∧
      R (.ok (.ret Value.none)) { s with heap := s.heap.update l (Obj.mapSeq fun x => x ++ items2), toks := s.toks }) := by
  refine .of_wp fun prog w A R s h => ?_
  obtain ⟨hp, g, d, tk, os⟩ := s
  obtain ⟨hl, hb, h⟩ := h
  have f1 := AutoSeq1.idx_int
  have f2 := AutoSeq1.sub_tuple_tuple
  have f3 := AutoSeq1.sub_list_list
  have f4 := AutoSeq1.sub_tuple_list
  have f5 := AutoSeq1.sub_list_tuple
  have h2' : (items ++ items2).size ≤ sizeLine + 1 := by rw [Array.size_append]; exact h2
  wp_walk using (wpAny_updateSeq hl rfl (hz := h1) (_hz' := h2')), AutoSeq1.wpAny_loadPart' hl, AutoSeq1.wpAny_loadPart' hb
  exact ⟨_, rfl, h⟩
def rExtendT : V → List V → Hp → VK → Prop := fun x vs H Q => ∃ l b xs zs, x = .ref l ∧ vs = [.ref b] ∧ H l = some (.lst xs) ∧ H b = some (.tup zs) ∧ xs.length + zs.length ≤ sizeLine ∧ Q .non (upd H l (.lst (xs ++ zs)))
theorem mt_extendT {X : Cx} : MtM X "list.extend" rExtendT := by
  intro pins s σ H x vs v us Q I rx rv ⟨l, b, xs, zs, ex, ev, hH, hB, hz, q⟩
  subst ex ev
  cases rx
  obtain ⟨u, rfl, ru⟩ := rv.one
  cases ru
  obtain ⟨z, its, n, r, hl, e⟩ := I.lstM hH
  obtain ⟨z2, its2, r2, ⟨oc, od, dt, sl⟩, e2, c2, n2, d2⟩ := (show ObjOk X.prog X.w H s.heap b (.tup zs) from I.hok b _ hB)
  simp only at c2 d2
  subst c2 d2
  have l2 := r2.length
  have fits : its.toArray.size + its2.toArray.size ≤ sizeLine := by rw [List.size_toArray, List.size_toArray]; omega
  have short : ¬ (!its.toArray.isEmpty && Builtin.List.listTooLong (its.toArray.size + its2.toArray.size)) = true := by
    rw [notLongL fits, Bool.and_false]
    exact Bool.false_ne_true
  refine call_meets F.slot_list_extend ⟨_, e, rfl⟩ F.entry_list_extend (F.args_list_extend_2 _ _) (extend_tup l b its.toArray its2.toArray n n2 od sl short (by rw [List.size_toArray]; omega) (by omega)) ⟨e, e2, ?_⟩
  refine ⟨.non, _, I.lset (its' := its ++ its2) hH e (by simp) (r.append r2) ?_, rfl, q⟩
  rw [List.length_append]
  omega

/-! ### max(xs, default=d) of whole numbers -/
/-- the greatest, d where there is none -/
def maxD0 (d : Int) : List Int → Int
  | [] => d
  | x :: xs => xs.foldl (fun a y => if a < y then y else a) x
theorem maxOf_int (x d : Int) (xs : List Int) : W.maxOf x xs = maxD0 d (x :: xs) := by
  show xs.foldl _ x = xs.foldl _ x
  congr 1
  funext a y
  by_cases h : a < y
  · rw [if_pos h]; exact if_pos (decide_eq_true h)
  · rw [if_neg h]; exact if_neg (by rw [show W.DatumOrd.lt a y = decide (a < y) from rfl, decide_eq_false h]; exact Bool.false_ne_true)
theorem ints_hold {h : Heap} : ∀ {ns : List Int} {us : List Value}, Vals (ns.map V.int) us → W.HoldAll h us ns
  | [], _, .nil => ⟨_, .nil⟩
  | n :: ns, _, .cons r t => by
    obtain ⟨k, rfl⟩ := r
    obtain ⟨as, q⟩ := ints_hold (h := h) t
    exact ⟨_, .cons (.int n k) q⟩
def rMaxD (K : PySem.W.Frag) : List V → List V → Hp → VK → Prop := fun vs zs H Q => ∃ (a : Addr) (ns : List Int) (d : Int), vs = [V.ref a] ∧ zs = [V.int d] ∧ SqL K H a (ns.map V.int) ∧ Q (.int (maxD0 d ns)) H
theorem cr_maxD {X : Cx} (hc : X.calm = true) (hu : X.A.units + 64 < cLine) : CallRK X (.builtin "max") [("default" : Str)] (rMaxD X.K) := by
  intro pins s σ H vs zs us ws Q I r rz ⟨a, ns, d, e1, e2, hs, q⟩
  subst e1 e2
  obtain ⟨u, rfl, ru⟩ := r.one
  obtain ⟨w', rfl, rw'⟩ := rz.one
  cases ru
  obtain ⟨t, rfl⟩ := rw'
  obtain ⟨its, rv, pl, _⟩ := I.list hs
  refine W.max_list_datum_default (I.ok.hd hc) pl.isList (xs := ns) (by simpa using ints_hold rv) (by show X.A.units + 1 + 0 < cLine; omega) (fun e h' tk hk => ?_) fun y ys i v h' tk e hi hold hk => ?_
  · subst e
    exact ⟨.int d, H, I.kept hk, ⟨t, rfl⟩, q⟩
  · subst e
    obtain ⟨as, rd⟩ := hold
    rw [maxOf_int y d] at rd
    cases (show Reads h' v (.int (maxD0 d (y :: ys))) as from rd)
    exact ⟨.int (maxD0 d (y :: ys)), H, I.kept hk, ⟨_, rfl⟩, q⟩
end K42
/-! The text by places; what the defs share. -/
namespace K42
open PySem PySem.Spec PyProof.Rows L2

def top (i : Nat) : Stmt := PySem.Challenge.pw_viewwood_k42_whole_no_rising_row_is_long.main.body.getD i (.Pass ⟨0, 0, 0, 0⟩)
/-- a def of the top: its object, its name, its arguments -/
structure Known (K : PySem.W.Frag) (mg : Str → Option Value) (x : Str) (i : Nat) (ps : List Str) (f : Addr) (fd : FuncData) : Prop where
  F : Fun K x x (top i) f fd
  m : mg x = some (.ref f)
  b : Binds K fd ps []
/-- built-in names, a constant -/
structure Txt (mg : Str → Option Value) : Prop where
  len : mg "len" = none
  range : mg "range" = none
  tuple : mg "tuple" = none
  all : mg "all" = none
  isi : mg "isinstance" = none
  int : mg "int" = none
  bool : mg "bool" = none
  set : mg "set" = none
  max : mg "max" = none
  min : mg "min" = none
  abs : mg "abs" = none
  list : mg "list" = none
  sorted : mg "sorted" = none
  great : ∃ tk, mg "GREATEST" = some (.int 1000000000 tk)

theorem room65 {k : Nat} {A : Around} (hr : Room k A) : A.units + 65 < cLine := by have := hr.un; omega
/-! ### the heap but for the tape -/
def Kp (t : Addr) (H H' : Hp) : Prop := ∀ b o, b ≠ t → H b = some o → H' b = some o
theorem Kp.refl (t : Addr) (H : Hp) : Kp t H H := fun _ _ _ h => h
theorem Kp.trans {t : Addr} {H H1 H2 : Hp} (a : Kp t H H1) (b : Kp t H1 H2) : Kp t H H2 := fun c o n h => b c o n (a c o n h)
theorem Kp.same {t : Addr} {H H' : Hp} (a : Same H H') : Kp t H H' := fun c o _ h => a c o h
theorem same_new {H : Hp} {p : Addr} (h : H p = none) (o : HO) : Same H (upd H p o) := fun b u q => by rw [upd_ne (ne_of_none q h)]; exact q
/-- a store at what is new since H -/
theorem Kp.put {t p : Addr} {H H' : Hp} (a : Kp t H H') (h : H p = none) (o : HO) : Kp t H (upd H' p o) := fun b u n q => by rw [upd_ne (ne_of_none q h)]; exact a b u n q
theorem sm_put {p : Addr} {H H' : Hp} (a : Same H H') (h : H p = none) (o : HO) : Same H (upd H' p o) := fun b u q => by rw [upd_ne (ne_of_none q h)]; exact a b u q
theorem sm_tups {H H' : Hp} (a : Same H H') : Tups H H' := fun b xs h => a b _ h
/-- a tape: the script, how many draws, the rest of a cell, the next cell -/
def TapeAt (t scr : Addr) (H : Hp) : Prop := ∃ i j k : Int, H t = some (.lst [.ref scr, .int i, .int j, .int k]) ∧ 0 ≤ j ∧ 0 ≤ k
def ScrOk (K : PySem.W.Frag) (t scr : Addr) (H : Hp) : Prop := ∃ ns : List Int, ns.length ≤ 63 ∧ ((scr ≠ t ∧ Rd H scr (.lst (ns.map V.int))) ∨ ∀ H' : Hp, SqL K H' scr (ns.map V.int))
structure Tape (K : PySem.W.Frag) (t scr : Addr) (H : Hp) : Prop where
  at_ : TapeAt t scr H
  scr : ScrOk K t scr H
theorem ScrOk.kp {K : PySem.W.Frag} {t scr : Addr} {H H' : Hp} (h : ScrOk K t scr H) (k : Kp t H H') : ScrOk K t scr H' := by
  obtain ⟨ns, l, s⟩ := h
  refine ⟨ns, l, ?_⟩
  rcases s with ⟨n, s | ⟨o, s⟩⟩ | s
  · exact .inl ⟨n, .inl (k _ _ n s)⟩
  · exact .inl ⟨n, .inr ⟨o, k _ _ n s⟩⟩
  · exact .inr s
theorem ScrOk.of {K : PySem.W.Frag} {t scr : Addr} {H : Hp} {ns : List Int} (h : SqL K H scr (ns.map V.int)) (l : ns.length ≤ 63) (n : H t = none) : ScrOk K t scr H := by
  refine ⟨ns, l, ?_⟩
  rcases h with s | s
  · refine .inl ⟨?_, s⟩
    rcases s with s | ⟨o, s⟩
    · exact ne_of_none s n
    · exact ne_of_none s n
  · exact .inr fun _ => .inr s
theorem Tape.tups {K : PySem.W.Frag} {t scr : Addr} {H H' : Hp} (h : Tape K t scr H) (k : Kp t H H') : Tups H H' := fun b xs e => by
  obtain ⟨i, j, m, e2, _⟩ := h.at_
  exact k b _ (ne_of e e2 (fun z => nomatch z)) e
/-- what is kept, and a tape again -/
structure Turned (t scr : Addr) (H H' : Hp) : Prop where
  kp : Kp t H H'
  at_ : TapeAt t scr H'
theorem Tape.on {K : PySem.W.Frag} {t scr : Addr} {H H' : Hp} (h : Tape K t scr H) (k : Turned t scr H H') : Tape K t scr H' := ⟨k.at_, h.scr.kp k.kp⟩
theorem Turned.trans {t scr : Addr} {H H1 H2 : Hp} (a : Turned t scr H H1) (b : Turned t scr H1 H2) : Turned t scr H H2 := ⟨a.kp.trans b.kp, b.at_⟩
theorem TapeAt.ne {t scr p : Addr} {H : Hp} (h : TapeAt t scr H) (n : H p = none) : t ≠ p := by
  obtain ⟨i, j, k, e, _⟩ := h
  exact ne_of_none e n
theorem TapeAt.put {t scr p : Addr} {H : Hp} (h : TapeAt t scr H) (n : t ≠ p) (o : HO) : TapeAt t scr (upd H p o) := by
  obtain ⟨i, j, k, e, r⟩ := h
  exact ⟨i, j, k, by rw [upd_ne n]; exact e, r⟩
theorem TapeAt.same {t scr : Addr} {H H' : Hp} (h : TapeAt t scr H) (s : Same H H') : TapeAt t scr H' := by
  obtain ⟨i, j, k, e, r⟩ := h
  exact ⟨i, j, k, s _ _ e, r⟩
theorem Turned.put {t scr p : Addr} {H H' : Hp} (a : Turned t scr H H') (h : H p = none) (n : t ≠ p) (o : HO) : Turned t scr H (upd H' p o) := ⟨a.kp.put h o, a.at_.put n o⟩
theorem Turned.of {K : PySem.W.Frag} {t scr : Addr} {H H' : Hp} (h : Tape K t scr H) (s : Same H H') : Turned t scr H H' := ⟨Kp.same s, h.at_.same s⟩
theorem Turned.same {t scr : Addr} {H H1 H2 : Hp} (a : Turned t scr H H1) (s : Same H1 H2) : Turned t scr H H2 := ⟨a.kp.trans (Kp.same s), a.at_.same s⟩
/-- what is no tape's was not there -/
theorem Turned.free {t scr p : Addr} {H H' : Hp} (a : Turned t scr H H') (h : H' p = none) : H p = none := by
  cases e : H p with
  | none => rfl
  | some o =>
    have n := a.at_.ne h
    rw [a.kp p o (Ne.symm n) e] at h
    cases h
end K42
namespace K42
open PySem PySem.Spec PyProof.Rows L2
/-! ### _law_tape, _law_draw -/
section
variable {P : Program} {w : World} {K : PySem.W.Frag} {mg : Str → Option Value} {base : Heap} {f : Addr} {fd : FuncData}
def spTape : Sp := fun vs H Q _ => ∃ scr, vs = [.ref scr] ∧ ∀ t, H t = none → Q (.ref t) (upd H t (.lst [.ref scr, .int 0, .int 0, .int 0]))
theorem scTape : FnScope ["_law_script"] ["_law_script"] (defScope (top 15)) := ⟨rfl, rfl, rfl, by decide +kernel, rfl, by decide +kernel, by decide +kernel⟩
theorem ok_tape (D : Known K mg "_law_tape" 15 ["_law_script"] f fd) : FnOk P w K mg base CX0 1 f fd ["_law_script"] spTape := by
  refine D.F.ok scTape (fun vs H Q E h => ?_) (fun cdv A outer s H vs Q E hr h => ?_)
  · obtain ⟨scr, rfl, _⟩ := h
    rfl
  · obtain ⟨scr, rfl, k⟩ := h
    refine ⟨_, pss_one (ps_ret (pe_lst (pa_cons (pv 0) (pa_cons pe_int (pa_cons pe_int (pa_cons pe_int pa_nil)))))), ?_⟩
    exact ⟨_, rfl, by show 4 ≤ sizeLine; decide, fun p hp => k p hp⟩
def spDraw (K : PySem.W.Frag) : Sp := fun vs H Q _ => ∃ (t scr : Addr) (m : Int), vs = [.ref t, .int m] ∧ 0 < m ∧ m < 2 ^ 20 ∧ Tape K t scr H ∧ ∀ d H', 0 ≤ d → d < m → Turned t scr H H' → Q (.int d) H'
theorem scDraw : FnScope ["_law_tape_here", "_law_many", "_law_script", "_law_digit", "_law_cell", "_law_mixed"] ["_law_tape_here", "_law_many"] (defScope (top 16)) := ⟨rfl, rfl, rfl, by decide +kernel, rfl, by decide +kernel, by decide +kernel⟩
theorem ok_draw (D : Known K mg "_law_draw" 16 ["_law_tape_here", "_law_many"] f fd) (T : Txt mg) : FnOk P w K mg base CX0 1 f fd ["_law_tape_here", "_law_many"] (spDraw K) := by
  refine D.F.ok scDraw (fun vs H Q E h => ?_) (fun cdv A outer s H vs Q E hr h => ?_)
  · obtain ⟨t, scr, m, rfl, _⟩ := h
    rfl
  obtain ⟨t, scr, m, rfl, m0, m1, tp, k⟩ := h
  -- tape[i]
  have it : ∀ {X : Cx} {e : Expr} {te : TE} {p q : Pos} {n : Int} {j : Nat}, PE X e te → PE X (.Subscript e (.Constant (.int n) j p) q) (tOp (rIxL X.K) te (tC (.int n))) := fun h => pe_ix ix_list h pe_int (fun _ _ => rfl)
  refine ⟨_, pss_cons (ps_set (i := 2) scDraw.nd rfl (Or.inl rfl) (it (pv 0)))
    (pss_cons (ps_asg (pe_op op_add (it (pv 0)) pe_int) (pg_sub (pv 0) pe_int set_list))
    (C8.pss_cut (ps_if (PW.pt (pw_and (pt_cmpR op_eq (it (pv 0)) pe_int (nomark _)) (pw_and1 (pt_cmpR op_lt (it (pv 0)) (pe_callB call_len_seq (by rfl) T.len PySem.boot_len (pa_cons (pv 2) pa_nil)) (nomark _)))))
      (pss_cons (ps_asg (pe_op op_fdivW (pe_callB call_abs (by rfl) T.abs (by decide +kernel) (pa_cons (pe_ix ix_list (pv 2) (it (pv 0)) (fun _ _ => rfl)) pa_nil)) (pe_op op_pow pe_int pe_int)) (pg_sub (pv 0) pe_int set_list))
        (pss_one (ps_asg (pe_op op_add (it (pv 0)) pe_int) (pg_sub (pv 0) pe_int set_list)))) pss_nil)
    (pss_cons (ps_if (pt_cmpR op_gt (it (pv 0)) pe_int (nomark _))
      (pss_cons (ps_set (i := 3) scDraw.nd rfl (Or.inl rfl) (pe_op op_mod (it (pv 0)) (pv 1)))
        (pss_cons (ps_asg (pe_op op_fdiv (it (pv 0)) (pv 1)) (pg_sub (pv 0) pe_int set_list)) (pss_one (ps_ret (pv 3))))) pss_nil)
    (pss_cons (ps_set (i := 4) scDraw.nd rfl (Or.inl rfl) pe_int)
    (C8.pss_cut (ps_if (pt_cmpR op_gt (pe_callB call_len_seq (by rfl) T.len PySem.boot_len (pa_cons (pv 2) pa_nil)) pe_int (nomark _))
      (pss_one (ps_set (i := 4) scDraw.nd rfl (Or.inl rfl) (pe_ix ix_list (pv 2) (pe_op op_mod (it (pv 0)) (pe_callB call_len_seq (by rfl) T.len PySem.boot_len (pa_cons (pv 2) pa_nil))) (fun _ _ => rfl)))) pss_nil)
    (pss_cons (ps_set (i := 5) scDraw.nd rfl (Or.inl rfl) (pe_op op_mod (pe_op op_add (pe_op op_add (pe_op op_mul (pe_op op_mod (pv 4) pe_int) pe_int) (pe_op op_mul (it (pv 0)) pe_int)) pe_int) pe_int))
    (pss_cons (ps_set (i := 5) scDraw.nd rfl (Or.inl rfl) (pe_op op_mod (pe_op op_mul (pv 5) (pe_op op_add (pv 5) pe_int)) pe_int))
    (pss_one (ps_ret (pe_op op_mod (pe_op op_mod (pe_op op_mul (pv 5) pe_int) pe_int) (pv 1))))))))))), ?_⟩
  obtain ⟨⟨i, j, c, hT, j0, c0⟩, ns, l63, hS⟩ := id tp
  have sl : ∀ {H'}, Kp t H H' → SqL K H' scr (ns.map V.int) := fun {H'} kp => by
    rcases hS with ⟨ne, z | ⟨o, z⟩⟩ | z
    · exact .inl (.inl (kp _ _ ne z))
    · exact .inl (.inr ⟨o, kp _ _ ne z⟩)
    · exact z H'
  have cellAt : ∀ {z : Int}, 0 ≤ z → z < (ns.length : Int) → ∃ v, atI (ns.map V.int) z = some (.int v) := fun {z} z0 z1 => by
    have lt : z.toNat < ns.length := by omega
    refine ⟨ns[z.toNat], ?_⟩
    have q : atI (ns.map V.int) ((z.toNat : Nat) : Int) = some (.int ns[z.toNat]) := atI_nat (by rw [List.getElem?_map, List.getElem?_eq_getElem lt]; rfl)
    rwa [show ((z.toNat : Nat) : Int) = z by omega] at q
  refine ⟨_, rfl, t, _, 0, _, rfl, rfl, SqL.of hT, rfl, ?_⟩
  refine ⟨_, rfl, t, _, 1, _, rfl, rfl, SqL.of hT, rfl, _, _, rfl, rfl, _, rfl, t, _, 1, 1, rfl, rfl, hT, rfl, ?_⟩
  have kp1 : Kp t H (upd H t (.lst ([.ref scr, .int i, .int j, .int c].set 1 (.int (i + 1))))) := fun b o n e => by rw [upd_ne n]; exact e
  have hT1 : upd H t (.lst ([.ref scr, .int i, .int j, .int c].set 1 (.int (i + 1)))) t = some (.lst [.ref scr, .int (i + 1), .int j, .int c]) := upd_same
  generalize upd H t (.lst ([.ref scr, .int i, .int j, .int c].set 1 (.int (i + 1)))) = H1 at kp1 hT1 ⊢
  -- the cell is filled, or not
  refine ⟨fun σ H' => σ = [some (.ref t), some (.int m), some (.ref scr), none, none, none] ∧ Turned t scr H H', ?_, ?_⟩
  · refine ⟨_, rfl, t, _, 2, _, rfl, rfl, SqL.of hT1, rfl, rfl, _, rfl, ?_⟩
    refine ite2 (fun e => ?_) (fun e => ?_)
    · refine ⟨_, rfl, t, _, 3, _, rfl, rfl, SqL.of hT1, rfl, _, rfl, scr, _, rfl, .inl (sl kp1), _, _, rfl, rfl, _, rfl, ?_⟩
      refine ite2 (fun e2 => ?_) (fun e2 => ?_)
      · rw [decide_eq_true_eq, List.length_map] at e2
        obtain ⟨v, hv⟩ := cellAt c0 e2
        refine ⟨_, rfl, _, rfl, t, _, 3, _, rfl, rfl, SqL.of hT1, rfl, scr, _, _, _, rfl, rfl, sl kp1, hv, _, rfl, _, _, rfl, rfl, ⟨by decide, by decide, by decide⟩, _, _, rfl, rfl, ⟨by decide, by decide +kernel⟩, ?_⟩
        refine ⟨_, rfl, t, _, 2, 2, rfl, rfl, hT1, rfl, ?_⟩
        have q0 : 0 ≤ (if v < 0 then -v else v) / (10 ^ (18 : Int).toNat : Int) := Int.ediv_nonneg (by split <;> omega) (by decide)
        refine ⟨_, rfl, t, _, 3, _, rfl, rfl, SqL.of upd_same, rfl, _, _, rfl, rfl, _, rfl, t, _, 3, 3, rfl, rfl, upd_same, rfl, rfl, ?_⟩
        exact ⟨fun b o n e => by rw [upd_ne n, upd_ne n]; exact kp1 b o n e, _, _, _, upd_same, q0, by omega⟩
      · exact ⟨rfl, kp1, _, _, _, hT1, j0, c0⟩
    · exact iteF ⟨rfl, kp1, _, _, _, hT1, j0, c0⟩
  clear kp1 hT1
  rintro _ H2 ⟨rfl, tu⟩
  obtain ⟨kp2, i2, j2, c2, hT2, j20, c20⟩ := id tu
  refine ⟨_, rfl, t, _, 2, _, rfl, rfl, SqL.of hT2, rfl, _, _, rfl, rfl, _, rfl, ?_⟩
  refine ite2 (fun e => ?_) (fun e => ?_)
  · refine ⟨_, rfl, t, _, 2, _, rfl, rfl, SqL.of hT2, rfl, _, rfl, _, _, rfl, rfl, m0, ?_⟩
    refine ⟨_, rfl, t, _, 2, _, rfl, rfl, SqL.of hT2, rfl, _, rfl, _, _, rfl, rfl, ⟨m0, by omega⟩, _, rfl, t, _, 2, 2, rfl, rfl, hT2, rfl, ?_⟩
    refine ⟨_, rfl, k _ _ (Int.emod_nonneg _ (by omega)) (Int.emod_lt_of_pos _ m0) ⟨fun b o n e => by rw [upd_ne n]; exact kp2 b o n e, _, _, _, upd_same, Int.ediv_nonneg j20 (by omega), c20⟩⟩
  · refine ⟨fun σ H' => H' = H2 ∧ ∃ v : Int, σ = [some (.ref t), some (.int m), some (.ref scr), none, some (.int v), none], ?_, ?_⟩
    · refine ⟨_, rfl, scr, _, rfl, .inl (sl kp2), _, _, rfl, rfl, _, rfl, ?_⟩
      refine ite2 (fun e => ?_) (fun e => ?_)
      · rw [decide_eq_true_eq, List.length_map] at e
        obtain ⟨v, hv⟩ := cellAt (z := i2 % ((ns.map V.int).length : Int)) (Int.emod_nonneg _ (by rw [List.length_map]; omega)) (by rw [List.length_map]; exact Int.emod_lt_of_pos _ e)
        refine ⟨_, rfl, _, rfl, t, _, 1, _, rfl, rfl, SqL.of hT2, rfl, _, rfl, scr, _, rfl, .inl (sl kp2), _, _, rfl, rfl, by rw [List.length_map]; exact e, scr, _, _, _, rfl, rfl, sl kp2, hv, rfl, v, rfl⟩
      · exact ⟨rfl, 0, rfl⟩
    rintro _ _ ⟨rfl, v, rfl⟩
    refine ⟨_, rfl, _, _, rfl, rfl, (by show (0 : Int) < 2147483647; decide), _, _, rfl, rfl, .inr ⟨by decide, by decide⟩, _, rfl, t, _, 1, _, rfl, rfl, SqL.of hT2, rfl, _, _, rfl, rfl, .inr ⟨by decide, by decide⟩, _, _, rfl, rfl, _, _, rfl, rfl, _, _, rfl, rfl, (by show (0 : Int) < 2147483629; decide), ?_⟩
    have x0 : 0 ≤ (v % 2147483647 * 48271 + i2 * 7919 + 12345) % 2147483629 := Int.emod_nonneg _ (by decide)
    have x1 : (v % 2147483647 * 48271 + i2 * 7919 + 12345) % 2147483629 < 2147483629 := Int.emod_lt_of_pos _ (by decide)
    refine ⟨_, rfl, _, rfl, _, _, rfl, rfl, _, _, rfl, rfl, .inl ⟨Int.lt_of_lt_of_le (by decide) x0, Int.lt_trans x1 (by decide)⟩, _, _, rfl, rfl, (by show (0 : Int) < 2147483587; decide), ?_⟩
    refine ⟨_, rfl, _, _, rfl, rfl, .inr ⟨by decide, by decide⟩, _, _, rfl, rfl, (by show (0 : Int) < 2147483563; decide), _, rfl, _, _, rfl, rfl, m0, ?_⟩
    exact k _ _ (Int.emod_nonneg _ (by omega)) (Int.emod_lt_of_pos _ m0) tu
end
end K42
namespace K42
open PySem PySem.Spec PyProof.Rows L2
/-! ### _law_number, _law_spot, _law_label, _law_labels -/
def SpotOk (s : Spot) : Prop := (∀ k, s.1 = some k → -1000000000 ≤ k ∧ k ≤ 1000000000) ∧ 0 ≤ s.2
def LabOk (l : Lab) : Prop := l ≠ [] ∧ (∀ s ∈ l, SpotOk s) ∧ l.length ≤ 3
/-- at p a list of the labels ls -/
def LsAt (H : Hp) (p : Addr) (ls : List Lab) : Prop := ∃ vs, H p = some (.lst vs) ∧ Labs H vs ls
/-- at p a tuple of the labels ls -/
def TsAt (H : Hp) (p : Addr) (ls : List Lab) : Prop := ∃ vs, H p = some (.tup vs) ∧ Labs H vs ls
theorem LsAt.at {H H' : Hp} {p : Addr} {ls : List Lab} (h : LsAt H p ls) (t : Tups H H') (e : H' p = H p) : LsAt H' p ls := by
  obtain ⟨vs, e1, l⟩ := h
  exact ⟨vs, by rw [e]; exact e1, labs_mono t l⟩
theorem TsAt.mono {H H' : Hp} {p : Addr} {ls : List Lab} (h : TsAt H p ls) (t : Tups H H') : TsAt H' p ls := by
  obtain ⟨vs, e, l⟩ := h
  exact ⟨vs, t _ _ e, labs_mono t l⟩
theorem Paired.len_eq {α β : Type} {F : α → β → Prop} {a : List α} {b : List β} (h : Paired F a b) : a.length = b.length := Paired.length h

section
variable {P : Program} {w : World} {K : PySem.W.Frag} {mg : Str → Option Value} {base : Heap} {f g g2 : Addr} {fd gd gd2 : FuncData}
def spNumber (K : PySem.W.Frag) : Sp := fun vs H Q _ => ∃ t scr, vs = [.ref t] ∧ Tape K t scr H ∧ ∀ (n : Int) H', -1000000000 ≤ n → n ≤ 1000000000 → Turned t scr H H' → Q (.int n) H'
theorem scNumber : FnScope ["_law_tape_here"] ["_law_tape_here"] (defScope (top 17)) := ⟨rfl, rfl, rfl, by decide +kernel, rfl, by decide +kernel, by decide +kernel⟩
theorem ok_number (D : Known K mg "_law_number" 17 ["_law_tape_here"] f fd) (D1 : Known K mg "_law_draw" 16 ["_law_tape_here", "_law_many"] g gd) (G1 : FnOk P w K mg base CX0 1 g gd ["_law_tape_here", "_law_many"] (spDraw K)) :
    FnOk P w K mg base CX0 2 f fd ["_law_tape_here"] (spNumber K) := by
  refine D.F.ok scNumber (fun vs H Q E h => ?_) (fun cdv A outer s H vs Q E hr h => ?_)
  · obtain ⟨t, scr, rfl, _⟩ := h
    rfl
  obtain ⟨t, scr, rfl, tp, k⟩ := h
  refine ⟨_, pss_cons (ps_if (pt_cmpR op_gt (pe_call G1 hr rfl D1.m D1.F.kp D1.b .nil pass0 (pa_cons (pv 0) (pa_cons pe_int pa_nil))) pe_int (nomark _))
      (pss_one (ps_ret (pe_op op_sub (pe_call G1 hr rfl D1.m D1.F.kp D1.b .nil pass0 (pa_cons (pv 0) (pa_cons pe_int pa_nil))) pe_int))) pss_nil)
    (pss_one (ps_ret (pe_ix ix_list (pe_lst (pa_cons (pe_op op_pow pe_int pe_int) (pa_cons (pe_un un_neg (pe_op op_pow pe_int pe_int)) (pa_cons pe_int (pa_cons (pe_un un_neg pe_int) pa_nil)))))
      (pe_call G1 hr rfl D1.m D1.F.kp D1.b .nil pass0 (pa_cons (pv 0) (pa_cons pe_int pa_nil))) (fun _ _ => rfl)))), ?_⟩
  refine ⟨_, rfl, t, scr, 8, rfl, by decide, by decide, tp, fun d H1 d0 d1 tu1 => ?_⟩
  refine ⟨_, _, rfl, rfl, _, rfl, ?_⟩
  refine ite2 (fun e => ?_) (fun e => ?_)
  · refine ⟨_, rfl, t, scr, 9, rfl, by decide, by decide, tp.on tu1, fun d2 H2 d20 d21 tu2 => ?_⟩
    exact ⟨_, _, rfl, rfl, k _ _ (by omega) (by omega) (tu1.trans tu2)⟩
  · refine ⟨_, _, rfl, rfl, ⟨by decide, by decide, by decide⟩, _, _, rfl, rfl, ⟨by decide, by decide, by decide⟩, _, rfl, _, rfl, by show 4 ≤ sizeLine; decide, fun p hp => ?_⟩
    have tu2 : Turned t scr H (upd H1 p (.lst [.int (10 ^ (9 : Int).toNat), .int (-(10 ^ (9 : Int).toNat)), .int 999983, .int (-70001)])) := tu1.same (same_new hp _)
    refine ⟨_, rfl, t, scr, 4, rfl, by decide, by decide, tp.on tu2, fun d2 H2 d20 d21 tu3 => ?_⟩
    have hL := tu3.kp p _ (Ne.symm (tu1.at_.ne hp)) upd_same
    have cases4 : d2 = 0 ∨ d2 = 1 ∨ d2 = 2 ∨ d2 = 3 := by omega
    have tu4 := tu2.trans tu3
    rcases cases4 with rfl | rfl | rfl | rfl
    · exact ⟨p, _, _, _, rfl, rfl, SqL.of hL, rfl, k _ _ (by decide) (by decide) tu4⟩
    · exact ⟨p, _, _, _, rfl, rfl, SqL.of hL, rfl, k _ _ (by decide) (by decide) tu4⟩
    · exact ⟨p, _, _, _, rfl, rfl, SqL.of hL, rfl, k _ _ (by decide) (by decide) tu4⟩
    · exact ⟨p, _, _, _, rfl, rfl, SqL.of hL, rfl, k _ _ (by decide) (by decide) tu4⟩

def spSpot (K : PySem.W.Frag) : Sp := fun vs H Q _ => ∃ t scr, vs = [.ref t] ∧ Tape K t scr H ∧ ∀ v sp H', SpotAt H' v sp → SpotOk sp → Turned t scr H H' → Q v H'
theorem scSpot : FnScope ["_law_tape_here", "_law_key"] ["_law_tape_here"] (defScope (top 18)) := ⟨rfl, rfl, rfl, by decide +kernel, rfl, by decide +kernel, by decide +kernel⟩
theorem ok_spot (D : Known K mg "_law_spot" 18 ["_law_tape_here"] f fd) (D1 : Known K mg "_law_draw" 16 ["_law_tape_here", "_law_many"] g gd) (G1 : FnOk P w K mg base CX0 1 g gd ["_law_tape_here", "_law_many"] (spDraw K))
    (D2 : Known K mg "_law_number" 17 ["_law_tape_here"] g2 gd2) (G2 : FnOk P w K mg base CX0 2 g2 gd2 ["_law_tape_here"] (spNumber K)) : FnOk P w K mg base CX0 3 f fd ["_law_tape_here"] (spSpot K) := by
  refine D.F.ok scSpot (fun vs H Q E h => ?_) (fun cdv A outer s H vs Q E hr h => ?_)
  · obtain ⟨t, scr, rfl, _⟩ := h
    rfl
  obtain ⟨t, scr, rfl, tp, k⟩ := h
  have hr1 : Room 1 _ := hr.mono (by decide)
  refine ⟨_, pss_cons (ps_set (i := 1) scSpot.nd rfl (Or.inl rfl) pe_non)
    (C8.pss_cut (ps_if (pt_cmpR op_gt (pe_call G1 hr1 rfl D1.m D1.F.kp D1.b .nil pass0 (pa_cons (pv 0) (pa_cons pe_int pa_nil))) pe_int (nomark _))
      (pss_one (ps_set (i := 1) scSpot.nd rfl (Or.inl rfl) (pe_call G2 hr rfl D2.m D2.F.kp D2.b .nil pass0 (pa_cons (pv 0) pa_nil)))) pss_nil)
    (pss_one (ps_ret (pe_tup (pa_cons (pv 1) (pa_cons (pe_ix ix_list (pe_lst (pa_cons pe_int (pa_cons pe_int (pa_cons pe_int (pa_cons pe_int (pa_cons pe_int (pa_cons (pe_op op_pow pe_int pe_int) pa_nil)))))))
      (pe_call G1 hr1 rfl D1.m D1.F.kp D1.b .nil pass0 (pa_cons (pv 0) (pa_cons pe_int pa_nil))) (fun _ _ => rfl)) pa_nil)))))), ?_⟩
  refine ⟨fun σ H' => ∃ o : Option Int, (∀ n, o = some n → -1000000000 ≤ n ∧ n ≤ 1000000000) ∧ σ = [some (.ref t), some (keyV o)] ∧ Turned t scr H H', ?_, ?_⟩
  · refine ⟨_, rfl, t, scr, 3, rfl, by decide, by decide, tp, fun d H1 d0 d1 tu1 => ?_⟩
    refine ⟨_, _, rfl, rfl, _, rfl, ?_⟩
    refine ite2 (fun e => ?_) (fun e => ?_)
    · refine ⟨_, rfl, t, scr, rfl, tp.on tu1, fun n H2 n0 n1 tu2 => ?_⟩
      exact ⟨some n, fun m e => by cases e; exact ⟨n0, n1⟩, rfl, tu1.trans tu2⟩
    · exact ⟨none, (fun m e => nomatch e), rfl, tu1⟩
  rintro _ H1 ⟨o, oo, rfl, tu1⟩
  refine ⟨_, rfl, _, _, rfl, rfl, ⟨by decide, by decide, by decide⟩, by show 6 ≤ sizeLine; decide, fun p hp => ?_⟩
  have tu2 : Turned t scr H (upd H1 p (.lst [.int 0, .int 0, .int 1, .int 2, .int 11, .int (10 ^ (12 : Int).toNat)])) := tu1.same (same_new hp _)
  refine ⟨_, rfl, t, scr, 6, rfl, by decide, by decide, tp.on tu2, fun d H2 d0 d1 tu3 => ?_⟩
  have hL := tu3.kp p _ (Ne.symm (tu1.at_.ne hp)) upd_same
  have tu4 := tu2.trans tu3
  have fin : ∀ n : Int, 0 ≤ n → ∀ q, H2 q = none → Q (.ref q) (upd H2 q (.tup [keyV o, .int n])) := fun n n0 q hq =>
    k _ (o, n) _ ⟨q, rfl, upd_same⟩ ⟨oo, n0⟩ (tu4.same (same_new hq _))
  have cases6 : d = 0 ∨ d = 1 ∨ d = 2 ∨ d = 3 ∨ d = 4 ∨ d = 5 := by omega
  rcases cases6 with rfl | rfl | rfl | rfl | rfl | rfl
  · exact ⟨p, _, _, _, rfl, rfl, SqL.of hL, rfl, by show 2 ≤ sizeLine; decide, fin _ (by decide)⟩
  · exact ⟨p, _, _, _, rfl, rfl, SqL.of hL, rfl, by show 2 ≤ sizeLine; decide, fin _ (by decide)⟩
  · exact ⟨p, _, _, _, rfl, rfl, SqL.of hL, rfl, by show 2 ≤ sizeLine; decide, fin _ (by decide)⟩
  · exact ⟨p, _, _, _, rfl, rfl, SqL.of hL, rfl, by show 2 ≤ sizeLine; decide, fin _ (by decide)⟩
  · exact ⟨p, _, _, _, rfl, rfl, SqL.of hL, rfl, by show 2 ≤ sizeLine; decide, fin _ (by decide)⟩
  · exact ⟨p, _, _, _, rfl, rfl, SqL.of hL, rfl, by show 2 ≤ sizeLine; decide, fin _ (by decide)⟩
end
end K42
namespace K42
open PySem PySem.Spec PyProof.Rows L2
section
variable {P : Program} {w : World} {K : PySem.W.Frag} {mg : Str → Option Value} {base : Heap} {f g g2 : Addr} {fd gd gd2 : FuncData}
theorem spots_mono {H H' : Hp} (t : Tups H H') {vs : List V} {l : Lab} (h : Paired (SpotAt H) vs l) : Paired (SpotAt H') vs l := Paired.mono (fun _ _ => SpotAt.mono t) h
def spLabel (K : PySem.W.Frag) : Sp := fun vs H Q _ => ∃ t scr, vs = [.ref t] ∧ Tape K t scr H ∧ ∀ v l H', LabAt H' v l → LabOk l → Turned t scr H H' → Q v H'
theorem scLabel : FnScope ["_law_tape_here", "_law_k"] ["_law_tape_here"] (defScope (top 19)) := ⟨rfl, rfl, rfl, by decide +kernel, rfl, by decide +kernel, by decide +kernel⟩
theorem ok_label (D : Known K mg "_law_label" 19 ["_law_tape_here"] f fd) (T : Txt mg) (D1 : Known K mg "_law_draw" 16 ["_law_tape_here", "_law_many"] g gd) (G1 : FnOk P w K mg base CX0 1 g gd ["_law_tape_here", "_law_many"] (spDraw K))
    (D2 : Known K mg "_law_spot" 18 ["_law_tape_here"] g2 gd2) (G2 : FnOk P w K mg base CX0 3 g2 gd2 ["_law_tape_here"] (spSpot K)) : FnOk P w K mg base CX0 4 f fd ["_law_tape_here"] (spLabel K) := by
  refine D.F.ok scLabel (fun vs H Q E h => ?_) (fun cdv A outer s H vs Q E hr h => ?_)
  · obtain ⟨t, scr, rfl, _⟩ := h
    rfl
  obtain ⟨t, scr, rfl, tp, k⟩ := h
  have hr1 : Room 1 _ := hr.mono (by decide)
  refine ⟨_, pss_one (ps_ret (pe_callTy call_tuple_of (by rfl) T.tuple (by decide +kernel) (pa_cons
    (pe_lc (own := [("_law_k", 1)]) (g := gName 1) (tt := tYes) rfl scLabel.nd
      (pi_range1 rfl T.range (pa_cons (pe_ix ix_list (pe_lst (pa_cons pe_int (pa_cons pe_int (pa_cons pe_int (pa_cons pe_int (pa_cons pe_int pa_nil))))))
        (pe_call G1 hr1 rfl D1.m D1.F.kp D1.b .nil pass0 (pa_cons (pv 0) (pa_cons pe_int pa_nil))) (fun _ _ => rfl)) pa_nil))
      (blkOk_by (N := ["_law_tape_here", "_law_k"]) (sc := defScope (top 19)) (by decide +kernel)) (fun _ _ _ _ _ => pg_name (i := 1) scLabel.nd rfl (Or.inl rfl)) (fun _ _ _ _ _ => pts_nil)
      (fun _ _ _ _ _ => pe_call G2 hr rfl D2.m D2.F.kp D2.b .nil pass0 (pa_cons (pv 0) pa_nil))) pa_nil))), ?_⟩
  refine ⟨by show 5 ≤ sizeLine; decide, fun p hp => ?_⟩
  have tu2 : Turned t scr H (upd H p (.lst [.int 1, .int 1, .int 1, .int 2, .int 3])) := .of tp (same_new hp _)
  refine ⟨_, rfl, t, scr, 5, rfl, by decide, by decide, tp.on tu2, fun d H2 d0 d1 tu3 => ?_⟩
  have hL := tu3.kp p _ (Ne.symm (tp.at_.ne hp)) upd_same
  have tu4 := tu2.trans tu3
  obtain ⟨c, hc, c1, c3⟩ : ∃ c : Int, atI [V.int 1, V.int 1, V.int 1, V.int 2, V.int 3] d = some (.int c) ∧ 1 ≤ c ∧ c ≤ 3 := by
    have cases5 : d = 0 ∨ d = 1 ∨ d = 2 ∨ d = 3 ∨ d = 4 := by omega
    rcases cases5 with rfl | rfl | rfl | rfl | rfl
    · exact ⟨_, rfl, by decide, by decide⟩
    · exact ⟨_, rfl, by decide, by decide⟩
    · exact ⟨_, rfl, by decide, by decide⟩
    · exact ⟨_, rfl, by decide, by decide⟩
    · exact ⟨_, rfl, by decide, by decide⟩
  refine ⟨p, _, _, _, rfl, rfl, SqL.of hL, hc, c, rfl, by omega, by omega, fun D0 hD => ?_⟩
  refine lc_range (lo := 0) (n := c.toNat) (fun i H' => ∃ (vs : List V) (l : Lab), H' D0 = some (.lst vs) ∧ Paired (SpotAt H') vs l ∧ l.length = i ∧ (∀ sp ∈ l, SpotOk sp) ∧ Turned t scr H H') ?_ ?_ ?_
  · exact ⟨[], [], upd_same, .nil, rfl, (fun sp z => nomatch z), tu4.same (same_new hD _)⟩
  · rintro i H' hi ⟨vs, l, hD', hp', hl, hok, tu⟩
    refine ⟨rfl, ?_⟩
    have nD : D0 ≠ t := by
      obtain ⟨i, j, m, e, _⟩ := tu.at_
      rintro rfl
      obtain ⟨i2, j2, m2, e2, _⟩ := tu4.at_
      rw [hD] at e2
      cases e2
    refine ⟨_, rfl, t, scr, rfl, tp.on tu, fun v sp H3 hv hsp tu5 => ?_⟩
    refine ⟨vs, tu5.kp D0 _ nD hD', ?_, vs ++ [v], l ++ [sp], upd_same, ?_, by rw [List.length_append, hl]; rfl, fun x hx => ?_, ?_⟩
    · rw [Paired.len_eq hp', hl, sizeLine_eq]
      omega
    · have tt : Tups H3 (upd H3 D0 (.lst (vs ++ [v]))) := Tups.put (tu5.kp D0 _ nD hD') (fun _ z => nomatch z)
      exact Paired.snoc (spots_mono tt (spots_mono ((tp.on tu).tups tu5.kp) hp')) (hv.mono tt)
    · rcases List.mem_append.mp hx with z | z
      · exact hok x z
      · rw [List.mem_singleton.mp z]; exact hsp
    · exact (tu.trans tu5).put (tu4.free hD) (Ne.symm nD) _
  · rintro H' ⟨vs, l, hD', hp', hl, hok, tu⟩
    refine ⟨D0, vs, rfl, .inl ⟨SqL.of hD', fun q hq => ?_⟩⟩
    have tt : Tups H' (upd H' q (.tup vs)) := Tups.new hq
    refine k _ l _ ⟨q, vs, rfl, upd_same, spots_mono tt hp'⟩ ⟨fun e => ?_, hok, by omega⟩ (tu.same (same_new hq _))
    rw [e] at hl
    simp only [List.length_nil] at hl
    omega

def spLabels (K : PySem.W.Frag) : Sp := fun vs H Q _ => ∃ t scr m, vs = [.ref t, .int m] ∧ 0 ≤ m ∧ m ≤ 20 ∧ Tape K t scr H ∧ ∀ p ls H', H p = none → LsAt H' p ls → ls.Nodup → (∀ l ∈ ls, LabOk l) → (ls.length : Int) ≤ m → Turned t scr H H' → Q (.ref p) H'
theorem scLabels : FnScope ["_law_tape_here", "_law_many", "_law_found", "_law_k", "_law_label_here"] ["_law_tape_here", "_law_many"] (defScope (top 20)) := ⟨rfl, rfl, rfl, by decide +kernel, rfl, by decide +kernel, by decide +kernel⟩
theorem ok_labels (D : Known K mg "_law_labels" 20 ["_law_tape_here", "_law_many"] f fd) (T : Txt mg) (D1 : Known K mg "_law_label" 19 ["_law_tape_here"] g gd) (G1 : FnOk P w K mg base CX0 4 g gd ["_law_tape_here"] (spLabel K)) :
    FnOk P w K mg base CX0 5 f fd ["_law_tape_here", "_law_many"] (spLabels K) := by
  refine D.F.ok scLabels (fun vs H Q E h => ?_) (fun cdv A outer s H vs Q E hr h => ?_)
  · obtain ⟨t, scr, m, rfl, _⟩ := h
    rfl
  obtain ⟨t, scr, m, rfl, m0, m1, tp, k⟩ := h
  refine ⟨_, pss_cons (ps_set (i := 2) scLabels.nd rfl (Or.inl rfl) (pe_lst pa_nil))
    (pss_cons (ps_for PassesOwn.never rfl (pi_range1 rfl T.range (pa_cons (pv 1) pa_nil)) (pg_name (i := 3) scLabels.nd rfl (Or.inl rfl))
      (pss_cons (ps_set (i := 4) scLabels.nd rfl (Or.inl rfl) (pe_call G1 hr rfl D1.m D1.F.kp D1.b .nil pass0 (pa_cons (pv 0) pa_nil)))
        (pss_one (ps_if (pt_cmpR (op_notInLs (room65 hr)) (pv 4) (pv 2) (by rfl))
          (pss_one (ps_expr (pe_bm PySem.F.plainAttrs_list PySem.F.slot_list_append PySem.F.type_list_append mt_append (pv 2) (pa_cons (pv 4) pa_nil)))) pss_nil))))
    (pss_one (ps_ret (pv 2)))), ?_⟩
  refine ⟨Nat.zero_le _, fun p hp => ?_⟩
  refine ⟨_, rfl, m, rfl, by omega, by omega, for_range (lo := 0) (n := m.toNat) (fun i σ H' => ∃ (vs : List V) (ls : List Lab) (a b : Option V), σ = [some (.ref t), some (.int m), some (.ref p), a, b] ∧ H' p = some (.lst vs) ∧ Labs H' vs ls ∧ ls.Nodup ∧ (∀ l ∈ ls, LabOk l) ∧ ls.length ≤ i ∧ Turned t scr H H') ?_ ?_ ?_⟩
  · exact ⟨[], [], none, none, rfl, upd_same, .nil, List.nodup_nil, (fun l z => nomatch z), Nat.zero_le _, .of tp (same_new hp _)⟩
  · rintro i σ H' hi ⟨vs, ls, a, b, rfl, hL, hl, nd, ok, len, tu⟩
    have np : p ≠ t := Ne.symm (tp.at_.ne hp)
    refine ⟨_, rfl, t, scr, rfl, tp.on tu, fun v l H3 hv hok tu2 => ?_⟩
    have hL3 := tu2.kp p _ np hL
    have hl3 := labs_mono ((tp.on tu).tups tu2.kp) hl
    refine ⟨_, rfl, _, rfl, l, p, vs, ls, rfl, hv, SqL.of hL3, hl3, _, rfl, ?_⟩
    refine ite2 (fun e => ?_) (fun e => ?_)
    · have ni : l ∉ ls := by simpa using e
      refine ⟨_, rfl, .inl ⟨rfl, _, SqL.of hL3⟩, _, rfl, p, vs, _, rfl, rfl, hL3, ?_, vs ++ [v], ls ++ [l], _, _, rfl, upd_same, ?_, ?_, fun x hx => ?_, ?_, ?_⟩
      · rw [Paired.len_eq hl, sizeLine_eq]
        omega
      · have tt : Tups H3 (upd H3 p (.lst (vs ++ [v]))) := Tups.put hL3 (fun _ z => nomatch z)
        exact Paired.snoc (labs_mono tt hl3) (hv.mono tt)
      · exact List.nodup_append.mpr ⟨nd, by simp, fun x hx y hy e => ni (by rw [List.mem_singleton.mp hy] at e; exact e ▸ hx)⟩
      · rcases List.mem_append.mp hx with z | z
        · exact ok x z
        · rw [List.mem_singleton.mp z]; exact hok
      · rw [List.length_append, List.length_singleton]
        omega
      · exact (tu.trans tu2).put hp (Ne.symm np) _
    · exact ⟨vs, ls, _, _, rfl, hL3, hl3, nd, ok, by omega, tu.trans tu2⟩
  · rintro σ H' ⟨vs, ls, a, b, rfl, hL, hl, nd, ok, len, tu⟩
    exact ⟨_, rfl, k p ls H' hp ⟨vs, hL, hl⟩ nd ok (by omega) tu⟩
end
end K42
namespace K42
open PySem PySem.Spec PyProof.Rows L2
section
variable {P : Program} {w : World} {K : PySem.W.Frag} {mg : Str → Option Value} {base : Heap} {f g g2 g3 : Addr} {fd gd gd2 gd3 : FuncData}
theorem paired_erase {α β : Type} {F : α → β → Prop} : ∀ {a : List α} {b : List β} (k : Nat), Paired F a b → Paired F (a.eraseIdx k) (b.eraseIdx k)
  | _, _, _, .nil => .nil
  | _, _, 0, .cons _ t => t
  | _, _, k + 1, .cons h t => .cons h (paired_erase k t)
theorem paired_rev {α β : Type} {F : α → β → Prop} : ∀ {a : List α} {b : List β}, Paired F a b → Paired F a.reverse b.reverse
  | _, _, .nil => .nil
  | _, _, .cons h t => by
    rw [List.reverse_cons, List.reverse_cons]
    exact Paired.snoc (paired_rev t) h
theorem erase_perm {α : Type} : ∀ {l : List α} {k : Nat} {x : α}, l[k]? = some x → (x :: l.eraseIdx k).Perm l
  | [], _, _, h => by simp at h
  | a :: l, 0, x, h => by
    simp only [List.getElem?_cons_zero, Option.some.injEq] at h
    rw [h]
    exact .refl _
  | a :: l, k + 1, x, h => by
    have ih := erase_perm (l := l) (k := k) (x := x) (by simpa using h)
    show (x :: a :: l.eraseIdx k).Perm (a :: l)
    exact (List.Perm.swap a x _).trans (ih.cons a)
theorem labs_get {H : Hp} {vs : List V} {ls : List Lab} (h : Labs H vs ls) {i : Nat} {v : V} (e : vs[i]? = some v) : ∃ l, ls[i]? = some l ∧ LabAt H v l := paired_get h e

def spShuffled (K : PySem.W.Frag) : Sp := fun vs H Q _ => ∃ t scr a ls, vs = [.ref t, .ref a] ∧ Tape K t scr H ∧ LsAt H a ls ∧ ls.length ≤ 20 ∧ ∀ p ls' H', H p = none → LsAt H' p ls' → ls'.Perm ls → Turned t scr H H' → Q (.ref p) H'
theorem scShuffled : FnScope ["_law_tape_here", "_law_labels_here", "_law_left", "_law_found", "_law_way", "_law_many"] ["_law_tape_here", "_law_labels_here"] (defScope (top 21)) := ⟨rfl, rfl, rfl, by decide +kernel, rfl, by decide +kernel, by decide +kernel⟩
theorem ok_shuffled (D : Known K mg "_law_shuffled" 21 ["_law_tape_here", "_law_labels_here"] f fd) (T : Txt mg) (D1 : Known K mg "_law_draw" 16 ["_law_tape_here", "_law_many"] g gd) (G1 : FnOk P w K mg base CX0 1 g gd ["_law_tape_here", "_law_many"] (spDraw K)) :
    FnOk P w K mg base CX0 2 f fd ["_law_tape_here", "_law_labels_here"] (spShuffled K) := by
  refine D.F.ok scShuffled (fun vs H Q E h => ?_) (fun cdv A outer s H vs Q E hr h => ?_)
  · obtain ⟨t, scr, a, ls, rfl, _⟩ := h
    rfl
  obtain ⟨t, scr, a, ls, rfl, tp, ⟨vs, ha, la⟩, l20, k⟩ := h
  refine ⟨_, pss_cons (ps_set (i := 2) scShuffled.nd rfl (Or.inl rfl) (pe_callTy call_list_of (by rfl) T.list (by decide +kernel) (pa_cons (pv 1) pa_nil)))
    (pss_cons (ps_set (i := 3) scShuffled.nd rfl (Or.inl rfl) (pe_lst pa_nil))
    (pss_cons (ps_set (i := 4) scShuffled.nd rfl (Or.inl rfl) (pe_call G1 hr rfl D1.m D1.F.kp D1.b .nil pass0 (pa_cons (pv 0) (pa_cons pe_int pa_nil))))
    (pss_cons (ps_if (pt_cmpR op_eq (pv 4) pe_int (nomark _)) (pss_one (ps_ret (pv 2))) pss_nil)
    (pss_cons (ps_if (pt_cmpR op_eq (pv 4) pe_int (nomark _)) (pss_one (ps_ret (pe_revL (pv 2)))) pss_nil)
    (pss_cons (ps_while PassesOwn.never (pt_cmpR op_gt (pe_callB call_len_seq (by rfl) T.len PySem.boot_len (pa_cons (pv 2) pa_nil)) pe_int (nomark _))
      (pss_cons (ps_set (i := 5) scShuffled.nd rfl (Or.inl rfl) (pe_callB call_len_seq (by rfl) T.len PySem.boot_len (pa_cons (pv 2) pa_nil)))
      (C8.pss_cut (ps_if (pt_cmpR op_eq (pv 4) pe_int (nomark _)) (pss_one (ps_set (i := 5) scShuffled.nd rfl (Or.inl rfl) (pe_callB (call_min2 rfl) (by rfl) T.min (by decide +kernel) (pa_cons pe_int (pa_cons (pv 5) pa_nil))))) pss_nil)
      (pss_one (ps_expr (pe_bm PySem.F.plainAttrs_list PySem.F.slot_list_append PySem.F.type_list_append mt_append (pv 3) (pa_cons
        (pe_bm PySem.F.plainAttrs_list PySem.F.slot_list_pop PySem.F.type_list_pop mt_popAt (pv 2) (pa_cons (pe_call G1 hr rfl D1.m D1.F.kp D1.b .nil pass0 (pa_cons (pv 0) (pa_cons (pv 5) pa_nil))) pa_nil)) pa_nil)))))))
    (pss_one (ps_ret (pv 3)))))))), ?_⟩
  refine ⟨_, rfl, a, vs, rfl, .inl (SqL.of ha), fun p hp => ?_⟩
  refine ⟨Nat.zero_le _, fun q hq => ?_⟩
  have npq : p ≠ q := ne_of_none upd_same hq
  have hq0 : H q = none := by rw [upd_ne (Ne.symm npq)] at hq; exact hq
  have ntp := tp.at_.ne hp
  have ntq := tp.at_.ne hq0
  have tu1 : Turned t scr H (upd (upd H p (.lst vs)) q (.lst [])) := (Turned.of tp (same_new hp _)).same (same_new hq _)
  refine ⟨_, rfl, t, scr, 5, rfl, by decide, by decide, tp.on tu1, fun d H1 d0 d1 tu2 => ?_⟩
  have tu3 := tu1.trans tu2
  have hP : H1 p = some (.lst vs) := tu2.kp p _ (Ne.symm ntp) (by rw [upd_ne npq]; exact upd_same)
  have hQ : H1 q = some (.lst []) := tu2.kp q _ (Ne.symm ntq) upd_same
  have la1 : Labs H1 vs ls := labs_mono (tp.tups tu3.kp) la
  refine ⟨_, rfl, rfl, _, rfl, ?_⟩
  refine ite2 (fun e => ?_) (fun e => ?_)
  · exact ⟨_, rfl, k p ls H1 hp ⟨vs, hP, la1⟩ (.refl _) tu3⟩
  refine ⟨_, rfl, rfl, _, rfl, ?_⟩
  refine ite2 (fun e => ?_) (fun e => ?_)
  · refine ⟨_, rfl, p, vs, rfl, SqL.of hP, fun r hr' => ?_⟩
    exact k r ls.reverse _ (tu3.free hr') ⟨_, upd_same, labs_mono (Tups.new hr') (paired_rev la1)⟩ (List.reverse_perm ls) (tu3.same (same_new hr' _))
  · refine while_by (fun σ H' => ∃ (xs ys : List V) (l1 l2 : List Lab) (c : Option V), σ = [some (.ref t), some (.ref a), some (.ref p), some (.ref q), some (.int d), c] ∧ H' p = some (.lst xs) ∧ Labs H' xs l1 ∧ H' q = some (.lst ys) ∧ Labs H' ys l2 ∧ (l1 ++ l2).Perm ls ∧ Turned t scr H H')
      (fun _ H' => match H' p with | some (.lst xs) => xs.length | _ => 0) ?_ ?_ ?_
    · exact ⟨vs, [], ls, [], none, rfl, hP, la1, hQ, .nil, by rw [List.append_nil], tu3⟩
    · rintro σ H' ⟨xs, ys, l1, l2, c, rfl, hx, lx, hy, ly, pm, tu⟩
      have len1 := Paired.len_eq lx
      have len2 := Paired.len_eq ly
      have len3 := pm.length_eq
      rw [List.length_append] at len3
      refine ⟨_, rfl, p, xs, rfl, .inl (SqL.of hx), _, _, rfl, rfl, _, rfl, ?_⟩
      refine ite2 (fun e => ?_) (fun e => ?_)
      · rw [decide_eq_true_eq] at e
        refine ⟨_, rfl, p, xs, rfl, .inl (SqL.of hx), ?_⟩
        refine ⟨fun σ H2 => H2 = H' ∧ ∃ m : Int, 0 < m ∧ m ≤ xs.length ∧ σ = [some (.ref t), some (.ref a), some (.ref p), some (.ref q), some (.int d), some (.int m)], ?_, ?_⟩
        · refine ⟨_, rfl, rfl, _, rfl, ?_⟩
          refine ite2 (fun e2 => ?_) (fun e2 => ?_)
          · refine ⟨_, rfl, _, _, rfl, ?_⟩
            exact ⟨rfl, _, by split <;> omega, by split <;> omega, rfl⟩
          · exact ⟨rfl, _, e, by omega, rfl⟩
        rintro _ _ ⟨rfl, m, m0, m1, rfl⟩
        refine ⟨_, rfl, .inl ⟨rfl, _, SqL.of hy⟩, _, rfl, .inl ⟨rfl, _, SqL.of hx⟩, _, rfl, _, rfl, t, scr, m, rfl, m0, by omega, tp.on tu, fun j H2 j0 j1 tu4 => ?_⟩
        have hx2 := tu4.kp p _ (Ne.symm ntp) hx
        have hy2 := tu4.kp q _ (Ne.symm ntq) hy
        have tt := (tp.on tu).tups tu4.kp
        have lt : j.toNat < xs.length := by omega
        have at_ := List.getElem?_eq_getElem lt
        obtain ⟨l, hl, lab⟩ := labs_get lx at_
        refine ⟨p, xs, j, j.toNat, _, rfl, rfl, hx2, by omega, by omega, seqIndex_of j0 (by omega), at_, ?_⟩
        have t2 : Tups H2 (upd H2 p (.lst (xs.eraseIdx j.toNat))) := Tups.put hx2 (fun _ z => nomatch z)
        refine ⟨q, ys, _, rfl, rfl, by rw [upd_ne (Ne.symm npq)]; exact hy2, by rw [sizeLine_eq]; omega, ?_⟩
        have t3 : Tups (upd H2 p (.lst (xs.eraseIdx j.toNat))) (upd (upd H2 p (.lst (xs.eraseIdx j.toNat))) q (.lst (ys ++ [xs[j.toNat]]))) := Tups.put (o' := .lst ys) (by rw [upd_ne (Ne.symm npq)]; exact hy2) (fun _ z => nomatch z)
        have t4 := (tt.trans t2).trans t3
        have hxE : upd (upd H2 p (.lst (xs.eraseIdx j.toNat))) q (.lst (ys ++ [xs[j.toNat]])) p = some (.lst (xs.eraseIdx j.toNat)) := by rw [upd_ne npq]; exact upd_same
        refine ⟨⟨xs.eraseIdx j.toNat, _, l1.eraseIdx j.toNat, l2 ++ [l], _, rfl, hxE, labs_mono t4 (paired_erase _ lx), upd_same, Paired.snoc (labs_mono t4 ly) (lab.mono t4), ?_, ?_⟩, ?_⟩
        · have z := erase_perm hl
          refine List.Perm.trans ?_ pm
          refine List.Perm.trans ?_ (z.append_right l2)
          show (l1.eraseIdx j.toNat ++ (l2 ++ [l])).Perm (l :: (l1.eraseIdx j.toNat ++ l2))
          rw [← List.append_assoc]
          exact (List.perm_append_comm (l₁ := l1.eraseIdx j.toNat ++ l2) (l₂ := [l]))
        · exact ((tu.trans tu4).put hp ntp _).put hq0 ntq _
        · rw [hxE, hx]
          show (xs.eraseIdx j.toNat).length < xs.length
          rw [List.length_eraseIdx_of_lt lt]
          omega
      · have z : xs.length = 0 := by
          rw [decide_eq_true_eq] at e
          omega
        have e1 : l1 = [] := List.eq_nil_of_length_eq_zero (by omega)
        subst e1
        exact ⟨_, rfl, k q l2 H' hq0 ⟨ys, hy, ly⟩ pm tu⟩
    · exact fun σ H Q Q' h ⟨v, e1, p, ys, e2, e3, i, j, e4, e5, c, e6, q⟩ => ⟨v, e1, p, ys, e2, e3, i, j, e4, e5, c, e6, h _ _ q⟩
end
end K42
namespace K42
open PySem PySem.Spec PyProof.Rows L2
section
variable {P : Program} {w : World} {K : PySem.W.Frag} {mg : Str → Option Value} {base : Heap} {f g g2 g3 : Addr} {fd gd gd2 gd3 : FuncData}
theorem paired_take {α β : Type} {F : α → β → Prop} : ∀ {a : List α} {b : List β} (k : Nat), Paired F a b → Paired F (a.take k) (b.take k)
  | _, _, _, .nil => by simp only [List.take_nil]; exact .nil
  | _, _, 0, .cons _ _ => .nil
  | _, _, k + 1, .cons h t => .cons h (paired_take k t)
theorem paired_drop {α β : Type} {F : α → β → Prop} : ∀ {a : List α} {b : List β} (k : Nat), Paired F a b → Paired F (a.drop k) (b.drop k)
  | _, _, _, .nil => by simp only [List.drop_nil]; exact .nil
  | _, _, 0, .cons h t => .cons h t
  | _, _, k + 1, .cons _ t => paired_drop k t
theorem paired_app {α β : Type} {F : α → β → Prop} : ∀ {a c : List α} {b d : List β}, Paired F a b → Paired F c d → Paired F (a ++ c) (b ++ d)
  | _, _, _, _, .nil, q => q
  | _, _, _, _, .cons h t, q => .cons h (paired_app t q)
/-- two rows as the law makes them -/
structure TwoRows (m : Int) (old new : List Lab) : Prop where
  ndo : old.Nodup
  ndn : new.Nodup
  oko : ∀ l ∈ old, LabOk l
  okn : ∀ l ∈ new, LabOk l
  leno : (old.length : Int) ≤ m
  lenn : (new.length : Int) ≤ m + 3
def spTwoRows (K : PySem.W.Frag) : Sp := fun vs H Q _ => ∃ t scr m, vs = [.ref t, .int m] ∧ 0 ≤ m ∧ m ≤ 8 ∧ Tape K t scr H ∧ ∀ p a b old new H', H' p = some (.tup [.ref a, .ref b]) → H a = none → H b = none → LsAt H' a old → LsAt H' b new → TwoRows m old new → Turned t scr H H' → Q (.ref p) H'
theorem scTwoRows : FnScope ["_law_tape_here", "_law_most", "_law_old", "_law_label_here", "_law_new"] ["_law_tape_here", "_law_most"] (defScope (top 22)) := ⟨rfl, rfl, rfl, by decide +kernel, rfl, by decide +kernel, by decide +kernel⟩
theorem ok_two_rows (D : Known K mg "_law_two_rows" 22 ["_law_tape_here", "_law_most"] f fd) (T : Txt mg) (D1 : Known K mg "_law_draw" 16 ["_law_tape_here", "_law_many"] g gd) (G1 : FnOk P w K mg base CX0 1 g gd ["_law_tape_here", "_law_many"] (spDraw K))
    (D2 : Known K mg "_law_labels" 20 ["_law_tape_here", "_law_many"] g2 gd2) (G2 : FnOk P w K mg base CX0 5 g2 gd2 ["_law_tape_here", "_law_many"] (spLabels K))
    (D3 : Known K mg "_law_shuffled" 21 ["_law_tape_here", "_law_labels_here"] g3 gd3) (G3 : FnOk P w K mg base CX0 2 g3 gd3 ["_law_tape_here", "_law_labels_here"] (spShuffled K)) :
    FnOk P w K mg base CX0 6 f fd ["_law_tape_here", "_law_most"] (spTwoRows K) := by
  refine D.F.ok scTwoRows (fun vs H Q E h => ?_) (fun cdv A outer s H vs Q E hr h => ?_)
  · obtain ⟨t, scr, m, rfl, _⟩ := h
    rfl
  obtain ⟨t, scr, m, rfl, m0, m8, tp, k⟩ := h
  have hr1 : Room 1 _ := hr.mono (by decide)
  have hr2 : Room 2 _ := hr.mono (by decide)
  refine ⟨_, pss_cons (ps_set (i := 2) scTwoRows.nd rfl (Or.inl rfl) (pe_call G2 hr rfl D2.m D2.F.kp D2.b .nil pass0 (pa_cons (pv 0) (pa_cons (pe_call G1 hr1 rfl D1.m D1.F.kp D1.b .nil pass0 (pa_cons (pv 0) (pa_cons (pe_op op_add (pv 1) pe_int) pa_nil))) pa_nil))))
    (pss_cons (ps_set (i := 4) scTwoRows.nd rfl (Or.inl rfl) (pe_call G3 hr2 rfl D3.m D3.F.kp D3.b .nil pass0 (pa_cons (pv 0) (pa_cons
      (pe_lc (own := [("_law_label_here", 3)]) (g := gName 3) rfl scTwoRows.nd (pi_list (pv 2)) (blkOk_by (N := ["_law_tape_here", "_law_most", "_law_old", "_law_label_here", "_law_new"]) (sc := defScope (top 22)) (by decide +kernel))
        (fun _ _ _ _ _ => pg_name (i := 3) scTwoRows.nd rfl (Or.inl rfl))
        (fun _ _ _ _ _ => pts_one (pt_cmpR op_gt (pe_call G1 hr1 rfl D1.m D1.F.kp D1.b .nil pass0 (pa_cons (pv 0) (pa_cons pe_int pa_nil))) pe_int (nomark _))) (fun _ _ _ _ _ => pv 3)) pa_nil))))
    (pss_cons (ps_for PassesOwn.never rfl (pi_list (pe_call G2 hr rfl D2.m D2.F.kp D2.b .nil pass0 (pa_cons (pv 0) (pa_cons (pe_call G1 hr1 rfl D1.m D1.F.kp D1.b .nil pass0 (pa_cons (pv 0) (pa_cons pe_int pa_nil))) pa_nil)))) (pg_name (i := 3) scTwoRows.nd rfl (Or.inl rfl))
      (pss_one (ps_if (pt_cmpR (op_notInLs (room65 hr)) (pv 3) (pv 4) (by rfl))
        (pss_one (ps_expr (pe_bm PySem.F.plainAttrs_list PySem.F.slot_list_insert PySem.F.type_list_insert mt_insert (pv 4)
          (pa_cons (pe_call G1 hr1 rfl D1.m D1.F.kp D1.b .nil pass0 (pa_cons (pv 0) (pa_cons (pe_op op_add (pe_callB call_len_seq (by rfl) T.len PySem.boot_len (pa_cons (pv 4) pa_nil)) pe_int) pa_nil))) (pa_cons (pv 3) pa_nil))))) pss_nil)))
    (pss_one (ps_ret (pe_tup (pa_cons (pv 2) (pa_cons (pv 4) pa_nil))))))), ?_⟩
  -- the old row
  refine ⟨_, rfl, _, rfl, _, rfl, _, _, rfl, rfl, t, scr, _, rfl, by omega, by omega, tp, fun d H1 d0 d1 tu1 => ?_⟩
  refine ⟨t, scr, d, rfl, d0, by omega, tp.on tu1, fun a old H2 fa ⟨va, ha, la⟩ ndo oko leno tu2 => ?_⟩
  have tu3 := tu1.trans tu2
  have fa0 : H a = none := tu1.free fa
  have nat : a ≠ t := Ne.symm (tp.at_.ne fa0)
  have lena := Paired.len_eq la
  -- the labels that stay
  refine ⟨_, rfl, _, rfl, a, rfl, ⟨_, SqL.of ha⟩, fun D0 hD => ?_⟩
  have fD : H D0 = none := tu3.free hD
  have nDt : D0 ≠ t := Ne.symm (tp.at_.ne fD)
  refine lc_list (K := K) (a := a) (xs := va) (fun i H' => ∃ (ys : List V) (ks : List Lab), H' D0 = some (.lst ys) ∧ Labs H' ys ks ∧ ks.Sublist (old.take i) ∧ Turned t scr H2 H') ?_ (fun i H' _ ⟨_, _, _, _, _, tu⟩ => SqL.of (tu.kp a _ nat ha)) ?_ ?_
  · exact ⟨[], [], upd_same, .nil, List.nil_sublist _, .of (tp.on tu3) (same_new hD _)⟩
  · rintro i x H' hi ⟨ys, ks, hy, ly, sub, tu⟩
    obtain ⟨l, hl, lab⟩ := labs_get la hi
    have tk : old.take (i + 1) = old.take i ++ [l] := by rw [List.take_add_one, hl]; rfl
    have tpH := (tp.on tu3).on tu
    refine ⟨rfl, ?_⟩
    refine ⟨_, rfl, t, scr, 6, rfl, by decide, by decide, tpH, fun d2 H3 _ _ tu4 => ?_⟩
    have hy3 := tu4.kp D0 _ nDt hy
    have ly3 := labs_mono (tpH.tups tu4.kp) ly
    have tt2 := ((tp.on tu3).tups tu.kp).trans (tpH.tups tu4.kp)
    refine ⟨_, _, rfl, rfl, _, rfl, ?_⟩
    refine ite2 (fun e => ?_) (fun e => ?_)
    · have tt : Tups H3 (upd H3 D0 (.lst (ys ++ [x]))) := Tups.put hy3 (fun _ z => nomatch z)
      refine ⟨_, rfl, ys, hy3, ?_, ys ++ [x], ks ++ [l], upd_same, Paired.snoc (labs_mono tt ly3) (lab.mono (tt2.trans tt)), ?_, (tu.trans tu4).put hD (Ne.symm nDt) _⟩
      · have z := sub.length_le
        rw [List.length_take] at z
        rw [Paired.len_eq ly, sizeLine_eq]
        omega
      · rw [tk]
        exact sub.append (List.Sublist.refl _)
    · exact ⟨ys, ks, hy3, ly3, by rw [tk]; exact sub.trans (List.sublist_append_left _ _), tu.trans tu4⟩
  rintro H3 ⟨ys, ks, hy, ly, sub, tu⟩
  have tu4 := tu3.trans tu
  rw [lena, List.take_length] at sub
  have lenk := sub.length_le
  -- shuffled
  refine ⟨t, scr, D0, ks, rfl, tp.on tu4, ⟨ys, hy, ly⟩, by omega, fun b new0 H4 fb ⟨vb, hb, lb⟩ pm tu5 => ?_⟩
  have tu6 := tu4.trans tu5
  have fb0 : H b = none := tu4.free fb
  have nbt : b ≠ t := Ne.symm (tp.at_.ne fb0)
  have ha3 := tu.kp a _ nat ha
  have nab : a ≠ b := ne_of_none ha3 fb
  have ha4 := tu5.kp a _ nat ha3
  have la4 : Labs H4 va old := labs_mono (((tp.on tu3).tups tu.kp).trans ((tp.on tu4).tups tu5.kp)) la
  have lenp := pm.length_eq
  have mem0 : ∀ l ∈ new0, l ∈ old := fun l hl => sub.subset (pm.mem_iff.mp hl)
  have nd0 : new0.Nodup := pm.nodup_iff.mpr (sub.nodup ndo)
  -- some more
  refine ⟨_, rfl, _, rfl, t, scr, 3, rfl, by decide, by decide, tp.on tu6, fun d3 H5 d30 d31 tu7 => ?_⟩
  refine ⟨t, scr, d3, rfl, d30, by omega, tp.on (tu6.trans tu7), fun c more H6 fc ⟨vc, hc, lc⟩ ndm okm lenm tu8 => ?_⟩
  have tu9 := tu7.trans tu8
  have tu10 := tu6.trans tu9
  have fc4 : H4 c = none := tu7.free fc
  have fc0 : H c = none := tu6.free fc4
  have nct : c ≠ t := Ne.symm (tp.at_.ne fc0)
  have nbc : b ≠ c := ne_of_none hb fc4
  have nac : a ≠ c := ne_of_none ha4 fc4
  have lenc := Paired.len_eq lc
  have tp6 := tp.on tu10
  have t46 := (tp.on tu6).tups tu9.kp
  refine ⟨c, rfl, ⟨_, SqL.of hc⟩, for_list (K := K) (a := c) (xs := vc) (fun i σ H' => ∃ (ws : List V) (new : List Lab) (z : Option V), σ = [some (.ref t), some (.int m), some (.ref a), z, some (.ref b)] ∧ H' b = some (.lst ws) ∧ Labs H' ws new ∧ new.Nodup ∧ (∀ l ∈ new, LabOk l) ∧ new.length ≤ new0.length + i ∧
    H' a = some (.lst va) ∧ H' c = some (.lst vc) ∧ Tups H6 H' ∧ Turned t scr H H') ?_ (fun i σ H' _ ⟨_, _, _, _, _, _, _, _, _, _, hc', _⟩ => SqL.of hc') ?_ ?_⟩
  · exact ⟨vb, new0, _, rfl, tu9.kp b _ nbt hb, labs_mono t46 lb, nd0, fun l hl => oko l (mem0 l hl), Nat.le_refl _, tu9.kp a _ nat ha4, hc, .refl _, tu10⟩
  · rintro i x σ H' hi ⟨ws, new, z, rfl, hb', lb', ndn, okn, lenn, ha', hc', t6, tu⟩
    obtain ⟨l, hl, lab6⟩ := labs_get lc hi
    have lab := lab6.mono t6
    have lenw := Paired.len_eq lb'
    have ilt := (List.getElem?_eq_some_iff.mp hi).1
    refine ⟨_, rfl, _, rfl, l, b, ws, new, rfl, lab, SqL.of hb', lb', _, rfl, ?_⟩
    refine ite2 (fun e => ?_) (fun e => ?_)
    · have ni : l ∉ new := by simpa using e
      refine ⟨_, rfl, .inl ⟨rfl, _, SqL.of hb'⟩, _, rfl, _, rfl, b, ws, rfl, .inl (SqL.of hb'), _, _, rfl, rfl, t, scr, _, rfl, by omega, by omega, tp.on tu, fun j H7 j0 j1 tu11 => ?_⟩
      have hb7 := tu11.kp b _ nbt hb'
      have t67 := (tp.on tu).tups tu11.kp
      refine ⟨_, rfl, b, ws, j, x, rfl, rfl, hb7, by rw [sizeLine_eq]; omega, j0, by omega, ?_⟩
      have t7 : Tups H7 (upd H7 b (.lst (ws.take j.toNat ++ [x] ++ ws.drop j.toNat))) := Tups.put hb7 (fun _ z => nomatch z)
      have t7' := t67.trans t7
      have pmi : (new.take j.toNat ++ [l] ++ new.drop j.toNat).Perm (l :: new) := by
        have q : (new.take j.toNat ++ [l] ++ new.drop j.toNat).Perm (l :: (new.take j.toNat ++ new.drop j.toNat)) := by
          rw [List.append_assoc]
          exact List.perm_middle
        rwa [List.take_append_drop] at q
      refine ⟨_, new.take j.toNat ++ [l] ++ new.drop j.toNat, _, rfl, upd_same, ?_, ?_, fun y hy => ?_, ?_, ?_, ?_, t6.trans t7', (tu.trans tu11).put fb0 (Ne.symm nbt) _⟩
      · exact paired_app (paired_app (labs_mono t7' (paired_take _ lb')) (.cons (lab.mono t7') .nil)) (labs_mono t7' (paired_drop _ lb'))
      · exact pmi.nodup_iff.mpr (List.nodup_cons.mpr ⟨ni, ndn⟩)
      · rcases List.mem_cons.mp (pmi.mem_iff.mp hy) with z | z
        · rw [z]; exact okm l (List.mem_of_getElem? hl)
        · exact okn y z
      · rw [pmi.length_eq, List.length_cons]
        omega
      · rw [upd_ne nab]; exact tu11.kp a _ nat ha'
      · rw [upd_ne (Ne.symm nbc)]; exact tu11.kp c _ nct hc'
    · exact ⟨ws, new, _, rfl, hb', lb', ndn, okn, by omega, ha', hc', t6, tu⟩
  · rintro σ H' ⟨ws, new, z, rfl, hb', lb', ndn, okn, lenn, ha', hc', t6, tu⟩
    refine ⟨_, rfl, _, rfl, by show 2 ≤ sizeLine; decide, fun q hq => ?_⟩
    have tt : Tups H' (upd H' q (.tup [.ref a, .ref b])) := Tups.new hq
    have la' : Labs H' va old := labs_mono (t46.trans t6) la4
    refine k q a b old new _ upd_same fa0 fb0 ⟨va, by rw [upd_ne (ne_of_none ha' hq)]; exact ha', labs_mono tt la'⟩ ⟨ws, by rw [upd_ne (ne_of_none hb' hq)]; exact hb', labs_mono tt lb'⟩ ⟨ndo, ndn, oko, okn, by omega, by omega⟩ (tu.same (same_new hq _))
end
end K42
namespace K42
open PySem PySem.Spec PyProof.Rows L2
/-! ### _law_ranks -/
/-- the mirror -/
def ahead (new : List Lab) (rk : List (Lab × Int)) (l : Lab) : List Int := (rk.filter fun p => decide (new.idxOf p.1 < new.idxOf l)).map (·.2)
def stepR (new : List Lab) (rk : List (Lab × Int)) (l : Lab) : List (Lab × Int) := if l ∈ new then rk ++ [(l, 1 + maxD0 0 (ahead new rk l))] else rk
def ranksOf (old new : List Lab) : List (Lab × Int) := old.foldl (stepR new) []
abbrev RkRel : LKV → List (Lab × Int) → Prop := Paired fun p q => p.1 = q.1 ∧ p.2.2 = V.int q.2
def rkLook (rk : List (Lab × Int)) (l : Lab) : Option Int := (rk.find? fun p => decide (p.1 = l)).map (·.2)
theorem rk_get {kvs : LKV} {rk : List (Lab × Int)} (h : RkRel kvs rk) (l : Lab) : getL kvs l = (rkLook rk l).map V.int := by
  induction h with
  | nil => rfl
  | @cons p q ps qs e t ih =>
    rw [getL_cons, ih]
    unfold rkLook
    rw [List.find?_cons]
    by_cases z : p.1 = l
    · rw [if_pos z, decide_eq_true (e.1.symm.trans z), e.2]; rfl
    · rw [if_neg z, decide_eq_false (fun y => z (e.1.trans y))]
theorem rkLook_at : ∀ {rk : List (Lab × Int)} {i : Nat} {p : Lab × Int}, (rk.map (·.1)).Nodup → rk[i]? = some p → rkLook rk p.1 = some p.2
  | [], _, _, _, h => by simp at h
  | a :: rk, 0, p, _, h => by
    simp only [List.getElem?_cons_zero, Option.some.injEq] at h
    subst h
    unfold rkLook
    rw [List.find?_cons, decide_eq_true rfl]
    rfl
  | a :: rk, i + 1, p, nd, h => by
    rw [List.map_cons, List.nodup_cons] at nd
    have h' : rk[i]? = some p := by simpa using h
    have ne : ¬ a.1 = p.1 := fun z => nd.1 (by rw [z]; exact List.mem_map.mpr ⟨p, List.mem_of_getElem? h', rfl⟩)
    have ih := rkLook_at nd.2 h'
    unfold rkLook at ih ⊢
    rw [List.find?_cons, decide_eq_false ne]
    exact ih
theorem rkLook_none {rk : List (Lab × Int)} {l : Lab} (h : l ∉ rk.map (·.1)) : rkLook rk l = none := by
  unfold rkLook
  rw [List.find?_eq_none.mpr fun p hp => by
    rw [decide_eq_true_eq]
    exact fun e => h (List.mem_map.mpr ⟨p, hp, e⟩)]
  rfl
theorem stepR_keys (new : List Lab) (rk : List (Lab × Int)) (l : Lab) : (stepR new rk l).map (·.1) = if l ∈ new then rk.map (·.1) ++ [l] else rk.map (·.1) := by
  unfold stepR
  by_cases h : l ∈ new
  · rw [if_pos h, if_pos h, List.map_append]; rfl
  · rw [if_neg h, if_neg h]
theorem ranks_keys (new : List Lab) : ∀ (old : List Lab) (rk : List (Lab × Int)), (old.foldl (stepR new) rk).map (·.1) = rk.map (·.1) ++ old.filter (fun l => decide (l ∈ new))
  | [], rk => by simp
  | l :: old, rk => by
    rw [List.foldl_cons, ranks_keys new old, stepR_keys, List.filter_cons]
    by_cases h : l ∈ new
    · rw [if_pos h, if_pos (decide_eq_true h), List.append_assoc]; rfl
    · rw [if_neg h, if_neg (by rw [decide_eq_false h]; exact Bool.false_ne_true)]
theorem ranksOf_keys (old new : List Lab) : (ranksOf old new).map (·.1) = old.filter fun l => decide (l ∈ new) := by
  unfold ranksOf
  rw [ranks_keys]
  rfl
/-- readings: xs.index(y), a < b -/
abbrev tIdx (K : PySem.W.Frag) (i j : Nat) : TE := tBM K "list" (rIndexLs K) (tVar i) (tCons (tVar j) tNil)
abbrev tLtI (a b : TE) : TT := tTest (tOp (rI0 fun i j => .bl (decide (i < j))) a b)
section
variable {P : Program} {w : World} {K : PySem.W.Frag} {mg : Str → Option Value} {base : Heap} {f g g2 g3 : Addr} {fd gd gd2 gd3 : FuncData}
/-- the dict of the ranks -/
structure RkAt (P : Program) (w : World) (H : Hp) (d : Addr) (kvs : LKV) (rk : List (Lab × Int)) : Prop where
  at_ : H d = some (LDict P w d kvs)
  keys : ∀ p ∈ kvs, LabAt H (.ref p.2.1) p.1
  rel : RkRel kvs rk
def spRanks (P : Program) (w : World) : Sp := fun vs H Q _ => ∃ a b old new, vs = [.ref a, .ref b] ∧ LsAt H a old ∧ LsAt H b new ∧ old.Nodup ∧ old.length ≤ 20 ∧ ∀ d kvs H', H d = none → RkAt P w H' d kvs (ranksOf old new) → Same H H' → Q (.ref d) H'
theorem scRanks : FnScope ["_law_old", "_law_new", "_law_ranks_here", "_law_label_here", "_law_ahead", "_law_one"] ["_law_old", "_law_new"] (defScope (top 23)) := ⟨rfl, rfl, rfl, by decide +kernel, rfl, by decide +kernel, by decide +kernel⟩
theorem ok_ranks (D : Known K mg "_law_ranks" 23 ["_law_old", "_law_new"] f fd) (T : Txt mg) : FnOk P w K mg base CX0 1 f fd ["_law_old", "_law_new"] (spRanks P w) := by
  refine D.F.ok scRanks (fun vs H Q E h => ?_) (fun cdv A outer s H vs Q E hr h => ?_)
  · obtain ⟨a, b, old, new, rfl, _⟩ := h
    rfl
  obtain ⟨a, b, old, new, rfl, ⟨va, ha, la⟩, ⟨vb, hb, lb⟩, ndo, l20, k⟩ := h
  have hu := hr.units
  have hu5 := room65 hr
  refine ⟨_, pss_cons (ps_set (i := 2) scRanks.nd rfl (Or.inr rfl) pe_newLD)
    (pss_cons (ps_for PassesOwn.never rfl (pi_list (pv 0)) (pg_name (i := 3) scRanks.nd rfl (Or.inr rfl))
      (pss_one (ps_if (pt_cmpR (op_inLs hu5) (pv 3) (pv 1) (by rfl))
        (pss_cons (ps_lock (ps_setLc (i := 4) (own := [("_law_one", 5)]) (g := gName 5) (tt := tLtI (tIdx K 1 5) (tIdx K 1 3)) (te := tOp (rIxLD P w) (tVar 2) (tVar 5)) rfl scRanks.nd rfl rfl (sw_true rfl rfl rfl (by decide +kernel)) (pi_ld (pv 2)) (blkOk_by (N := ["_law_old", "_law_new", "_law_ranks_here", "_law_label_here", "_law_ahead", "_law_one"]) (sc := defScope (top 23)) (by decide +kernel))
          (fun _ _ _ _ _ => pg_name (i := 5) scRanks.nd rfl (Or.inl rfl))
          (fun _ _ _ _ _ => pts_one (pt_cmpR op_lt (pe_bm PySem.F.plainAttrs_list PySem.F.slot_list_index PySem.F.type_list_index (mt_indexLs (by exact hu5)) (pv 1) (pa_cons (pv 5) pa_nil))
            (pe_bm PySem.F.plainAttrs_list PySem.F.slot_list_index PySem.F.type_list_index (mt_indexLs (by exact hu5)) (pv 1) (pa_cons (pv 3) pa_nil)) (nomark _)))
          (fun _ _ _ _ _ => pe_ix (ix_ld (by exact hu)) (pv 2) (pv 5) (fun _ _ => rfl))))
        (pss_one (ps_asg (pe_op op_add pe_int (pe_callBK (cr_maxD rfl hu) (by rfl) T.max (by decide +kernel) (pa_cons (pv 4) pa_nil) (pk_cons pe_int pk_nil))) (pg_sub (pv 2) (pv 3) (set_ld hu)))))
        pss_nil)))
    (pss_one (ps_ret (pv 2)))), ?_⟩
  intro d hd
  have nad : a ≠ d := ne_of_none ha hd
  have nbd : b ≠ d := ne_of_none hb hd
  -- what stands between the turns
  refine ⟨_, rfl, a, rfl, ⟨_, SqL.of (by rw [upd_ne nad]; exact ha)⟩, for_list (K := K) (a := a) (xs := va) (fun i σ H' => ∃ (kvs : LKV) (y z u : Option V), σ = [some (.ref a), some (.ref b), some (.ref d), y, z, u] ∧ RkAt P w H' d kvs ((old.take i).foldl (stepR new) []) ∧ Same H H') ?_ (fun i σ H' _ ⟨_, _, _, _, _, _, sm⟩ => SqL.of (sm a _ ha)) ?_ ?_⟩
  · exact ⟨[], none, none, none, rfl, ⟨upd_same, (fun p z => nomatch z), .nil⟩, same_new hd _⟩
  · rintro i x σ H' hi ⟨kvs, y, z, u, rfl, rk, sm⟩
    obtain ⟨l, hl, lab0⟩ := labs_get la hi
    have lab := lab0.mono (sm_tups sm)
    have tk : old.take (i + 1) = old.take i ++ [l] := by rw [List.take_add_one, hl]; rfl
    have fold : (old.take (i + 1)).foldl (stepR new) [] = stepR new ((old.take i).foldl (stepR new) []) l := by rw [tk, List.foldl_append]; rfl
    rw [fold]
    have hkeys : ((old.take i).foldl (stepR new) []).map (·.1) = (old.take i).filter fun l => decide (l ∈ new) := ranksOf_keys (old.take i) new
    generalize (old.take i).foldl (stepR new) [] = rs at rk hkeys ⊢
    have nl : l ∉ old.take i := fun z => by
      have nd2 : (old.take (i + 1)).Nodup := (List.take_sublist _ _).nodup ndo
      rw [tk] at nd2
      exact (List.nodup_append.mp nd2).2.2 l z l (List.mem_singleton.mpr rfl) rfl
    have inew : ∀ p ∈ kvs, p.1 ∈ new := fun p hp => by
      obtain ⟨q, hq⟩ : ∃ q, q ∈ rs ∧ p.1 = q.1 := by
        obtain ⟨n, hn⟩ := List.mem_iff_getElem?.mp hp
        obtain ⟨q, h1, h2⟩ := paired_get rk.rel hn
        exact ⟨q, List.mem_of_getElem? h1, h2.1⟩
      have z : q.1 ∈ rs.map (·.1) := List.mem_map.mpr ⟨q, hq.1, rfl⟩
      rw [hkeys] at z
      rw [hq.2]
      exact of_decide_eq_true (List.mem_filter.mp z).2
    have ndk : (rs.map (·.1)).Nodup := by rw [hkeys]; exact List.Sublist.nodup (List.filter_sublist.trans (List.take_sublist _ _)) ndo
    have lnk : l ∉ rs.map (·.1) := by
      rw [hkeys]
      exact fun z => nl (List.mem_filter.mp z).1
    have lenk : kvs.length = rs.length := Paired.len_eq rk.rel
    have lenr : rs.length ≤ 20 := by
      have z := congrArg List.length hkeys
      rw [List.length_map] at z
      have z2 := List.length_filter_le (fun l => decide (l ∈ new)) (old.take i)
      rw [List.length_take] at z2
      omega
    have hb' := sm b _ hb
    have lb' := labs_mono (sm_tups sm) lb
    refine ⟨_, rfl, _, rfl, l, b, vb, new, rfl, lab, SqL.of hb', lb', _, rfl, ?_⟩
    refine ite2 (fun e => ?_) (fun e => ?_)
    · have il : l ∈ new := by simpa using e
      -- the ranks ahead
      refine ⟨d, _, rk.at_, True.intro, fun od => ?_⟩
      have nbd' : b ≠ d := nbd
      have t1 : Tups H' (upd H' d (.frz od (LDict P w d kvs))) := Tups.put rk.at_ (fun _ z => nomatch z)
      refine ⟨_, rfl, d, od, kvs, rfl, upd_same, fun D0 hD => ?_⟩
      have ndD : d ≠ D0 := ne_of_none upd_same hD
      have fD : H' D0 = none := by rw [upd_ne (Ne.symm ndD)] at hD; exact hD
      refine lc_ld (P := P) (w := w) (d := d) (o := od) (kvs := kvs) (fun i H2 => ∃ ns : List Int, H2 D0 = some (.lst (ns.map V.int)) ∧ ns = ahead new (rs.take i) l ∧ Same (upd H' d (.frz od (LDict P w d kvs))) H2) ?_ (fun i H2 ⟨_, _, _, s2⟩ => s2 d _ upd_same) ?_ ?_
      · exact ⟨[], upd_same, rfl, same_new hD _⟩
      · rintro j p H2 hp ⟨ns, hns, ens, s2⟩
        obtain ⟨q, hq, e1, e2⟩ := paired_get rk.rel hp
        have t2 := t1.trans (sm_tups s2)
        have hb2 : H2 b = some (.lst vb) := s2 b _ (by rw [upd_ne nbd]; exact hb')
        have lb2 := labs_mono t2 lb'
        have mem := List.mem_of_getElem? hp
        have pl : LabAt H2 (.ref p.2.1) p.1 := (rk.keys p mem).mono t2
        have tkq : rs.take (j + 1) = rs.take j ++ [q] := by rw [List.take_add_one, hq]; rfl
        have len2 : ns.length ≤ 20 := by
          rw [ens]
          unfold ahead
          have z := List.length_filter_le (fun p => decide (new.idxOf p.1 < new.idxOf l)) (rs.take j)
          rw [List.length_take] at z
          rw [List.length_map]
          omega
        have turn : ahead new (rs.take (j + 1)) l = if new.idxOf q.1 < new.idxOf l then ns ++ [q.2] else ns := by
          rw [ens, tkq]
          unfold ahead
          rw [List.filter_append, List.map_append, List.filter_cons]
          by_cases c : new.idxOf q.1 < new.idxOf l
          · rw [if_pos c, if_pos (decide_eq_true c)]; rfl
          · rw [if_neg c, if_neg (by rw [decide_eq_false c]; exact Bool.false_ne_true)]
            exact List.append_nil _
        refine ⟨rfl, ?_⟩
        refine ⟨_, rfl, .inl ⟨rfl, _, SqL.of hb2⟩, _, rfl, b, _, p.1, vb, new, rfl, rfl, SqL.of hb2, lb2, pl, inew p mem, ?_⟩
        refine ⟨_, rfl, .inl ⟨rfl, _, SqL.of hb2⟩, _, rfl, b, _, l, vb, new, rfl, rfl, SqL.of hb2, lb2, lab.mono t2, il, ?_⟩
        refine ⟨_, _, rfl, rfl, _, rfl, ?_⟩
        refine ite2 (fun e => ?_) (fun e => ?_)
        · have c : new.idxOf q.1 < new.idxOf l := by
            rw [decide_eq_true_eq, e1] at e
            omega
          have look : getL kvs p.1 = some (.int q.2) := by rw [rk_get rk.rel, e1, rkLook_at ndk hq]; rfl
          refine ⟨_, rfl, _, rfl, d, p.2.1, p.1, kvs, .int q.2, rfl, rfl, ⟨.inr ⟨od, s2 d _ upd_same⟩, fun p' hp' => (rk.keys p' hp').mono t2⟩, pl, look, ns.map V.int, hns, by rw [List.length_map, sizeLine_eq]; omega, ns ++ [q.2], ?_, ?_, sm_put s2 hD _⟩
          · rw [upd_same, List.map_append]; rfl
          · rw [turn, if_pos c]
        · have c : ¬ new.idxOf q.1 < new.idxOf l := by
            rw [decide_eq_true_eq, e1] at e
            omega
          exact ⟨ns, hns, by rw [turn, if_neg c], s2⟩
      · rintro H2 ⟨ns, hns, ens, s2⟩
        rw [lenk, List.take_length] at ens
        refine ⟨s2 d _ upd_same, ?_⟩
        -- unlocked
        have s3 : Same H' (upd H2 d (LDict P w d kvs)) := fun c o e => by
          by_cases z : c = d
          · subst z; rw [rk.at_] at e; rw [upd_same, ← e]
          · rw [upd_ne z]; exact s2 c o (by rw [upd_ne z]; exact e)
        have hns3 : upd H2 d (LDict P w d kvs) D0 = some (.lst (ns.map V.int)) := by rw [upd_ne (Ne.symm ndD)]; exact hns
        have keys3 : ∀ p ∈ kvs, LabAt (upd H2 d (LDict P w d kvs)) (.ref p.2.1) p.1 := fun p hp => (rk.keys p hp).mono (sm_tups s3)
        have lab3 := lab.mono (sm_tups s3)
        obtain ⟨bl, vl, rfl, _⟩ := id lab3
        refine ⟨_, rfl, D0, ns, 0, rfl, rfl, SqL.of hns3, _, _, rfl, rfl, _, rfl, _, rfl, d, bl, l, kvs, rfl, rfl, upd_same, keys3, lab3, ?_, by rw [sizeLine_eq]; omega, ?_⟩
        · rw [rk_get rk.rel, rkLook_none lnk]; rfl
        · have s4 : Same H (upd (upd H2 d (LDict P w d kvs)) d (LDict P w d (kvs ++ [(l, bl, .int (1 + maxD0 0 ns))]))) := sm_put (Same.trans sm s3) hd _
          have t4 : Tups (upd H2 d (LDict P w d kvs)) (upd (upd H2 d (LDict P w d kvs)) d (LDict P w d (kvs ++ [(l, bl, .int (1 + maxD0 0 ns))]))) := Tups.put upd_same (fun _ z => nomatch z)
          refine ⟨_, _, _, _, rfl, ⟨upd_same, fun p hp => ?_, ?_⟩, s4⟩
          · rcases List.mem_append.mp hp with z | z
            · exact (keys3 p z).mono t4
            · cases List.mem_singleton.mp z; exact lab3.mono t4
          · unfold stepR
            rw [if_pos il, ← ens]
            exact Paired.snoc rk.rel ⟨rfl, rfl⟩
    · have il : l ∉ new := by simpa using e
      refine ⟨kvs, _, _, _, rfl, ?_, sm⟩
      unfold stepR
      rw [if_neg il]
      exact rk
  · rintro σ H' ⟨kvs, y, z, u, rfl, rk, sm⟩
    rw [Paired.len_eq la, List.take_length] at rk
    exact ⟨_, rfl, k d kvs H' hd rk sm⟩
end
end K42
/-! The plain law: rows that rise and fall. -/
namespace K42

/-! ### places -/
theorem idx_inj {row : List Lab} {a b : Lab} (ha : a ∈ row) (hb : b ∈ row) (h : row.idxOf a = row.idxOf b) : a = b := by
  have la := List.idxOf_lt_length_iff.mpr ha
  have lb := List.idxOf_lt_length_iff.mpr hb
  have e1 := List.getElem_idxOf la
  have e2 := List.getElem_idxOf lb
  rw [← e1, ← e2]
  congr 1
theorem idx_rises {row : List Lab} (nd : row.Nodup) : row.Pairwise fun a b => row.idxOf a < row.idxOf b := by
  rw [List.pairwise_iff_getElem]
  intro i j hi hj lt
  rw [nd.idxOf_getElem i hi, nd.idxOf_getElem j hj]
  exact lt
/-- the common labels -/
def com (old new : List Lab) : List Lab := old.filter fun l => decide (l ∈ new)
theorem mem_com {old new : List Lab} {l : Lab} : l ∈ com old new ↔ l ∈ old ∧ l ∈ new := by
  unfold com
  rw [List.mem_filter, decide_eq_true_eq]

/-! ### the greatest -/
theorem best_fold : ∀ (xs : List Int) (x : Int), x ≤ xs.foldl (fun a y => if a < y then y else a) x ∧ (∀ y ∈ xs, y ≤ xs.foldl (fun a y => if a < y then y else a) x) ∧ xs.foldl (fun a y => if a < y then y else a) x ∈ x :: xs
  | [], x => ⟨Int.le_refl _, (fun y h => nomatch h), List.mem_singleton.mpr rfl⟩
  | y :: xs, x => by
    rw [List.foldl_cons]
    obtain ⟨h1, h2, h3⟩ := best_fold xs (if x < y then y else x)
    have hx : x ≤ (if x < y then y else x) ∧ y ≤ (if x < y then y else x) := by split <;> omega
    refine ⟨Int.le_trans hx.1 h1, fun z hz => ?_, ?_⟩
    · rcases List.mem_cons.mp hz with e | hz
      · rw [e]; exact Int.le_trans hx.2 h1
      · exact h2 z hz
    · rcases List.mem_cons.mp h3 with e | h3
      · rw [e]
        split
        · exact List.mem_cons_of_mem _ List.mem_cons_self
        · exact List.mem_cons_self
      · exact List.mem_cons_of_mem _ (List.mem_cons_of_mem _ h3)
theorem maxD0_ge {d : Int} {ns : List Int} {n : Int} (h : n ∈ ns) : n ≤ maxD0 d ns := by
  cases ns with
  | nil => exact nomatch h
  | cons x xs =>
    obtain ⟨h1, h2, _⟩ := best_fold xs x
    rcases List.mem_cons.mp h with e | h
    · rw [e]; exact h1
    · exact h2 n h
theorem maxD0_mem {d : Int} {ns : List Int} (h : ns ≠ []) : maxD0 d ns ∈ ns := by
  cases ns with
  | nil => exact absurd rfl h
  | cons x xs => exact (best_fold xs x).2.2

/-! ### ranks -/
structure RkInv (old new : List Lab) (rs : List (Lab × Int)) : Prop where
  ge : ∀ p ∈ rs, 1 ≤ p.2
  le : ∀ p ∈ rs, p.2 ≤ rs.length
  pred : ∀ p ∈ rs, 1 < p.2 → ∃ q ∈ rs, q.2 = p.2 - 1 ∧ old.idxOf q.1 < old.idxOf p.1 ∧ new.idxOf q.1 < new.idxOf p.1
  mono : ∀ p ∈ rs, ∀ q ∈ rs, old.idxOf p.1 < old.idxOf q.1 → new.idxOf p.1 < new.idxOf q.1 → p.2 < q.2
theorem mem_ahead {new : List Lab} {rs : List (Lab × Int)} {l : Lab} {n : Int} : n ∈ ahead new rs l ↔ ∃ q ∈ rs, new.idxOf q.1 < new.idxOf l ∧ q.2 = n := by
  unfold ahead
  rw [List.mem_map]
  constructor
  · rintro ⟨q, hq, e⟩
    rw [List.mem_filter, decide_eq_true_eq] at hq
    exact ⟨q, hq.1, hq.2, e⟩
  · rintro ⟨q, hq, lt, e⟩
    exact ⟨q, List.mem_filter.mpr ⟨hq, decide_eq_true lt⟩, e⟩
theorem rk_step {old new : List Lab} {rs : List (Lab × Int)} {l : Lab} (R : RkInv old new rs) (before : ∀ p ∈ rs, old.idxOf p.1 < old.idxOf l) : RkInv old new (stepR new rs l) := by
  unfold stepR
  split
  · have best : 0 ≤ maxD0 0 (ahead new rs l) ∧ maxD0 0 (ahead new rs l) ≤ rs.length ∧ (0 < maxD0 0 (ahead new rs l) → ∃ q ∈ rs, new.idxOf q.1 < new.idxOf l ∧ q.2 = maxD0 0 (ahead new rs l)) := by
      by_cases h : ahead new rs l = []
      · rw [h]
        exact ⟨Int.le_refl _, Int.natCast_nonneg _, fun z => absurd z (by decide)⟩
      · obtain ⟨q, hq, lt, e⟩ := mem_ahead.mp (maxD0_mem (d := 0) h)
        have h1 := R.ge q hq
        have h2 := R.le q hq
        exact ⟨by omega, by omega, fun _ => ⟨q, hq, lt, e⟩⟩
    have len : ((rs ++ [(l, 1 + maxD0 0 (ahead new rs l))]).length : Int) = rs.length + 1 := by rw [List.length_append, List.length_singleton]; rfl
    refine ⟨fun p hp => ?_, fun p hp => ?_, fun p hp lt => ?_, fun p hp q hq h1 h2 => ?_⟩
    · rcases List.mem_append.mp hp with hp | hp
      · exact R.ge p hp
      · cases List.mem_singleton.mp hp
        show 1 ≤ 1 + maxD0 0 (ahead new rs l)
        omega
    · rw [len]
      rcases List.mem_append.mp hp with hp | hp
      · have := R.le p hp
        omega
      · cases List.mem_singleton.mp hp
        show 1 + maxD0 0 (ahead new rs l) ≤ _
        omega
    · rcases List.mem_append.mp hp with hp | hp
      · obtain ⟨q, hq, r⟩ := R.pred p hp lt
        exact ⟨q, List.mem_append_left _ hq, r⟩
      · cases List.mem_singleton.mp hp
        obtain ⟨q, hq, h1, e⟩ := best.2.2 (by have : 1 < 1 + maxD0 0 (ahead new rs l) := lt; omega)
        exact ⟨q, List.mem_append_left _ hq, by show q.2 = 1 + maxD0 0 (ahead new rs l) - 1; omega, before q hq, h1⟩
    · rcases List.mem_append.mp hp with hp | hp <;> rcases List.mem_append.mp hq with hq | hq
      · exact R.mono p hp q hq h1 h2
      · cases List.mem_singleton.mp hq
        have : p.2 ≤ maxD0 0 (ahead new rs l) := maxD0_ge (mem_ahead.mpr ⟨p, hp, h2, rfl⟩)
        show p.2 < 1 + maxD0 0 (ahead new rs l)
        omega
      · cases List.mem_singleton.mp hp
        have z := before q hq
        exact absurd h1 (by show ¬ old.idxOf l < old.idxOf q.1; omega)
      · cases List.mem_singleton.mp hp
        cases List.mem_singleton.mp hq
        exact absurd h1 (Nat.lt_irrefl _)
  · exact R
theorem ranks_inv {old : List Lab} (new : List Lab) (nd : old.Nodup) : RkInv old new (ranksOf old new) := by
  have go : ∀ (post pre : List Lab) (rs : List (Lab × Int)), old = pre ++ post → RkInv old new rs → (∀ p ∈ rs, p.1 ∈ pre) → RkInv old new (post.foldl (stepR new) rs) := by
    intro post
    induction post with
    | nil => intro pre rs _ R _; exact R
    | cons l post ih =>
      intro pre rs e R keys
      rw [List.foldl_cons]
      have nl : l ∉ pre := fun h => by
        rw [e] at nd
        exact (List.nodup_append.mp nd).2.2 l h l List.mem_cons_self rfl
      have before : ∀ p ∈ rs, old.idxOf p.1 < old.idxOf l := fun p hp => by
        rw [e, List.idxOf_append, List.idxOf_append, if_pos (keys p hp), if_neg nl]
        have := List.idxOf_lt_length_iff.mpr (keys p hp)
        omega
      refine ih (pre ++ [l]) _ (by rw [e, List.append_assoc]; rfl) (rk_step R before) fun p hp => ?_
      unfold stepR at hp
      split at hp
      · rcases List.mem_append.mp hp with hp | hp
        · exact List.mem_append_left _ (keys p hp)
        · cases List.mem_singleton.mp hp
          exact List.mem_append_right _ (List.mem_singleton.mpr rfl)
      · exact List.mem_append_left _ (keys p hp)
  exact go old [] [] rfl ⟨(fun p h => nomatch h), (fun p h => nomatch h), (fun p h => nomatch h), (fun p h => nomatch h)⟩ fun p h => nomatch h
/-- the greatest rank -/
def most (rs : List (Lab × Int)) : Int := maxD0 0 (rs.map (·.2))
theorem most_ge {rs : List (Lab × Int)} {p : Lab × Int} (h : p ∈ rs) : p.2 ≤ most rs := maxD0_ge (List.mem_map.mpr ⟨p, h, rfl⟩)
theorem most_mem {rs : List (Lab × Int)} (h : rs ≠ []) : ∃ p ∈ rs, p.2 = most rs := by
  obtain ⟨p, hp, e⟩ := List.mem_map.mp (maxD0_mem (d := 0) (ns := rs.map (·.2)) fun z => h (List.map_eq_nil_iff.mp z))
  exact ⟨p, hp, e⟩
theorem most_bounds {old new : List Lab} {rs : List (Lab × Int)} (R : RkInv old new rs) : 0 ≤ most rs ∧ most rs ≤ rs.length := by
  by_cases h : rs = []
  · subst h; exact ⟨Int.le_refl _, Int.le_refl _⟩
  · obtain ⟨p, hp, e⟩ := most_mem h
    have := R.ge p hp
    have := R.le p hp
    omega
/-- every rank is some label's -/
theorem rank_all {old new : List Lab} {rs : List (Lab × Int)} (R : RkInv old new rs) : ∀ (j : Nat) (r : Int), r = most rs - j → 1 ≤ r → ∃ p ∈ rs, p.2 = r
  | 0, r, e, h => by
    have ne : rs ≠ [] := fun z => by
      subst z
      have : most [] = 0 := rfl
      omega
    obtain ⟨p, hp, e2⟩ := most_mem ne
    exact ⟨p, hp, by omega⟩
  | j + 1, r, e, h => by
    obtain ⟨p, hp, e2⟩ := rank_all R j (r + 1) (by omega) (by omega)
    obtain ⟨q, hq, e3, _⟩ := R.pred p hp (by omega)
    exact ⟨q, hq, by omega⟩

/-! ### what a paper is -/
def Adj (old new : List Lab) (f : Bool) (a b : Lab) : Prop := old.idxOf a < old.idxOf b ∧ new.idxOf a ≠ new.idxOf b ∧ decide (new.idxOf b < new.idxOf a) = f
def Goes (old new : List Lab) (f : Bool) (ls : List Lab) : Prop := ∀ (k : Nat) (a b : Lab), ls[k]? = some a → ls[k + 1]? = some b → Adj old new f a b
structure Lets (old new stays : List Lab) (falls : List (List Lab)) : Prop where
  here : ∀ l ∈ stays, l ∈ old ∧ l ∈ new
  len : stays.length = falls.length
  rise : Goes old new false stays
  each : ∀ f ∈ falls, (∀ l ∈ f, l ∈ old ∧ l ∈ new) ∧ f ≠ [] ∧ Goes old new true f
  uniq : falls.flatten.Nodup
  whole : falls.flatten.length = (com old new).length
theorem goes_tail {old new : List Lab} {f : Bool} {a : Lab} {ls : List Lab} (h : Goes old new f (a :: ls)) : Goes old new f ls := fun k x y hx hy => h (k + 1) x y (by simpa using hx) (by simpa using hy)
/-- one behind another, so all behind all -/
theorem goes_all {old new : List Lab} {f : Bool} : ∀ {ls : List Lab}, Goes old new f ls → ls.Pairwise (Adj old new f)
  | [], _ => .nil
  | [a], _ => List.pairwise_singleton _ _
  | a :: b :: ls, h => by
    have ih := goes_all (goes_tail h)
    have ab := h 0 a b rfl rfl
    refine List.pairwise_cons.mpr ⟨fun x hx => ?_, ih⟩
    rcases List.mem_cons.mp hx with e | hx
    · rw [e]; exact ab
    · obtain ⟨h1, h2, h3⟩ := ab
      obtain ⟨k1, k2, k3⟩ := (List.pairwise_cons.mp ih).1 x hx
      refine ⟨by omega, ?_, ?_⟩
      · cases f with
        | true =>
          have h3 := of_decide_eq_true h3
          have k3 := of_decide_eq_true k3
          omega
        | false =>
          have h3 := of_decide_eq_false h3
          have k3 := of_decide_eq_false k3
          omega
      · cases f with
        | true =>
          have h3 := of_decide_eq_true h3
          have k3 := of_decide_eq_true k3
          exact decide_eq_true (by omega)
        | false =>
          have h3 := of_decide_eq_false h3
          have k3 := of_decide_eq_false k3
          exact decide_eq_false (by omega)
theorem all_goes {old new : List Lab} {f : Bool} {ls : List Lab} (h : ls.Pairwise (Adj old new f)) : Goes old new f ls := fun k a b ha hb => by
  obtain ⟨h1, rfl⟩ := List.getElem?_eq_some_iff.mp ha
  obtain ⟨h2, rfl⟩ := List.getElem?_eq_some_iff.mp hb
  exact List.pairwise_iff_getElem.mp h k (k + 1) h1 h2 (Nat.lt_succ_self k)
theorem Lets.rev {old new stays : List Lab} {falls : List (List Lab)} (h : Lets old new stays falls) : Lets old new stays falls.reverse := by
  have pm : falls.reverse.flatten.Perm falls.flatten := (List.reverse_perm falls).flatten
  exact ⟨h.here, by rw [List.length_reverse]; exact h.len, h.rise, fun f hf => h.each f (List.mem_reverse.mp hf), pm.nodup_iff.mpr h.uniq, by rw [pm.length_eq]; exact h.whole⟩

/-! ### the longest rising row -/
def Longest (places : List Int) (m : Int) : Prop := (∀ s : List Int, s.Sublist places → s.Pairwise (· ≤ ·) → (s.length : Int) ≤ m) ∧ ∃ s : List Int, s.Sublist places ∧ s.Pairwise (· ≤ ·) ∧ (s.length : Int) = m
def placesOf (old new : List Lab) : List Int := (com old new).map fun l => ((new.idxOf l : Nat) : Int)
theorem lets_rises {old new stays : List Lab} {falls : List (List Lab)} (h : Lets old new stays falls) : stays.Pairwise fun a b => old.idxOf a < old.idxOf b ∧ new.idxOf a < new.idxOf b :=
  (goes_all h.rise).imp fun {a b} ⟨h1, h2, h3⟩ => ⟨h1, by have := of_decide_eq_false h3; omega⟩
theorem com_nodup {old : List Lab} (new : List Lab) (nd : old.Nodup) : (com old new).Nodup := List.filter_sublist.nodup nd
theorem com_rises {old : List Lab} (new : List Lab) (nd : old.Nodup) : (com old new).Pairwise fun a b => old.idxOf a < old.idxOf b := (idx_rises nd).sublist List.filter_sublist
/-- each fall has one of a rising row at most -/
theorem rising_short {old new stays : List Lab} {falls : List (List Lab)} (h : Lets old new stays falls) (nd : old.Nodup) {ks : List Lab} (sub : ∀ l ∈ ks, l ∈ com old new) (up : ks.Pairwise fun a b => old.idxOf a < old.idxOf b ∧ new.idxOf a < new.idxOf b) : ks.length ≤ falls.length := by
  have pm : falls.flatten.Perm (com old new) := perm_within h.uniq (fun l hl => by
    obtain ⟨f, hf, hl⟩ := List.mem_flatten.mp hl
    exact mem_com.mpr ((h.each f hf).1 l hl)) (Nat.le_of_eq h.whole.symm)
  have inFall : ∀ l ∈ ks, falls.findIdx (fun f => decide (l ∈ f)) < falls.length := fun l hl => by
    obtain ⟨f, hf, hl⟩ := List.mem_flatten.mp (pm.mem_iff.mpr (sub l hl))
    exact List.findIdx_lt_length.mpr ⟨f, hf, decide_eq_true hl⟩
  have nd2 : (ks.map fun l => falls.findIdx fun f => decide (l ∈ f)).Nodup := by
    unfold List.Nodup
    rw [List.pairwise_map]
    refine up.imp_of_mem fun {a b} ha hb ab e => ?_
    have la := inFall a ha
    have lb := inFall b hb
    have ma : a ∈ falls[falls.findIdx fun f => decide (a ∈ f)] := of_decide_eq_true (List.findIdx_getElem (w := la))
    have mb : b ∈ falls[falls.findIdx fun f => decide (b ∈ f)] := of_decide_eq_true (List.findIdx_getElem (w := lb))
    simp only [← e] at mb
    have fall := goes_all (h.each _ (List.getElem_mem la)).2.2
    obtain ⟨i, hi, ei⟩ := List.getElem_of_mem ma
    obtain ⟨j, hj, ej⟩ := List.getElem_of_mem mb
    rcases Nat.lt_trichotomy i j with lt | eq | gt
    · have z := List.pairwise_iff_getElem.mp fall i j hi hj lt
      rw [ei, ej] at z
      have := of_decide_eq_true z.2.2
      omega
    · subst eq
      rw [ei] at ej
      rw [ej] at ab
      omega
    · have z := List.pairwise_iff_getElem.mp fall j i hj hi gt
      rw [ei, ej] at z
      have := z.1
      omega
  have z := nodup_len nd2 (B := List.range falls.length) fun n hn => by
    obtain ⟨l, hl, rfl⟩ := List.mem_map.mp hn
    exact List.mem_range.mpr (inFall l hl)
  rwa [List.length_map, List.length_range] at z
theorem lets_longest {old new stays : List Lab} {falls : List (List Lab)} (h : Lets old new stays falls) (nd : old.Nodup) {m : Int} (L : Longest (placesOf old new) m) : m = stays.length := by
  obtain ⟨up, s, s1, s2, s3⟩ := L
  have comR := com_rises new nd
  refine Int.le_antisymm ?_ ?_
  · obtain ⟨ks, sub, rfl⟩ := List.sublist_map_iff.mp s1
    rw [List.length_map] at s3
    have mem : ∀ l ∈ ks, l ∈ com old new := fun l hl => sub.subset hl
    have rise : ks.Pairwise fun a b => old.idxOf a < old.idxOf b ∧ new.idxOf a < new.idxOf b := by
      rw [List.pairwise_map] at s2
      have both : ks.Pairwise fun a b => old.idxOf a < old.idxOf b ∧ ((new.idxOf a : Nat) : Int) ≤ ((new.idxOf b : Nat) : Int) := (comR.sublist sub).and s2
      refine both.imp_of_mem fun {a b} ha hb ⟨h1, h2⟩ => ⟨h1, ?_⟩
      have ne : new.idxOf a ≠ new.idxOf b := fun e => by
        have z := idx_inj (mem_com.mp (mem a ha)).2 (mem_com.mp (mem b hb)).2 e
        rw [z] at h1
        omega
      omega
    have := rising_short h nd mem rise
    have := h.len
    omega
  · have rise := lets_rises h
    have nds : stays.Nodup := rise.imp fun {a b} ⟨h1, _⟩ e => by rw [e] at h1; omega
    have ndc : ((com old new).filter fun l => decide (l ∈ stays)).Nodup := List.filter_sublist.nodup (com_nodup new nd)
    have len : stays.length ≤ ((com old new).filter fun l => decide (l ∈ stays)).length := nodup_len nds fun l hl => List.mem_filter.mpr ⟨mem_com.mpr (h.here l hl), decide_eq_true hl⟩
    have up2 := up (((com old new).filter fun l => decide (l ∈ stays)).map fun l => ((new.idxOf l : Nat) : Int)) (List.filter_sublist.map _) (by
      rw [List.pairwise_map]
      refine (comR.sublist List.filter_sublist).imp_of_mem fun {a b} ha hb ab => ?_
      have sa := of_decide_eq_true (List.mem_filter.mp ha).2
      have sb := of_decide_eq_true (List.mem_filter.mp hb).2
      obtain ⟨i, hi, ei⟩ := List.getElem_of_mem sa
      obtain ⟨j, hj, ej⟩ := List.getElem_of_mem sb
      rcases Nat.lt_trichotomy i j with lt | eq | gt
      · have z := List.pairwise_iff_getElem.mp rise i j hi hj lt
        rw [ei, ej] at z
        omega
      · subst eq
        rw [ei] at ej
        rw [ej] at ab
        omega
      · have z := List.pairwise_iff_getElem.mp rise j i hj hi gt
        rw [ei, ej] at z
        omega)
    rw [List.length_map] at up2
    omega

/-! ### the law's own paper -/
def classOf (rs : List (Lab × Int)) (r : Int) : List Lab := (rs.filter fun p => decide (p.2 = r)).map (·.1)
def fallsOf (rs : List (Lab × Int)) (n : Nat) : List (List Lab) := (List.range n).map fun r : Nat => classOf rs ((r : Int) + 1)
/-- stays from the rank m on -/
def Chain (old new : List Lab) (rs : List (Lab × Int)) : Int → List Lab → Prop
  | _, [] => True
  | m, l :: r => (l, m) ∈ rs ∧ (∀ l', r.head? = some l' → old.idxOf l < old.idxOf l' ∧ new.idxOf l < new.idxOf l') ∧ Chain old new rs (m + 1) r
theorem mem_class {rs : List (Lab × Int)} {r : Int} {l : Lab} : l ∈ classOf rs r ↔ (l, r) ∈ rs := by
  unfold classOf
  rw [List.mem_map]
  constructor
  · rintro ⟨p, hp, rfl⟩
    rw [List.mem_filter, decide_eq_true_eq] at hp
    rw [← hp.2]
    exact hp.1
  · intro h
    exact ⟨(l, r), List.mem_filter.mpr ⟨h, decide_eq_true rfl⟩, rfl⟩
theorem chain_mem {old new : List Lab} {rs : List (Lab × Int)} : ∀ {m : Int} {ls : List Lab}, Chain old new rs m ls → ∀ l ∈ ls, ∃ r, (l, r) ∈ rs
  | _, [], _, l, h => nomatch h
  | m, x :: ls, c, l, h => by
    rcases List.mem_cons.mp h with e | h
    · exact ⟨m, e ▸ c.1⟩
    · exact chain_mem c.2.2 l h
theorem chain_goes {old new : List Lab} {rs : List (Lab × Int)} : ∀ {m : Int} {ls : List Lab}, Chain old new rs m ls → Goes old new false ls
  | _, [], _ => fun k a b h _ => by simp at h
  | m, x :: ls, c => fun k a b ha hb => by
    cases k with
    | zero =>
      simp only [List.getElem?_cons_zero, Option.some.injEq] at ha
      subst ha
      obtain ⟨h1, h2⟩ := c.2.1 b (by rw [List.head?_eq_getElem?]; simpa using hb)
      exact ⟨h1, by omega, decide_eq_false (by omega)⟩
    | succ k => exact chain_goes c.2.2 k a b (by simpa using ha) (by simpa using hb)
theorem own_lets {old new : List Lab} (ndo : old.Nodup) {stays : List Lab} (hc : Chain old new (ranksOf old new) 1 stays) (hl : (stays.length : Int) = most (ranksOf old new)) : Lets old new stays (fallsOf (ranksOf old new) (most (ranksOf old new)).toNat) := by
  have R := ranks_inv new ndo
  have keys : (ranksOf old new).map (·.1) = com old new := ranksOf_keys old new
  generalize ranksOf old new = rs at hc hl R keys ⊢
  have ndk : (rs.map (·.1)).Nodup := by rw [keys]; exact com_nodup new ndo
  have inCom : ∀ {l : Lab} {r : Int}, (l, r) ∈ rs → l ∈ com old new := fun {l r} h => by rw [← keys]; exact List.mem_map.mpr ⟨(l, r), h, rfl⟩
  have one : ∀ {l : Lab} {r r' : Int}, (l, r) ∈ rs → (l, r') ∈ rs → r = r' := fun {l r r'} h h' => by
    obtain ⟨i, hi, ei⟩ := List.getElem_of_mem h
    obtain ⟨j, hj, ej⟩ := List.getElem_of_mem h'
    have z : i = j := by
      refine (List.getElem_inj (h₀ := by rw [List.length_map]; exact hi) (h₁ := by rw [List.length_map]; exact hj) ndk).mp ?_
      rw [List.getElem_map, List.getElem_map, ei, ej]
    subst z
    rw [ei] at ej
    exact congrArg Prod.snd ej
  have mb := most_bounds R
  have rows : rs.Pairwise fun p q => old.idxOf p.1 < old.idxOf q.1 := by
    have z := com_rises new ndo
    rw [← keys, List.pairwise_map] at z
    exact z
  have memF : ∀ f ∈ fallsOf rs (most rs).toNat, ∃ r : Int, 1 ≤ r ∧ r ≤ most rs ∧ f = classOf rs r := fun f hf => by
    obtain ⟨n, hn, rfl⟩ := List.mem_map.mp hf
    have := List.mem_range.mp hn
    exact ⟨_, by omega, by omega, rfl⟩
  have ndF : (fallsOf rs (most rs).toNat).flatten.Nodup := by
    unfold List.Nodup
    rw [List.pairwise_flatten]
    constructor
    · intro f hf
      obtain ⟨r, _, _, rfl⟩ := memF f hf
      exact List.Sublist.nodup (List.Sublist.map (fun p : Lab × Int => p.1) List.filter_sublist) ndk
    · unfold fallsOf
      rw [List.pairwise_map]
      refine (List.nodup_range (n := (most rs).toNat)).imp fun {i j} ne x hx y hy e => ?_
      subst e
      have := one (mem_class.mp hx) (mem_class.mp hy)
      omega
  refine ⟨fun l h => ?_, ?_, chain_goes hc, fun f hf => ?_, ndF, ?_⟩
  · obtain ⟨r, hr⟩ := chain_mem hc l h
    exact mem_com.mp (inCom hr)
  · unfold fallsOf
    rw [List.length_map, List.length_range]
    omega
  · obtain ⟨r, r1, r2, rfl⟩ := memF f hf
    refine ⟨fun l hl => mem_com.mp (inCom (mem_class.mp hl)), ?_, all_goes ?_⟩
    · obtain ⟨p, hp, e⟩ := rank_all R (most rs - r).toNat r (by omega) r1
      exact List.ne_nil_of_mem (mem_class.mpr (show (p.1, r) ∈ rs by rw [← e]; exact hp))
    · unfold classOf
      rw [List.pairwise_map]
      refine (rows.sublist List.filter_sublist).imp_of_mem fun {p q} hp hq lt => ?_
      rw [List.mem_filter, decide_eq_true_eq] at hp hq
      have ne : new.idxOf p.1 ≠ new.idxOf q.1 := fun e => by
        have z := idx_inj (mem_com.mp (inCom (show (p.1, p.2) ∈ rs from hp.1))).2 (mem_com.mp (inCom (show (q.1, q.2) ∈ rs from hq.1))).2 e
        rw [z] at lt
        omega
      refine ⟨lt, ne, decide_eq_true ?_⟩
      rcases Nat.lt_or_ge (new.idxOf p.1) (new.idxOf q.1) with z | z
      · have := R.mono p hp.1 q hq.1 lt z
        omega
      · omega
  · have pm : (fallsOf rs (most rs).toNat).flatten.Perm (com old new) := by
      refine perm_within ndF (fun l hl => ?_) (nodup_len (com_nodup new ndo) fun l hl => ?_)
      · obtain ⟨f, hf, hl⟩ := List.mem_flatten.mp hl
        obtain ⟨r, _, _, rfl⟩ := memF f hf
        exact inCom (mem_class.mp hl)
      · rw [← keys] at hl
        obtain ⟨p, hp, rfl⟩ := List.mem_map.mp hl
        have h1 := R.ge p hp
        have h2 := most_ge hp
        refine List.mem_flatten.mpr ⟨classOf rs p.2, List.mem_map.mpr ⟨(p.2 - 1).toNat, List.mem_range.mpr (by omega), ?_⟩, mem_class.mpr hp⟩
        rw [show (((p.2 - 1).toNat : Nat) : Int) + 1 = p.2 by omega]
    exact pm.length_eq
end K42
namespace K42
open PySem PySem.Spec PyProof.Rows L2
/-! ### what _law_row_paper's comprehensions bring -/
abbrev tEqI (a b : TE) : TT := tTest (tOp rEq a b)
theorem unlock_same {H H2 : Hp} {d : Addr} {od : Obj} {u : HO} (e : H d = some u) (s : Same (upd H d (.frz od u)) H2) : Same H (upd H2 d u) := fun c o h => by
  by_cases z : c = d
  · subst z; rw [e] at h; rw [upd_same, ← h]
  · rw [upd_ne z]; exact s c o (by rw [upd_ne z]; exact h)
theorem class_take (rs : List (Lab × Int)) (r : Int) (j : Nat) {q : Lab × Int} (h : rs[j]? = some q) : classOf (rs.take (j + 1)) r = if q.2 = r then classOf (rs.take j) r ++ [q.1] else classOf (rs.take j) r := by
  unfold classOf
  rw [List.take_add_one, h]
  show (List.filter _ (rs.take j ++ [q])).map _ = _
  rw [List.filter_append, List.map_append, List.filter_cons]
  by_cases c : q.2 = r
  · rw [if_pos c, if_pos (decide_eq_true c)]; rfl
  · rw [if_neg c, if_neg (by rw [decide_eq_false c]; exact Bool.false_ne_true)]
    exact List.append_nil _
theorem class_len (rs : List (Lab × Int)) (r : Int) : (classOf rs r).length ≤ rs.length := by
  unfold classOf
  rw [List.length_map]
  exact List.length_filter_le _ _
section
variable {P : Program} {w : World} {K : PySem.W.Frag}
/-- [l for l in ranks if ranks[l] == e], e worth r; the dict in slot 3, l in slot 9, the dict locked -/
theorem lc_class {H : Hp} {d : Addr} {kvs : LKV} {rs : List (Lab × Int)} {od : Obj} {vs : List Nat} {σ : L2.St} {te : TE} {Q : VK} {r : Int} (rk : RkAt P w H d kvs rs) (ndk : (rs.map (·.1)).Nodup) (len : rs.length ≤ 20)
    (h3 : σ[3]? = some (some (.ref d))) (hd : ∀ x, ((wipe σ vs).set 9 (some x))[3]? = some (some (.ref d))) (hx : ∀ x, ((wipe σ vs).set 9 (some x))[9]? = some (some x)) (hw : ∀ x, wipe ((wipe σ vs).set 9 (some x)) vs = wipe σ vs)
    (hte : ∀ x H2, Same (upd H d (.frz od (LDict P w d kvs))) H2 → ∀ Q' : VK, Q' (.int r) H2 → te ((wipe σ vs).set 9 (some x)) H2 Q')
    (hQ : ∀ D0 ws H2, H D0 = none → D0 ≠ d → H2 D0 = some (.lst ws) → Labs H2 ws (classOf rs r) → Same (upd H d (.frz od (LDict P w d kvs))) H2 → Q (.ref D0) H2) :
    tLc (iLD P w (tVar 3)) (gName 9) (tEqI (tOp (rIxLD P w) (tVar 3) (tVar 9)) te) (tVar 9) vs σ (upd H d (.frz od (LDict P w d kvs))) Q := by
  refine ⟨_, h3, d, od, kvs, rfl, upd_same, fun D0 hD => ?_⟩
  have ndD : D0 ≠ d := fun z => by rw [z, upd_same] at hD; cases hD
  have fD : H D0 = none := by rw [upd_ne ndD] at hD; exact hD
  have lenk : kvs.length = rs.length := Paired.len_eq rk.rel
  have t1 : Tups H (upd H d (.frz od (LDict P w d kvs))) := Tups.put rk.at_ (fun _ z => nomatch z)
  refine lc_ld (P := P) (w := w) (d := d) (o := od) (kvs := kvs) (fun j H2 => ∃ ws : List V, H2 D0 = some (.lst ws) ∧ Labs H2 ws (classOf (rs.take j) r) ∧ Same (upd H d (.frz od (LDict P w d kvs))) H2) ?_ (fun i H2 ⟨_, _, _, s2⟩ => s2 d _ upd_same) ?_ ?_
  · exact ⟨[], upd_same, .nil, same_new hD _⟩
  · rintro j p H2 hp ⟨ws, hws, lws, s2⟩
    obtain ⟨q, hq, e1, e2⟩ := paired_get rk.rel hp
    have t2 := t1.trans (sm_tups s2)
    have pl : LabAt H2 (.ref p.2.1) p.1 := (rk.keys p (List.mem_of_getElem? hp)).mono t2
    have look : getL kvs p.1 = some (.int q.2) := by rw [rk_get rk.rel, e1, rkLook_at ndk hq]; rfl
    refine ⟨hw _, ?_⟩
    refine ⟨_, hd _, _, hx _, d, p.2.1, p.1, kvs, .int q.2, rfl, rfl, ⟨.inr ⟨od, s2 d _ upd_same⟩, fun p' hp' => (rk.keys p' hp').mono t2⟩, pl, look, hte _ _ s2 _ ⟨rfl, _, rfl, ?_⟩⟩
    refine ite2 (fun e => ?_) (fun e => ?_)
    · have c : q.2 = r := by simpa using e
      refine ⟨_, hx _, ws, hws, ?_, ws ++ [.ref p.2.1], upd_same, ?_, sm_put s2 hD _⟩
      · have z := class_len (rs.take j) r
        rw [List.length_take] at z
        rw [Paired.len_eq lws, sizeLine_eq]
        omega
      · have t3 : Tups H2 (upd H2 D0 (.lst (ws ++ [.ref p.2.1]))) := Tups.put hws (fun _ z => nomatch z)
        rw [class_take rs r j hq, if_pos c, ← e1]
        exact Paired.snoc (labs_mono t3 lws) (pl.mono t3)
    · have c : ¬ q.2 = r := by simpa using e
      exact ⟨ws, hws, by rw [class_take rs r j hq, if_neg c]; exact lws, s2⟩
  · rintro H2 ⟨ws, hws, lws, s2⟩
    rw [lenk, List.take_length] at lws
    exact hQ D0 ws H2 fD ndD hws lws s2
/-- [ranks[l] for l in ranks] -/
theorem lc_ranks {H : Hp} {d : Addr} {kvs : LKV} {rs : List (Lab × Int)} {od : Obj} {vs : List Nat} {σ : L2.St} {Q : VK} (rk : RkAt P w H d kvs rs) (ndk : (rs.map (·.1)).Nodup) (len : rs.length ≤ 20)
    (h3 : σ[3]? = some (some (.ref d))) (hd : ∀ x, ((wipe σ vs).set 9 (some x))[3]? = some (some (.ref d))) (hx : ∀ x, ((wipe σ vs).set 9 (some x))[9]? = some (some x)) (hw : ∀ x, wipe ((wipe σ vs).set 9 (some x)) vs = wipe σ vs)
    (hQ : ∀ D0 H2, H D0 = none → D0 ≠ d → H2 D0 = some (.lst ((rs.map (·.2)).map V.int)) → Same (upd H d (.frz od (LDict P w d kvs))) H2 → Q (.ref D0) H2) :
    tLc (iLD P w (tVar 3)) (gName 9) tYes (tOp (rIxLD P w) (tVar 3) (tVar 9)) vs σ (upd H d (.frz od (LDict P w d kvs))) Q := by
  refine ⟨_, h3, d, od, kvs, rfl, upd_same, fun D0 hD => ?_⟩
  have ndD : D0 ≠ d := fun z => by rw [z, upd_same] at hD; cases hD
  have fD : H D0 = none := by rw [upd_ne ndD] at hD; exact hD
  have lenk : kvs.length = rs.length := Paired.len_eq rk.rel
  have t1 : Tups H (upd H d (.frz od (LDict P w d kvs))) := Tups.put rk.at_ (fun _ z => nomatch z)
  refine lc_ld (P := P) (w := w) (d := d) (o := od) (kvs := kvs) (fun j H2 => H2 D0 = some (.lst (((rs.take j).map (·.2)).map V.int)) ∧ Same (upd H d (.frz od (LDict P w d kvs))) H2) ?_ (fun i H2 ⟨_, s2⟩ => s2 d _ upd_same) ?_ ?_
  · exact ⟨upd_same, same_new hD _⟩
  · rintro j p H2 hp ⟨hws, s2⟩
    obtain ⟨q, hq, e1, e2⟩ := paired_get rk.rel hp
    have t2 := t1.trans (sm_tups s2)
    have pl : LabAt H2 (.ref p.2.1) p.1 := (rk.keys p (List.mem_of_getElem? hp)).mono t2
    have look : getL kvs p.1 = some (.int q.2) := by rw [rk_get rk.rel, e1, rkLook_at ndk hq]; rfl
    refine ⟨hw _, ?_⟩
    refine ⟨_, hd _, _, hx _, d, p.2.1, p.1, kvs, .int q.2, rfl, rfl, ⟨.inr ⟨od, s2 d _ upd_same⟩, fun p' hp' => (rk.keys p' hp').mono t2⟩, pl, look, _, hws, ?_, ?_, sm_put s2 hD _⟩
    · rw [List.length_map, List.length_map, List.length_take, sizeLine_eq]
      omega
    · rw [upd_same, List.take_add_one, hq, List.map_append, List.map_append]
      rfl
  · rintro H2 ⟨hws, s2⟩
    rw [lenk, List.take_length] at hws
    exact hQ D0 H2 fD ndD hws s2
end
end K42
namespace K42
open PySem PySem.Spec PyProof.Rows L2
/-! ### _law_row_paper -/
/-- the value v is a tuple of the labels f; at q a tuple of such -/
def FV (H : Hp) (v : V) (f : List Lab) : Prop := ∃ r, v = .ref r ∧ TsAt H r f
def FsAt (H : Hp) (q : Addr) (falls : List (List Lab)) : Prop := ∃ vs, H q = some (.tup vs) ∧ Paired (FV H) vs falls
theorem FV.mono {H H' : Hp} (t : Tups H H') {v : V} {f : List Lab} (h : FV H v f) : FV H' v f := let ⟨r, e, x⟩ := h; ⟨r, e, x.mono t⟩
theorem fvs_mono {H H' : Hp} (t : Tups H H') {vs : List V} {fs : List (List Lab)} (h : Paired (FV H) vs fs) : Paired (FV H') vs fs := Paired.mono (fun _ _ => FV.mono t) h
theorem FsAt.mono {H H' : Hp} (t : Tups H H') {q : Addr} {fs : List (List Lab)} (h : FsAt H q fs) : FsAt H' q fs := let ⟨vs, e, x⟩ := h; ⟨vs, t _ _ e, fvs_mono t x⟩
theorem LsAt.ne {t scr a : Addr} {ls : List Lab} {H : Hp} (h : LsAt H a ls) (tp : TapeAt t scr H) : a ≠ t := by
  rintro rfl
  obtain ⟨vs, e, l⟩ := h
  obtain ⟨i, j, k, e2, _⟩ := tp
  rw [e] at e2
  have z := Option.some.inj e2
  injection z with z
  subst z
  cases l with
  | cons _ l =>
    cases l with
    | cons h _ =>
      obtain ⟨p, vs, e, _⟩ := h
      cases e
theorem RkAt.same {P : Program} {w : World} {H H' : Hp} {d : Addr} {kvs : LKV} {rs : List (Lab × Int)} (h : RkAt P w H d kvs rs) (s : Same H H') : RkAt P w H' d kvs rs := ⟨s _ _ h.at_, fun p hp => (h.keys p hp).mono (sm_tups s), h.rel⟩
theorem RkAt.turned {P : Program} {w : World} {K : PySem.W.Frag} {t scr : Addr} {H H' : Hp} {d : Addr} {kvs : LKV} {rs : List (Lab × Int)} (h : RkAt P w H d kvs rs) (tp : Tape K t scr H) (s : Turned t scr H H') (n : d ≠ t) : RkAt P w H' d kvs rs := ⟨s.kp _ _ n h.at_, fun p hp => (h.keys p hp).mono (tp.tups s.kp), h.rel⟩
theorem falls_succ (rs : List (Lab × Int)) (n : Nat) : fallsOf rs (n + 1) = fallsOf rs n ++ [classOf rs ((n : Int) + 1)] := by
  unfold fallsOf
  rw [List.range_succ, List.map_append]
  rfl
abbrev rTupOf (K : PySem.W.Frag) : List V → Hp → VK → Prop := fun xs H Q => ∃ p ys, xs = [.ref p] ∧ ((SqL K H p ys ∧ ∀ l, H l = none → Q (.ref l) (upd H l (.tup ys))) ∨ (SqT K H p ys ∧ Q (.ref p) H))
def asgVal : Stmt → Expr
  | .Assign _ v _ => v
  | _ => .Constant .none 0 ⟨0, 0, 0, 0⟩
def lcScope : Expr → Scope
  | .ListComp _ _ sc _ => sc
  | _ => { kind := .function, names := [], isGenerator := false, isCoroutine := false }
/-- the scope of the comprehension that makes the falls -/
def scFalls : Scope := lcScope (asgVal ((defBody (top 24)).getD 2 (.Pass ⟨0, 0, 0, 0⟩)))
abbrev nPap : List Str := ["_law_tape_here", "_law_old", "_law_new", "_law_ranks_here", "_law_most", "_law_falls", "_law_stays", "_law_k", "_law_some", "_law_label_here", "_law_rank"]
abbrev tRank (P : Program) (w : World) : TE := tOp (rIxLD P w) (tVar 3) (tVar 9)
abbrev tIdx0 (K : PySem.W.Frag) (i : Nat) : TE := tBM K "list" (rIndexLs K) (tVar i) (tCons (tOp (rIxL K) (tVar 6) (tC (.int 0))) tNil)
/-- what the def hands back -/
def Own (old new stays : List Lab) (falls : List (List Lab)) : Prop := Chain old new (ranksOf old new) 1 stays ∧ (stays.length : Int) = most (ranksOf old new) ∧
  (falls = fallsOf (ranksOf old new) (most (ranksOf old new)).toNat ∨ falls = (fallsOf (ranksOf old new) (most (ranksOf old new)).toNat).reverse)
theorem st_asg {te : TE} {g : TG} {u : TS} {D : Ends} {σ : L2.St} {H : Hp} (h : te σ H fun x H1 => g x σ H1 (u D)) : tSeq (tAsg te g) u D σ H := h
theorem st_asg1 {te : TE} {g : TG} {D : Ends} {σ : L2.St} {H : Hp} (h : te σ H fun x H1 => g x σ H1 D.nx) : tAsg te g D σ H := h
/-- [l for l in some if row.index(l) < row.index(stays[0])], row in slot i -/
theorem lc_less {K : PySem.W.Frag} {H : Hp} {a S B : Addr} {row ks : List Lab} {va vs ws : List V} {l0 : Lab} {v0 : V} {i : Nat} {os : List Nat} {σ : L2.St} {Q : VK} (hA : H a = some (.lst va)) (lA : Labs H va row) (hS : H S = some (.lst (v0 :: vs))) (l0A : LabAt H v0 l0) (l0m : l0 ∈ row)
    (hB : H B = some (.lst ws)) (lB : Labs H ws ks) (sub : ∀ l ∈ ks, l ∈ row) (few : ks.length ≤ 20) (h8 : σ[8]? = some (some (.ref B))) (hi : ∀ x, ((wipe σ os).set 9 (some x))[i]? = some (some (.ref a))) (h6 : ∀ x, ((wipe σ os).set 9 (some x))[6]? = some (some (.ref S)))
    (hx : ∀ x, ((wipe σ os).set 9 (some x))[9]? = some (some x)) (hw : ∀ x, wipe ((wipe σ os).set 9 (some x)) os = wipe σ os)
    (hQ : ∀ D0 us H2, H D0 = none → H2 D0 = some (.lst us) → Labs H2 us (ks.filter fun l => decide (row.idxOf l < row.idxOf l0)) → Same H H2 → Q (.ref D0) H2) :
    tLc (iList K (tVar 8)) (gName 9) (tLtI (tIdx K i 9) (tIdx0 K i)) (tVar 9) os σ H Q := by
  refine ⟨_, h8, B, rfl, ⟨_, SqL.of hB⟩, fun D0 hD => ?_⟩
  refine lc_list (K := K) (a := B) (xs := ws) (fun j H2 => ∃ us : List V, H2 D0 = some (.lst us) ∧ Labs H2 us ((ks.take j).filter fun l => decide (row.idxOf l < row.idxOf l0)) ∧ Same H H2) ?_ (fun j H2 _ ⟨_, _, _, s2⟩ => SqL.of (s2 B _ hB)) ?_ ?_
  · exact ⟨[], upd_same, .nil, same_new hD _⟩
  · rintro j x H2 hx2 ⟨us, hus, lus, s2⟩
    obtain ⟨l, hl, lab0⟩ := labs_get lB hx2
    have lab := lab0.mono (sm_tups s2)
    have mem := sub l (List.mem_of_getElem? hl)
    have hA2 := s2 a _ hA
    have lA2 := labs_mono (sm_tups s2) lA
    have tk : (ks.take (j + 1)).filter (fun l => decide (row.idxOf l < row.idxOf l0)) = if row.idxOf l < row.idxOf l0 then (ks.take j).filter (fun l => decide (row.idxOf l < row.idxOf l0)) ++ [l] else (ks.take j).filter (fun l => decide (row.idxOf l < row.idxOf l0)) := by
      rw [List.take_add_one, hl]
      show List.filter _ (ks.take j ++ [l]) = _
      rw [List.filter_append, List.filter_cons]
      by_cases c : row.idxOf l < row.idxOf l0
      · rw [if_pos c, if_pos (decide_eq_true c)]; rfl
      · rw [if_neg c, if_neg (by rw [decide_eq_false c]; exact Bool.false_ne_true)]
        exact List.append_nil _
    refine ⟨hw _, ?_⟩
    refine ⟨_, hi _, .inl ⟨rfl, _, SqL.of hA2⟩, _, hx _, a, _, l, va, row, rfl, rfl, SqL.of hA2, lA2, lab, mem, ?_⟩
    refine ⟨_, hi _, .inl ⟨rfl, _, SqL.of hA2⟩, _, h6 _, S, _, _, _, rfl, rfl, SqL.of (s2 S _ hS), (show atI (v0 :: vs) ((0 : Nat) : Int) = some v0 from atI_nat rfl), a, _, l0, va, row, rfl, rfl, SqL.of hA2, lA2, l0A.mono (sm_tups s2), l0m, ?_⟩
    refine ⟨_, _, rfl, rfl, _, rfl, ?_⟩
    refine ite2 (fun e => ?_) (fun e => ?_)
    · have c : row.idxOf l < row.idxOf l0 := by
        rw [decide_eq_true_eq] at e
        omega
      refine ⟨_, hx _, us, hus, ?_, us ++ [x], upd_same, ?_, sm_put s2 hD _⟩
      · have z := List.length_filter_le (fun l => decide (row.idxOf l < row.idxOf l0)) (ks.take j)
        rw [List.length_take] at z
        rw [Paired.len_eq lus, sizeLine_eq]
        omega
      · have t3 : Tups H2 (upd H2 D0 (.lst (us ++ [x]))) := Tups.put hus (fun _ z => nomatch z)
        rw [tk, if_pos c]
        exact Paired.snoc (labs_mono t3 lus) (lab.mono t3)
    · have c : ¬ row.idxOf l < row.idxOf l0 := by
        rw [decide_eq_true_eq] at e
        omega
      exact ⟨us, hus, by rw [tk, if_neg c]; exact lus, s2⟩
  · rintro H2 ⟨us, hus, lus, s2⟩
    rw [Paired.len_eq lB, List.take_length] at lus
    exact hQ D0 us H2 hD hus lus s2
/-- the next stay -/
theorem chain_more {old new : List Lab} {rs : List (Lab × Int)} {r : Int} {l l0 : Lab} {ls : List Lab} (c : Chain old new rs (r + 1) (l0 :: ls)) (h : l ∈ ((classOf rs r).filter fun l => decide (old.idxOf l < old.idxOf l0)).filter fun l => decide (new.idxOf l < new.idxOf l0)) :
    Chain old new rs r (l :: l0 :: ls) := by
  rw [List.mem_filter, List.mem_filter, decide_eq_true_eq, decide_eq_true_eq] at h
  refine ⟨mem_class.mp h.1.1, fun l' e => ?_, c⟩
  cases e
  exact ⟨h.1.2, h.2⟩
section
variable {P : Program} {w : World} {K : PySem.W.Frag} {mg : Str → Option Value} {base : Heap} {f g g2 g3 : Addr} {fd gd gd2 gd3 : FuncData}
def spRowPaper (K : PySem.W.Frag) : Sp := fun vs H Q _ => ∃ t scr a b old new, vs = [.ref t, .ref a, .ref b] ∧ Tape K t scr H ∧ LsAt H a old ∧ LsAt H b new ∧ old.Nodup ∧ old.length ≤ 20 ∧
  ∀ p q1 q2 stays falls H', H' p = some (.tup [.ref q1, .ref q2]) → TsAt H' q1 stays → FsAt H' q2 falls → Own old new stays falls → Turned t scr H H' → Q (.ref p) H'
theorem scPap : FnScope nPap ["_law_tape_here", "_law_old", "_law_new"] (defScope (top 24)) := ⟨rfl, rfl, rfl, by decide +kernel, rfl, by decide +kernel, by decide +kernel⟩
theorem ok_row_paper (D : Known K mg "_law_row_paper" 24 ["_law_tape_here", "_law_old", "_law_new"] f fd) (T : Txt mg) (D1 : Known K mg "_law_draw" 16 ["_law_tape_here", "_law_many"] g gd) (G1 : FnOk P w K mg base CX0 1 g gd ["_law_tape_here", "_law_many"] (spDraw K))
    (D2 : Known K mg "_law_ranks" 23 ["_law_old", "_law_new"] g2 gd2) (G2 : FnOk P w K mg base CX0 1 g2 gd2 ["_law_old", "_law_new"] (spRanks P w)) : FnOk P w K mg base CX0 2 f fd ["_law_tape_here", "_law_old", "_law_new"] (spRowPaper K) := by
  refine D.F.ok scPap (fun vs H Q E h => ?_) (fun cdv A outer s H vs Q E hr h => ?_)
  · obtain ⟨t, scr, a, b, old, new, rfl, _⟩ := h
    rfl
  obtain ⟨t, scr, a, b, old, new, rfl, tp, hA, hB, ndo, l20, k⟩ := h
  have hu := hr.units
  have hu5 := room65 hr
  refine ⟨_, pss_cons (ps_set (i := 3) scPap.nd rfl (Or.inr rfl) (pe_call G2 hr rfl D2.m D2.F.kp D2.b .nil pass0 (pa_cons (pv 1) (pa_cons (pv 2) pa_nil))))
    (pss_cons (ps_set (i := 4) scPap.nd rfl (Or.inr rfl) (pe_callBK (cr_maxD rfl hu) (by rfl) T.max (by decide +kernel) (pa_cons
      (pe_lock (pe_lc (own := [("_law_label_here", 9)]) (g := gName 9) (tt := tYes) (te := tRank P w) rfl scPap.nd (pi_ld (pv 3)) (blkOk_by (N := nPap) (sc := defScope (top 24)) (by decide +kernel)) (fun _ _ _ _ _ => pg_name (i := 9) scPap.nd rfl (Or.inl rfl)) (fun _ _ _ _ _ => pts_nil) (fun _ _ _ _ _ => pe_ix (ix_ld hu) (pv 3) (pv 9) (fun _ _ => rfl)))) pa_nil) (pk_cons pe_int pk_nil)))
    (pss_cons (ps_setLc (i := 5) (own := [("_law_rank", 10)]) (g := gName 10) (tt := tYes) (te := tCB (rTupOf K) (tCons (tLockE (tLc (iLD P w (tVar 3)) (gName 9) (tEqI (tRank P w) (tOp (rI0 fun i j => .int (i + j)) (tVar 10) (tC (.int 1)))) (tVar 9) [9])) tNil)) rfl scPap.nd rfl rfl (sw_true rfl rfl rfl (by decide +kernel))
      (pi_range1 rfl T.range (pa_cons (pv 4) pa_nil)) (blkOk_by (N := nPap) (sc := defScope (top 24)) (by decide +kernel)) (fun _ _ _ _ _ => pg_name (i := 10) scPap.nd rfl (Or.inr rfl)) (fun _ _ _ _ _ => pts_nil)
      (fun _ _ _ _ _ => pe_callTy call_tuple_of (by rfl) T.tuple (by decide +kernel) (pa_cons (pe_lock (pe_lc (own := [("_law_label_here", 9)]) (g := gName 9) (tt := tEqI (tRank P w) (tOp (rI0 fun i j => .int (i + j)) (tVar 10) (tC (.int 1)))) (te := tVar 9) rfl scPap.nd (pi_ld (pv 3)) (blkOk_by (N := nPap) (sc := relS scFalls (defScope (top 24))) (by decide +kernel))
        (fun _ _ _ _ _ => pg_name (i := 9) scPap.nd rfl (Or.inl rfl)) (fun _ _ _ _ _ => pts_one (pt_cmpR op_eq (pe_ix (ix_ld hu) (pv 3) (pv 9) (fun _ _ => rfl)) (pe_op op_add (pv 10) pe_int) (nomark _))) (fun _ _ _ _ _ => pv 9))) pa_nil)))
    (pss_cons (ps_set (i := 6) scPap.nd rfl (Or.inr rfl) (pe_lst pa_nil))
    (pss_cons (ps_for PassesOwn.never rfl (pi_range1 rfl T.range (pa_cons (pv 4) pa_nil)) (pg_name (i := 7) scPap.nd rfl (Or.inr rfl))
      (pss_cons (ps_lock (ps_setLc (i := 8) (own := [("_law_label_here", 9)]) (g := gName 9) (tt := tEqI (tRank P w) (tOp (rI0 fun i j => .int (i - j)) (tVar 4) (tVar 7))) (te := tVar 9) rfl scPap.nd rfl rfl (sw_true rfl rfl rfl (by decide +kernel)) (pi_ld (pv 3)) (blkOk_by (N := nPap) (sc := defScope (top 24)) (by decide +kernel))
          (fun _ _ _ _ _ => pg_name (i := 9) scPap.nd rfl (Or.inl rfl)) (fun _ _ _ _ _ => pts_one (pt_cmpR op_eq (pe_ix (ix_ld hu) (pv 3) (pv 9) (fun _ _ => rfl)) (pe_op op_sub (pv 4) (pv 7)) (nomark _))) (fun _ _ _ _ _ => pv 9)))
      (C8.pss_cut (ps_if (pt_cmpR (op_neD hu) (pv 6) (pe_lst pa_nil) (nomark _))
          (pss_cons (ps_setLc (i := 8) (own := [("_law_label_here", 9)]) (g := gName 9) (tt := tLtI (tIdx K 1 9) (tIdx0 K 1)) (te := tVar 9) rfl scPap.nd rfl rfl (sw_true rfl rfl rfl (by decide +kernel)) (pi_list (pv 8)) (blkOk_by (N := nPap) (sc := defScope (top 24)) (by decide +kernel))
            (fun _ _ _ _ _ => pg_name (i := 9) scPap.nd rfl (Or.inl rfl)) (fun _ _ _ _ _ => pts_one (pt_cmpR op_lt (pe_bm PySem.F.plainAttrs_list PySem.F.slot_list_index PySem.F.type_list_index (mt_indexLs hu5) (pv 1) (pa_cons (pv 9) pa_nil))
              (pe_bm PySem.F.plainAttrs_list PySem.F.slot_list_index PySem.F.type_list_index (mt_indexLs hu5) (pv 1) (pa_cons (pe_ix ix_list (pv 6) pe_int (fun _ _ => rfl)) pa_nil)) (nomark _))) (fun _ _ _ _ _ => pv 9))
          (pss_one (ps_setLc (i := 8) (own := [("_law_label_here", 9)]) (g := gName 9) (tt := tLtI (tIdx K 2 9) (tIdx0 K 2)) (te := tVar 9) rfl scPap.nd rfl rfl (sw_true rfl rfl rfl (by decide +kernel)) (pi_list (pv 8)) (blkOk_by (N := nPap) (sc := defScope (top 24)) (by decide +kernel))
            (fun _ _ _ _ _ => pg_name (i := 9) scPap.nd rfl (Or.inl rfl)) (fun _ _ _ _ _ => pts_one (pt_cmpR op_lt (pe_bm PySem.F.plainAttrs_list PySem.F.slot_list_index PySem.F.type_list_index (mt_indexLs hu5) (pv 2) (pa_cons (pv 9) pa_nil))
              (pe_bm PySem.F.plainAttrs_list PySem.F.slot_list_index PySem.F.type_list_index (mt_indexLs hu5) (pv 2) (pa_cons (pe_ix ix_list (pv 6) pe_int (fun _ _ => rfl)) pa_nil)) (nomark _))) (fun _ _ _ _ _ => pv 9)))) pss_nil)
      (pss_one (ps_expr (pe_bm PySem.F.plainAttrs_list PySem.F.slot_list_insert PySem.F.type_list_insert mt_insert (pv 6) (pa_cons pe_int (pa_cons
        (pe_ix ix_list (pv 8) (pe_call G1 hr rfl D1.m D1.F.kp D1.b .nil pass0 (pa_cons (pv 0) (pa_cons (pe_callB call_len_seq (by rfl) T.len PySem.boot_len (pa_cons (pv 8) pa_nil)) pa_nil))) (fun _ _ => rfl)) pa_nil)))))))) 
    (C8.pss_cut (ps_if (pt_cmpR op_eq (pe_call G1 hr rfl D1.m D1.F.kp D1.b .nil pass0 (pa_cons (pv 0) (pa_cons pe_int pa_nil))) pe_int (nomark _))
      (pss_one (ps_expr (pe_bm0 PySem.F.plainAttrs_list PySem.F.slot_list_reverse PySem.F.type_list_reverse mt_reverse (pv 5)))) pss_nil)
    (pss_one (ps_ret (pe_tup (pa_cons (pe_callTy call_tuple_of (by rfl) T.tuple (by decide +kernel) (pa_cons (pv 6) pa_nil)) (pa_cons (pe_callTy call_tuple_of (by rfl) T.tuple (by decide +kernel) (pa_cons (pv 5) pa_nil)) pa_nil)))))))))), ?_⟩
  have R := ranks_inv new ndo
  have keys : (ranksOf old new).map (·.1) = com old new := ranksOf_keys old new
  have own : ∀ stays falls, Chain old new (ranksOf old new) 1 stays → (stays.length : Int) = most (ranksOf old new) → (falls = fallsOf (ranksOf old new) (most (ranksOf old new)).toNat ∨ falls = (fallsOf (ranksOf old new) (most (ranksOf old new)).toNat).reverse) → Own old new stays falls := fun _ _ h1 h2 h3 => ⟨h1, h2, h3⟩
  obtain ⟨va, ha, la⟩ := id hA
  obtain ⟨vb, hb, lb⟩ := id hB
  have nat := hA.ne tp.at_
  have nbt := hB.ne tp.at_
  refine ⟨_, rfl, _, rfl, a, b, old, new, rfl, hA, hB, ndo, l20, fun d kvs H1 fd0 rk sm => ?_⟩
  generalize ranksOf old new = rs at R keys own rk
  have ndk : (rs.map (·.1)).Nodup := by rw [keys]; exact com_nodup new ndo
  have inCom : ∀ {l : Lab} {r : Int}, (l, r) ∈ rs → l ∈ old ∧ l ∈ new := fun {l r} h => mem_com.mp (by rw [← keys]; exact List.mem_map.mpr ⟨(l, r), h, rfl⟩)
  have lenr : rs.length ≤ 20 := by
    have z := congrArg List.length keys
    rw [List.length_map] at z
    have z2 : (com old new).length ≤ old.length := List.length_filter_le _ _
    omega
  have mb := most_bounds R
  have ndt : d ≠ t := Ne.symm (tp.at_.ne fd0)
  -- most
  refine ⟨d, _, rk.at_, True.intro, fun od => lc_ranks rk ndk lenr rfl (fun _ => rfl) (fun _ => rfl) (fun _ => rfl) fun D0 H2 fD nD hws s2 => ⟨s2 d _ upd_same, ?_⟩⟩
  have s3 := unlock_same rk.at_ s2
  refine ⟨D0, rs.map (·.2), 0, rfl, rfl, SqL.of (by rw [upd_ne nD]; exact hws), ?_⟩
  have rk3 := rk.same s3
  have sm3 := Same.trans sm s3
  generalize upd H2 d (LDict P w d kvs) = H3 at s3 rk3 sm3 ⊢
  clear s2 hws
  have em : maxD0 0 (rs.map (·.2)) = most rs := rfl
  rw [em]
  -- falls
  refine ⟨_, rfl, most rs, rfl, by omega, by omega, fun F hF => ?_⟩
  have fF0 : H F = none := Same.free sm3 hF
  have nFt : F ≠ t := Ne.symm (tp.at_.ne fF0)
  have ndF : d ≠ F := ne_of_none rk3.at_ hF
  refine lc_range (lo := 0) (n := (most rs).toNat) (fun i H' => ∃ vF, H' F = some (.lst vF) ∧ Paired (FV H') vF (fallsOf rs i) ∧ Same H3 H') ?_ ?_ ?_
  · exact ⟨[], upd_same, .nil, same_new hF _⟩
  · rintro i H' hi ⟨vF, hvF, pF, s4⟩
    refine ⟨rfl, ?_⟩
    have rk4 := rk3.same s4
    refine ⟨d, _, rk4.at_, True.intro, fun od => lc_class (r := 0 + (i : Int) + 1) rk4 ndk lenr rfl (fun _ => rfl) (fun _ => rfl) (fun _ => rfl) (fun x H5 _ Q' q => ⟨_, rfl, _, _, rfl, rfl, q⟩) fun D1 ws H5 fD1 nD1 hws lws s5 => ⟨s5 d _ upd_same, ?_⟩⟩
    have s6 := unlock_same rk4.at_ s5
    refine ⟨D1, ws, rfl, .inl ⟨SqL.of (by rw [upd_ne nD1]; exact hws), fun q hq => ?_⟩⟩
    have lws6 : Labs (upd H5 d (LDict P w d kvs)) ws (classOf rs (0 + (i : Int) + 1)) := labs_mono (Tups.put (s5 d _ upd_same) (fun _ z => nomatch z)) lws
    generalize upd H5 d (LDict P w d kvs) = H6 at s6 hq lws6 ⊢
    have s7 := same_new hq (.tup ws)
    have hF7 : upd H6 q (.tup ws) F = some (.lst vF) := s7 F _ (s6 F _ hvF)
    refine ⟨vF, hF7, ?_, vF ++ [.ref q], upd_same, ?_, sm_put (Same.trans (Same.trans s4 s6) s7) hF _⟩
    · rw [Paired.len_eq pF, sizeLine_eq]
      unfold fallsOf
      rw [List.length_map, List.length_range]
      omega
    · have t8 : Tups (upd H6 q (.tup ws)) (upd (upd H6 q (.tup ws)) F (.lst (vF ++ [.ref q]))) := Tups.put hF7 (fun _ z => nomatch z)
      rw [falls_succ, show ((i : Int) + 1) = 0 + (i : Int) + 1 by omega]
      exact Paired.snoc (fvs_mono ((sm_tups (Same.trans s6 s7)).trans t8) pF) ⟨q, rfl, ws, t8 _ _ upd_same, labs_mono ((sm_tups s7).trans t8) lws6⟩
  rintro H4 ⟨vF, hvF, pF, s4⟩
  have rk4 := rk3.same s4
  have sm4 := Same.trans sm3 s4
  -- stays
  refine ⟨Nat.zero_le _, fun S hS => ?_⟩
  have fS0 : H S = none := Same.free sm4 hS
  have nSt : S ≠ t := Ne.symm (tp.at_.ne fS0)
  have ndS : d ≠ S := ne_of_none rk4.at_ hS
  have nFS : F ≠ S := ne_of_none hvF hS
  have s5 := same_new hS (.lst [])
  refine ⟨_, rfl, most rs, rfl, by omega, by omega, for_range (lo := 0) (n := (most rs).toNat) (fun i σ H' => ∃ (vs : List V) (ls : List Lab) (x y z u : Option V), σ = [some (.ref t), some (.ref a), some (.ref b), some (.ref d), some (.int (most rs)), some (.ref F), some (.ref S), x, y, z, u] ∧
    RkAt P w H' d kvs rs ∧ H' F = some (.lst vF) ∧ Paired (FV H') vF (fallsOf rs (most rs).toNat) ∧ H' S = some (.lst vs) ∧ Labs H' vs ls ∧ Chain old new rs (most rs - i + 1) ls ∧ ls.length = i ∧ Turned t scr H H') ?_ ?_ ?_⟩
  · exact ⟨[], [], _, _, _, _, rfl, rk4.same s5, s5 F _ hvF, fvs_mono (sm_tups s5) pF, upd_same, .nil, True.intro, rfl, Turned.of tp (Same.trans sm4 s5)⟩
  · rintro i σ Hc hi ⟨vs, ls, x, y, z, u, rfl, rkc, hFc, pFc, hSc, lsc, ch, lenl, tuc⟩
    have hac : Hc a = some (.lst va) := tuc.kp a _ nat ha
    have hbc : Hc b = some (.lst vb) := tuc.kp b _ nbt hb
    have tc := tp.tups tuc.kp
    have lac := labs_mono tc la
    have lbc := labs_mono tc lb
    have ek : most rs - (0 + (i : Int)) = most rs - i := by omega
    -- the labels of the rank
    refine ⟨d, _, rkc.at_, True.intro, fun od => lc_class (r := most rs - (0 + (i : Int))) rkc ndk lenr rfl (fun _ => rfl) (fun _ => rfl) (fun _ => rfl) (fun x H5 _ Q' q => ⟨_, rfl, _, rfl, _, _, rfl, rfl, q⟩) fun B0 ws H5 fB nB hws lws s6 => ⟨s6 d _ upd_same, ?_⟩⟩
    have s7 := unlock_same rkc.at_ s6
    have hB7 : upd H5 d (LDict P w d kvs) B0 = some (.lst ws) := by rw [upd_ne nB]; exact hws
    have lB7 : Labs (upd H5 d (LDict P w d kvs)) ws (classOf rs (most rs - (0 + (i : Int)))) := labs_mono (Tups.put (s6 d _ upd_same) (fun _ z => nomatch z)) lws
    generalize upd H5 d (LDict P w d kvs) = H7 at s7 hB7 lB7 ⊢
    rw [ek] at lB7
    have few : (classOf rs (most rs - i)).length ≤ 20 := Nat.le_trans (class_len _ _) lenr
    refine ⟨fun σ H' => ∃ (B : Addr) (us : List V) (ks : List Lab) (z : Option V), σ = [some (.ref t), some (.ref a), some (.ref b), some (.ref d), some (.int (most rs)), some (.ref F), some (.ref S), some (.int (0 + (i : Int))), some (.ref B), z, u] ∧ H' B = some (.lst us) ∧ Labs H' us ks ∧ ks ≠ [] ∧ ks.length ≤ 20 ∧ (∀ l ∈ ks, Chain old new rs (most rs - i) (l :: ls)) ∧ Same Hc H' ∧ Hc B = none, ?_, ?_⟩
    · refine ⟨_, rfl, Nat.zero_le _, fun e he => ?_⟩
      have s8 := same_new he (.lst [])
      have s78 := Same.trans s7 s8
      refine ⟨.list (ls.map labD), .list [], .lst (SqL.of (s78 S _ hSc)) (labs_dp (labs_mono (sm_tups s78) lsc)), .lst (SqL.of upd_same) .nil, labsD_shaped ls, labsD_shaped [], _, rfl, ?_⟩
      cases ls with
      | nil =>
        have ev : (!PyData.eqv (.list (([] : List Lab).map labD)) (.list [])) = false := by simp [PyData.eqv, PyData.eqvAll]
        rw [ev]
        refine iteF ⟨B0, ws, _, _, rfl, s8 _ _ hB7, labs_mono (sm_tups s8) lB7, ?_, few, fun l hl => ?_, s78, fB⟩
        · have i0 : i = 0 := lenl.symm
          obtain ⟨p, hp, e⟩ := rank_all R 0 (most rs - i) (by omega) (by omega)
          exact List.ne_nil_of_mem (mem_class.mpr (show (p.1, most rs - i) ∈ rs by rw [← e]; exact hp))
        · exact ⟨mem_class.mp hl, (fun l' e => nomatch e), True.intro⟩
      | cons l0 ls =>
        have ev : (!PyData.eqv (.list ((l0 :: ls).map labD)) (.list [])) = true := by simp [PyData.eqv, PyData.eqvAll]
        rw [ev]
        refine iteT ?_
        obtain ⟨v0, vs', rfl, l0A, lsc'⟩ : ∃ v0 vs', vs = v0 :: vs' ∧ LabAt Hc v0 l0 ∧ Labs Hc vs' ls := by
          cases lsc with
          | cons h t => exact ⟨_, _, rfl, h, t⟩
        have l0m := inCom ch.1
        have sub1 : ∀ l ∈ classOf rs (most rs - i), l ∈ old := fun l hl => (inCom (mem_class.mp hl)).1
        refine st_asg (lc_less (s78 a _ hac) (labs_mono (sm_tups s78) lac) (s78 S _ hSc) (l0A.mono (sm_tups s78)) l0m.1 (s8 _ _ hB7) (labs_mono (sm_tups s8) lB7) sub1 few ?_ ?_ ?_ ?_ ?_ fun B1 us1 H8 fB1 hB1 lB1 s9 => ?_)
        · rfl
        · exact fun _ => rfl
        · exact fun _ => rfl
        · exact fun _ => rfl
        · exact fun _ => rfl
        have s89 := Same.trans s78 s9
        refine st_asg1 (lc_less (s89 b _ hbc) (labs_mono (sm_tups s89) lbc) (s89 S _ hSc) (l0A.mono (sm_tups s89)) l0m.2 hB1 lB1 (fun l hl => (inCom (mem_class.mp (List.mem_filter.mp hl).1)).2) (Nat.le_trans (List.length_filter_le _ _) few) ?_ ?_ ?_ ?_ ?_ fun B2 us2 H9 fB2 hB2 lB2 s10 => ?_)
        · rfl
        · exact fun _ => rfl
        · exact fun _ => rfl
        · exact fun _ => rfl
        · exact fun _ => rfl
        refine ⟨B2, us2, _, _, rfl, hB2, lB2, ?_, Nat.le_trans (List.length_filter_le _ _) (Nat.le_trans (List.length_filter_le _ _) few), fun l hl => chain_more ch hl, Same.trans s89 s10, Same.free s89 fB2⟩
        obtain ⟨q, hq, e1, e2, e3⟩ := R.pred _ ch.1 (by show 1 < most rs - i + 1; omega)
        have e1' : q.2 = most rs - i := by rw [e1]; show most rs - i + 1 - 1 = _; omega
        exact List.ne_nil_of_mem (a := q.1) (List.mem_filter.mpr ⟨List.mem_filter.mpr ⟨mem_class.mpr (by rw [← e1']; exact hq), decide_eq_true e2⟩, decide_eq_true e3⟩)
    rintro _ H8 ⟨B, us, ks, z', rfl, hB8, lB8, ne, few8, chs, s8, fB8⟩
    have tu8 := tuc.same s8
    have lenu := Paired.len_eq lB8
    have pos : 0 < ks.length := List.length_pos_iff.mpr ne
    have nBt : B ≠ t := by
      rintro rfl
      obtain ⟨_, _, _, e, _⟩ := tuc.at_
      rw [fB8] at e
      cases e
    refine ⟨_, rfl, .inl ⟨rfl, _, SqL.of (s8 S _ hSc)⟩, _, rfl, _, rfl, _, rfl, B, us, rfl, .inl (SqL.of hB8), t, scr, _, rfl, by omega, by omega, tp.on tu8, fun j H9 j0 j1 tu9 => ?_⟩
    have t9 := (tp.on tu8).tups tu9.kp
    have hB9 := tu9.kp B _ nBt hB8
    have hS9 := tu9.kp S _ nSt (s8 S _ hSc)
    have lt : j.toNat < us.length := by omega
    have at_ := List.getElem?_eq_getElem lt
    obtain ⟨l, hl, lab⟩ := labs_get lB8 at_
    have atI_ : atI us j = some us[j.toNat] := by
      have q : atI us ((j.toNat : Nat) : Int) = some us[j.toNat] := atI_nat at_
      rwa [show ((j.toNat : Nat) : Int) = j by omega] at q
    refine ⟨B, us, j, _, rfl, rfl, SqL.of hB9, atI_, S, vs, 0, _, rfl, rfl, hS9, by rw [Paired.len_eq lsc, sizeLine_eq]; omega, by decide, by decide, ?_⟩
    have t10 : Tups H9 (upd H9 S (.lst (us[j.toNat] :: vs))) := Tups.put hS9 (fun _ z => nomatch z)
    have t810 := ((sm_tups s8).trans t9).trans t10
    have hl2 : l ∈ ks := List.mem_of_getElem? hl
    refine ⟨us[j.toNat] :: vs, l :: ls, _, _, _, _, rfl, ?_, ?_, fvs_mono t810 pFc, upd_same, .cons (lab.mono (t9.trans t10)) (labs_mono t810 lsc), ?_, by rw [List.length_cons, lenl], (tu8.trans tu9).put fS0 (Ne.symm nSt) _⟩
    · have rk8 := rkc.same s8
      exact ⟨by rw [upd_ne ndS]; exact tu9.kp d _ ndt rk8.at_, fun p hp => (rk8.keys p hp).mono (t9.trans t10), rk8.rel⟩
    · rw [upd_ne nFS]
      exact tu9.kp F _ nFt (s8 F _ hFc)
    · have z := chs l hl2
      rw [show most rs - ((i + 1 : Nat) : Int) + 1 = most rs - i by omega]
      exact z
  · rintro σ Hc ⟨vs, ls, x, y, z, u, rfl, rkc, hFc, pFc, hSc, lsc, ch, lenl, tuc⟩
    rw [show most rs - (((most rs).toNat : Nat) : Int) + 1 = 1 by omega] at ch
    refine ⟨fun σ H' => ∃ (vF : List V) (fl : List (List Lab)) (x y z u : Option V), σ = [some (.ref t), some (.ref a), some (.ref b), some (.ref d), some (.int (most rs)), some (.ref F), some (.ref S), x, y, z, u] ∧ H' F = some (.lst vF) ∧ Paired (FV H') vF fl ∧ (fl = fallsOf rs (most rs).toNat ∨ fl = (fallsOf rs (most rs).toNat).reverse) ∧ H' S = some (.lst vs) ∧ Labs H' vs ls ∧ Turned t scr H H', ?_, ?_⟩
    · refine ⟨_, rfl, t, scr, 2, rfl, by decide, by decide, tp.on tuc, fun j H5 _ _ tu5 => ?_⟩
      have t5 := (tp.on tuc).tups tu5.kp
      have hF5 := tu5.kp F _ nFt hFc
      have hS5 := tu5.kp S _ nSt hSc
      refine ⟨rfl, _, rfl, ?_⟩
      refine ite2 (fun e => ?_) (fun e => ?_)
      · refine ⟨_, rfl, .inl ⟨rfl, _, SqL.of hF5⟩, F, vF, rfl, rfl, hF5, ?_⟩
        have t6 : Tups H5 (upd H5 F (.lst vF.reverse)) := Tups.put hF5 (fun _ z => nomatch z)
        exact ⟨vF.reverse, _, _, _, _, _, rfl, upd_same, fvs_mono (t5.trans t6) (paired_rev pFc), .inr rfl, by rw [upd_ne (Ne.symm nFS)]; exact hS5, labs_mono (t5.trans t6) lsc, (tuc.trans tu5).put fF0 (Ne.symm nFt) _⟩
      · exact ⟨vF, _, _, _, _, _, rfl, hF5, fvs_mono t5 pFc, .inl rfl, hS5, labs_mono t5 lsc, tuc.trans tu5⟩
    rintro _ H5 ⟨vF5, fl, x5, y5, z5, u5, rfl, hF5, pF5, efl, hS5, ls5, tu5⟩
    refine ⟨_, rfl, S, vs, rfl, .inl ⟨SqL.of hS5, fun q1 hq1 => ?_⟩⟩
    have s6 := same_new hq1 (.tup vs)
    refine ⟨_, rfl, F, vF5, rfl, .inl ⟨SqL.of (s6 F _ hF5), fun q2 hq2 => ?_⟩⟩
    have s7 := same_new hq2 (.tup vF5)
    refine ⟨by show 2 ≤ sizeLine; decide, fun p hp => ?_⟩
    have s8 := same_new hp (.tup [.ref q1, .ref q2])
    have s78 := Same.trans s7 s8
    have s68 := Same.trans s6 s78
    exact k p q1 q2 ls fl _ upd_same ⟨vs, s78 _ _ upd_same, labs_mono (sm_tups s68) ls5⟩ ⟨vF5, s8 _ _ upd_same, fvs_mono (sm_tups s68) pF5⟩ (own _ _ ch (by omega) efl) (tu5.same s68)
end
end K42
namespace K42
open PySem PySem.Spec PyProof.Rows L2
/-! ### _law_longest -/
/-- the places whose bits are set, of the first k -/
def pickN (b : Nat) (xs : List Int) (k : Nat) : List Int := (List.range k).filterMap fun j => if b / 2 ^ j % 2 = 1 then xs[j]? else none
theorem pickN_succ (b : Nat) (xs : List Int) (k : Nat) {x : Int} (h : xs[k]? = some x) : pickN b xs (k + 1) = if b / 2 ^ k % 2 = 1 then pickN b xs k ++ [x] else pickN b xs k := by
  unfold pickN
  rw [List.range_succ, List.filterMap_append]
  by_cases c : b / 2 ^ k % 2 = 1
  · rw [if_pos c, List.filterMap_cons_some (b := x) (by rw [if_pos c, h])]
    rfl
  · rw [if_neg c, List.filterMap_cons_none (by rw [if_neg c])]
    exact List.append_nil _
theorem pickN_cons (b : Nat) (x : Int) (xs : List Int) (k : Nat) : pickN b (x :: xs) (k + 1) = (if b % 2 = 1 then [x] else []) ++ pickN (b / 2) xs k := by
  unfold pickN
  rw [List.range_succ_eq_map, List.filterMap_cons, List.filterMap_map]
  have e : (fun j => if b / 2 ^ j % 2 = 1 then (x :: xs)[j]? else none) ∘ Nat.succ = fun j => if b / 2 / 2 ^ j % 2 = 1 then xs[j]? else none := by
    funext j
    show (if b / 2 ^ (j + 1) % 2 = 1 then (x :: xs)[j + 1]? else none) = _
    rw [Nat.pow_succ, Nat.mul_comm, ← Nat.div_div_eq_div_mul]
    simp
  rw [e]
  simp only [Nat.pow_zero, Nat.div_one, List.getElem?_cons_zero]
  by_cases c : b % 2 = 1
  · rw [if_pos c, if_pos c]; rfl
  · rw [if_neg c, if_neg c]; rfl
theorem pickN_sub (b : Nat) (xs : List Int) : ∀ k, k ≤ xs.length → (pickN b xs k).Sublist (xs.take k)
  | 0, _ => List.nil_sublist _
  | k + 1, h => by
    have at_ := List.getElem?_eq_getElem (l := xs) (i := k) h
    have ih := pickN_sub b xs k (Nat.le_of_lt h)
    rw [pickN_succ b xs k at_, List.take_add_one, at_]
    show List.Sublist _ (xs.take k ++ [xs[k]])
    split
    · exact ih.append (List.Sublist.refl _)
    · exact ih.trans (List.sublist_append_left _ _)
theorem pick_sub (b : Nat) (xs : List Int) : (pickN b xs xs.length).Sublist xs := by
  have z := pickN_sub b xs xs.length (Nat.le_refl _)
  rwa [List.take_length] at z
theorem pick_any : ∀ {s xs : List Int}, s.Sublist xs → ∃ b, b < 2 ^ xs.length ∧ pickN b xs xs.length = s := by
  intro s xs h
  induction h with
  | slnil => exact ⟨0, by decide, rfl⟩
  | @cons s xs x _ ih =>
    obtain ⟨b, lt, e⟩ := ih
    refine ⟨2 * b, by rw [List.length_cons, Nat.pow_succ]; omega, ?_⟩
    rw [List.length_cons, pickN_cons, if_neg (by omega), show 2 * b / 2 = b by omega, e]
    rfl
  | @cons_cons s xs x _ ih =>
    obtain ⟨b, lt, e⟩ := ih
    refine ⟨2 * b + 1, by rw [List.length_cons, Nat.pow_succ]; omega, ?_⟩
    rw [List.length_cons, pickN_cons, if_pos (by omega), show (2 * b + 1) / 2 = b by omega, e]
    rfl
theorem pick_len (b : Nat) (xs : List Int) : (pickN b xs xs.length).length ≤ xs.length := (pick_sub b xs).length_le
/-- what is known behind the first i rows of bits -/
structure Best (places : List Int) (i : Nat) (m : Int) : Prop where
  ge : 0 ≤ m
  all : ∀ b, b < i → (pickN b places places.length).Pairwise (· ≤ ·) → ((pickN b places places.length).length : Int) ≤ m
  one : m = 0 ∨ ∃ b, (pickN b places places.length).Pairwise (· ≤ ·) ∧ ((pickN b places places.length).length : Int) = m
theorem Best.done {places : List Int} {m : Int} (h : Best places (2 ^ places.length) m) : Longest places m := by
  refine ⟨fun s hs up => ?_, ?_⟩
  · obtain ⟨b, lt, e⟩ := pick_any hs
    have z := h.all b lt
    rw [e] at z
    exact z up
  · rcases h.one with e | ⟨b, up, e⟩
    · exact ⟨[], List.nil_sublist _, .nil, by rw [e]; rfl⟩
    · exact ⟨_, pick_sub b places, up, e⟩
theorem Best.more {places : List Int} {i : Nat} {m : Int} (h : Best places i m) (up : (pickN i places places.length).Pairwise (· ≤ ·)) :
    Best places (i + 1) (if ((pickN i places places.length).length : Int) > m then ((pickN i places places.length).length : Int) else m) := by
  refine ⟨?_, fun b lt ub => ?_, ?_⟩
  · have := h.ge
    split <;> omega
  · rcases Nat.lt_or_ge b i with z | z
    · have := h.all b z ub
      split <;> omega
    · cases (show b = i by omega)
      split <;> omega
  · split
    · exact .inr ⟨i, up, rfl⟩
    · exact h.one
theorem Best.less {places : List Int} {i : Nat} {m : Int} (h : Best places i m) (no : ¬ (pickN i places places.length).Pairwise (· ≤ ·)) : Best places (i + 1) m := by
  refine ⟨h.ge, fun b lt ub => ?_, h.one⟩
  rcases Nat.lt_or_ge b i with z | z
  · exact h.all b z ub
  · cases (show b = i by omega)
    exact absurd ub no
/-! lists of whole numbers as data -/
theorem ints_dp {K : PySem.W.Frag} {H : Hp} : ∀ ns : List Int, DpAll K H (ns.map V.int) (ns.map PyData.int)
  | [] => .nil
  | n :: ns => .cons (.int n) (ints_dp ns)
theorem intsD_eqv : ∀ ns ms : List Int, PyData.eqvAll (ns.map .int) (ms.map .int) = decide (ns = ms)
  | [], [] => by simp [PyData.eqvAll]
  | [], _ :: _ => by simp [PyData.eqvAll]
  | _ :: _, [] => by simp [PyData.eqvAll]
  | n :: ns, m :: ms => by
    simp only [List.map_cons, PyData.eqvAll, PyData.eqv, intsD_eqv ns ms]
    rw [Bool.eq_iff_iff]
    simp
theorem intsD_lay : ∀ ns : List Int, PyData.canLayAll0 (ns.map PyData.int) = true ∧ PyData.depthAll (ns.map PyData.int) = 0
  | [] => ⟨by simp [PyData.canLayAll0], by simp [PyData.depthAll]⟩
  | n :: ns => by
    have ih := intsD_lay ns
    exact ⟨by simp [PyData.canLayAll0, PyData.canLay0, ih.1], by simp [PyData.depthAll, PyData.depth, ih.2]⟩
theorem intsD_shaped (ns : List Int) : SeqAt.shaped (.list (ns.map PyData.int)) = true := by
  have h := intsD_lay ns
  refine Bool.and_eq_true_iff.mpr ⟨by simp only [PyData.canLay0]; exact h.1, decide_eq_true ?_⟩
  simp only [PyData.depth, h.2]
  omega
theorem sorted_one {ns ms : List Int} (p : ms.Perm ns) (u : ms.Pairwise (· ≤ ·)) : (ns = ms) ↔ ns.Pairwise (· ≤ ·) := by
  constructor
  · intro e; rw [e]; exact u
  · intro v
    exact W.ksm_same p.symm v u
section
variable {P : Program} {w : World} {K : PySem.W.Frag} {mg : Str → Option Value} {base : Heap} {f : Addr} {fd : FuncData}
def spLongest (K : PySem.W.Frag) : Sp := fun vs H Q _ => ∃ a b old new, vs = [.ref a, .ref b] ∧ LsAt H a old ∧ LsAt H b new ∧ old.length ≤ 20 ∧ ∀ m H', Longest (placesOf old new) m → Same H H' → Q (.int m) H'
abbrev nLong : List Str := ["_law_old", "_law_new", "_law_common", "_law_places", "_law_most", "_law_bits", "_law_some", "_law_label_here", "_law_k"]
theorem scLong : FnScope nLong ["_law_old", "_law_new"] (defScope (top 25)) := ⟨rfl, rfl, rfl, by decide +kernel, rfl, by decide +kernel, by decide +kernel⟩
theorem com_take (old new : List Lab) (i : Nat) {l : Lab} (h : old[i]? = some l) : com (old.take (i + 1)) new = if l ∈ new then com (old.take i) new ++ [l] else com (old.take i) new := by
  unfold com
  rw [List.take_add_one, h]
  show List.filter _ (old.take i ++ [l]) = _
  rw [List.filter_append, List.filter_cons]
  by_cases c : l ∈ new
  · rw [if_pos c, if_pos (decide_eq_true c)]; rfl
  · rw [if_neg c, if_neg (by rw [decide_eq_false c]; exact Bool.false_ne_true)]
    exact List.append_nil _
theorem ok_longest (D : Known K mg "_law_longest" 25 ["_law_old", "_law_new"] f fd) (T : Txt mg) : FnOk P w K mg base CX0 1 f fd ["_law_old", "_law_new"] (spLongest K) := by
  refine D.F.ok scLong (fun vs H Q E h => ?_) (fun cdv A outer s H vs Q E hr h => ?_)
  · obtain ⟨a, b, old, new, rfl, _⟩ := h
    rfl
  obtain ⟨a, b, old, new, rfl, ⟨va, ha, la⟩, ⟨vb, hb, lb⟩, l20, k⟩ := h
  have hu := hr.units
  have hu5 := room65 hr
  refine ⟨_, pss_cons (ps_setLc (i := 2) (own := [("_law_label_here", 7)]) (g := gName 7) (tt := tTest (tOp (rInLs K false) (tVar 7) (tVar 1))) (te := tVar 7) rfl scLong.nd rfl rfl (sw_true rfl rfl rfl (by decide +kernel)) (pi_list (pv 0)) (blkOk_by (N := nLong) (sc := defScope (top 25)) (by decide +kernel))
      (fun _ _ _ _ _ => pg_name (i := 7) scLong.nd rfl (Or.inl rfl)) (fun _ _ _ _ _ => pts_one (pt_cmpR (op_inLs hu5) (pv 7) (pv 1) (by rfl))) (fun _ _ _ _ _ => pv 7))
    (pss_cons (ps_set (i := 3) scLong.nd rfl (Or.inr rfl) (pe_lc (own := [("_law_label_here", 7)]) (g := gName 7) (tt := tYes) (te := tIdx K 1 7) rfl scLong.nd (pi_list (pv 2)) (blkOk_by (N := nLong) (sc := defScope (top 25)) (by decide +kernel))
      (fun _ _ _ _ _ => pg_name (i := 7) scLong.nd rfl (Or.inl rfl)) (fun _ _ _ _ _ => pts_nil) (fun _ _ _ _ _ => pe_bm PySem.F.plainAttrs_list PySem.F.slot_list_index PySem.F.type_list_index (mt_indexLs hu5) (pv 1) (pa_cons (pv 7) pa_nil))))
    (pss_cons (ps_set (i := 4) scLong.nd rfl (Or.inl rfl) pe_int)
    (pss_cons (ps_for PassesOwn.never rfl (pi_range1 rfl T.range (pa_cons (pe_op op_shl pe_int (pe_callB call_len_seq (by rfl) T.len PySem.boot_len (pa_cons (pv 3) pa_nil))) pa_nil)) (pg_name (i := 5) scLong.nd rfl (Or.inr rfl))
      (pss_cons (ps_setLc (i := 6) (own := [("_law_k", 8)]) (g := gName 8) (tt := tEqI (tOp (rI0 fun i j => .int (Builtin.bitAnd i j)) (tOp (rI (fun _ j => 0 ≤ j) fun i j => .int (i / 2 ^ j.toNat)) (tVar 5) (tVar 8)) (tC (.int 1))) (tC (.int 1))) (te := tOp (rIxL K) (tVar 3) (tVar 8)) rfl scLong.nd rfl rfl (sw_true rfl rfl rfl (by decide +kernel))
          (pi_range1 rfl T.range (pa_cons (pe_callB call_len_seq (by rfl) T.len PySem.boot_len (pa_cons (pv 3) pa_nil)) pa_nil)) (blkOk_by (N := nLong) (sc := defScope (top 25)) (by decide +kernel)) (fun _ _ _ _ _ => pg_name (i := 8) scLong.nd rfl (Or.inl rfl))
          (fun _ _ _ _ _ => pts_one (pt_cmpR op_eq (pe_op op_and (pe_op op_shr (pv 5) (pv 8)) pe_int) pe_int (nomark _))) (fun _ _ _ _ _ => pe_ix ix_list (pv 3) (pv 8) (fun _ _ => rfl)))
      (pss_one (ps_if (pt_cmpR (op_eqD hu) (pv 6) (pe_callB cr_sorted (by rfl) T.sorted (by decide +kernel) (pa_cons (pv 6) pa_nil)) (nomark _))
        (pss_one (ps_set (i := 4) scLong.nd rfl (Or.inl rfl) (pe_callB (call_max2 rfl) (by rfl) T.max (by decide +kernel) (pa_cons (pv 4) (pa_cons (pe_callB call_len_seq (by rfl) T.len PySem.boot_len (pa_cons (pv 6) pa_nil)) pa_nil))))) pss_nil))))
    (pss_one (ps_ret (pv 4)))))), ?_⟩
  -- the common labels
  refine ⟨_, rfl, a, rfl, ⟨_, SqL.of ha⟩, fun C hC => ?_⟩
  refine lc_list (K := K) (a := a) (xs := va) (fun i H' => ∃ ys : List V, H' C = some (.lst ys) ∧ Labs H' ys (com (old.take i) new) ∧ Same H H') ?_ (fun i H' _ ⟨_, _, _, s1⟩ => SqL.of (s1 a _ ha)) ?_ ?_
  · exact ⟨[], upd_same, .nil, same_new hC _⟩
  · rintro i x H' hi ⟨ys, hy, ly, s1⟩
    obtain ⟨l, hl, lab0⟩ := labs_get la hi
    have lab := lab0.mono (sm_tups s1)
    refine ⟨rfl, ?_⟩
    refine ⟨_, rfl, _, rfl, l, b, vb, new, rfl, lab, SqL.of (s1 b _ hb), labs_mono (sm_tups s1) lb, _, rfl, ?_⟩
    refine ite2 (fun e => ?_) (fun e => ?_)
    · have c : l ∈ new := by simpa using e
      refine ⟨_, rfl, ys, hy, ?_, ys ++ [x], upd_same, ?_, sm_put s1 hC _⟩
      · have z : (com (old.take i) new).length ≤ (old.take i).length := List.length_filter_le _ _
        rw [List.length_take] at z
        rw [Paired.len_eq ly, sizeLine_eq]
        omega
      · have t2 : Tups H' (upd H' C (.lst (ys ++ [x]))) := Tups.put hy (fun _ z => nomatch z)
        rw [com_take old new i hl, if_pos c]
        exact Paired.snoc (labs_mono t2 ly) (lab.mono t2)
    · have c : l ∉ new := by simpa using e
      exact ⟨ys, hy, by rw [com_take old new i hl, if_neg c]; exact ly, s1⟩
  rintro H1 ⟨ys, hy, ly, s1⟩
  rw [Paired.len_eq la, List.take_length] at ly
  have lenc : (com old new).length ≤ 20 := Nat.le_trans (List.length_filter_le _ _) l20
  -- their places
  refine ⟨_, rfl, C, rfl, ⟨_, SqL.of hy⟩, fun L hL => ?_⟩
  refine lc_list (K := K) (a := C) (xs := ys) (fun i H' => H' L = some (.lst (((com old new).take i).map fun l => V.int ((new.idxOf l : Nat) : Int))) ∧ Same H1 H') ?_ (fun i H' _ ⟨_, s2⟩ => SqL.of (s2 C _ hy)) ?_ ?_
  · exact ⟨upd_same, same_new hL _⟩
  · rintro i x H' hi ⟨hx, s2⟩
    obtain ⟨l, hl, lab0⟩ := labs_get ly hi
    have lab := lab0.mono (sm_tups s2)
    have mem : l ∈ new := (mem_com.mp (List.mem_of_getElem? hl)).2
    have s12 := Same.trans s1 s2
    refine ⟨rfl, ?_⟩
    refine ⟨_, rfl, .inl ⟨rfl, _, SqL.of (s12 b _ hb)⟩, _, rfl, b, _, l, vb, new, rfl, rfl, SqL.of (s12 b _ hb), labs_mono (sm_tups s12) lb, lab, mem, ?_⟩
    refine ⟨_, hx, ?_, ?_, sm_put s2 hL _⟩
    · rw [List.length_map, List.length_take, sizeLine_eq]
      omega
    · rw [upd_same, List.take_add_one, hl, List.map_append]
      rfl
  rintro H2 ⟨hx, s2⟩
  rw [Paired.len_eq ly, List.take_length] at hx
  have hP : H2 L = some (.lst ((placesOf old new).map V.int)) := by
    rw [hx]
    unfold placesOf
    rw [List.map_map]
    rfl
  have lenp : (placesOf old new).length ≤ 20 := by
    unfold placesOf
    rw [List.length_map]
    exact lenc
  have done : ∀ m H', Best (placesOf old new) (2 ^ (placesOf old new).length) m → Same H H' → Q (.int m) H' := fun m H' b s => k m H' b.done s
  clear hx
  generalize placesOf old new = pl at hP lenp done
  have s12 := Same.trans s1 s2
  have hl : (pl.map V.int).length = pl.length := List.length_map _
  have big : (1 : Int) * 2 ^ ((pl.length : Nat) : Int).toNat = ((2 ^ pl.length : Nat) : Int) := by
    rw [Int.toNat_natCast, Int.one_mul]
    exact (Int.natCast_pow 2 pl.length).symm
  have small : 2 ^ pl.length ≤ 2 ^ 20 := Nat.pow_le_pow_right (by decide) lenp
  -- all rows of bits
  refine ⟨_, rfl, L, _, rfl, .inl (SqL.of hP), _, _, rfl, rfl, ⟨by rw [hl]; omega, by rw [hl]; omega, by decide⟩, _, rfl, ?_, ?_, ?_⟩
  · rw [hl, big]
    exact Int.le_trans (by decide) (Int.natCast_nonneg _)
  · rw [hl, big]
    exact Int.lt_of_le_of_lt (Int.ofNat_le.mpr small) (by decide)
  rw [hl, big, Int.toNat_natCast]
  refine for_range (lo := 0) (n := 2 ^ pl.length) (fun i σ H' => ∃ (m : Int) (x y : Option V), σ = [some (.ref a), some (.ref b), some (.ref C), some (.ref L), some (.int m), x, y, none, none] ∧ Best pl i m ∧ Same H2 H') ?_ ?_ ?_
  · exact ⟨0, none, none, rfl, ⟨Int.le_refl _, (fun b lt _ => absurd lt (Nat.not_lt_zero _)), .inl rfl⟩, Same.refl _⟩
  · rintro i σ H' hi ⟨m, x, y, rfl, bst, s3⟩
    have hP3 := s3 L _ hP
    refine ⟨_, rfl, L, _, rfl, .inl (SqL.of hP3), _, rfl, by omega, by rw [hl]; omega, fun S hS => ?_⟩
    rw [hl]
    refine lc_range (lo := 0) (n := pl.length) (fun j H4 => H4 S = some (.lst ((pickN i pl j).map V.int)) ∧ Same H' H4) ?_ ?_ ?_
    · exact ⟨upd_same, same_new hS _⟩
    · rintro j H4 hj ⟨hS4, s4⟩
      have at_ := List.getElem?_eq_getElem (l := pl) hj
      have e1 : (0 + (i : Int)) / 2 ^ (0 + (j : Int)).toNat = ((i / 2 ^ j : Nat) : Int) := by
        rw [Int.zero_add, Int.zero_add, Int.toNat_natCast, Int.natCast_ediv, Int.natCast_pow]
        rfl
      have e2 : Builtin.bitAnd ((0 + (i : Int)) / 2 ^ (0 + (j : Int)).toNat) 1 = ((i / 2 ^ j % 2 : Nat) : Int) := by
        rw [e1, bitAnd_m1, Int.natCast_emod]
        rfl
      refine ⟨rfl, ?_⟩
      refine ⟨_, rfl, _, rfl, _, _, rfl, rfl, by omega, _, _, rfl, rfl, rfl, _, rfl, ?_⟩
      refine ite2 (fun e => ?_) (fun e => ?_)
      · have c : i / 2 ^ j % 2 = 1 := by
          have z : V.int (Builtin.bitAnd ((0 + (i : Int)) / 2 ^ (0 + (j : Int)).toNat) 1) = V.int 1 := of_decide_eq_true e
          injection z with z
          rw [e2] at z
          omega
        refine ⟨_, rfl, _, rfl, L, _, _, .int pl[j], rfl, rfl, SqL.of (s4 L _ hP3), ?_, _, hS4, ?_, ?_, sm_put s4 hS _⟩
        · rw [Int.zero_add]
          exact atI_nat (by rw [List.getElem?_map, at_]; rfl)
        · have z := (pickN_sub i pl j (Nat.le_of_lt hj)).length_le
          rw [List.length_take] at z
          rw [List.length_map, sizeLine_eq]
          omega
        · rw [upd_same, pickN_succ i pl j at_, if_pos c, List.map_append]
          rfl
      · have c : ¬ i / 2 ^ j % 2 = 1 := fun z => by
          refine absurd (decide_eq_true ?_) e
          show V.int (Builtin.bitAnd ((0 + (i : Int)) / 2 ^ (0 + (j : Int)).toNat) 1) = V.int 1
          rw [e2, z]
          rfl
        exact ⟨by rw [pickN_succ i pl j at_, if_neg c]; exact hS4, s4⟩
    rintro H4 ⟨hS4, s4⟩
    have lenS := pick_len i pl
    refine ⟨_, rfl, _, rfl, S, _, rfl, SqL.of hS4, by omega, fun ms p pm up hp => ?_⟩
    have s5 := same_new hp (.lst (ms.map V.int))
    refine ⟨.list ((pickN i pl pl.length).map .int), .list (ms.map .int), .lst (SqL.of (s5 S _ hS4)) (ints_dp _), .lst (SqL.of upd_same) (ints_dp _), intsD_shaped _, intsD_shaped _, _, rfl, ?_⟩
    have ev : PyData.eqv (.list ((pickN i pl pl.length).map .int)) (.list (ms.map .int)) = decide (pickN i pl pl.length = ms) := by
      simp only [PyData.eqv]
      exact intsD_eqv _ _
    rw [ev]
    have s345 := Same.trans (Same.trans s3 s4) s5
    refine ite2 (fun e => ?_) (fun e => ?_)
    · have sorted_ := (sorted_one pm up).mp (of_decide_eq_true e)
      refine ⟨_, rfl, _, rfl, S, _, rfl, .inl (SqL.of (s5 S _ hS4)), _, _, rfl, ?_⟩
      rw [List.length_map]
      exact ⟨_, _, _, rfl, bst.more sorted_, s345⟩
    · have no : ¬ (pickN i pl pl.length).Pairwise (· ≤ ·) := fun z => e (decide_eq_true ((sorted_one pm up).mpr z))
      exact ⟨m, _, _, rfl, bst.less no, s345⟩
  · rintro σ H' ⟨m, x, y, rfl, bst, s3⟩
    exact ⟨_, rfl, done m H' bst (Same.trans s12 s3)⟩
end
end K42
namespace K42
open PySem PySem.Spec PyProof.Rows L2
/-! ### _law_parted -/
theorem paired_set {α β : Type} {F : α → β → Prop} {x : α} {y : β} (h : F x y) : ∀ {a : List α} {b : List β} (k : Nat), Paired F a b → Paired F (a.set k x) (b.set k y)
  | _, _, _, .nil => .nil
  | _, _, 0, .cons _ t => .cons h t
  | _, _, k + 1, .cons q t => .cons q (paired_set h k t)
theorem flatten_set {l : Lab} : ∀ {fs : List (List Lab)} {k : Nat} {f : List Lab}, fs[k]? = some f → (fs.set k (f ++ [l])).flatten.length = fs.flatten.length + 1
  | [], _, _, h => by simp at h
  | g :: fs, 0, f, h => by
    simp only [List.getElem?_cons_zero, Option.some.injEq] at h
    subst h
    simp only [List.set_cons_zero, List.flatten_cons, List.length_append, List.length_singleton]
    omega
  | g :: fs, k + 1, f, h => by
    have ih := flatten_set (l := l) (fs := fs) (k := k) (f := f) (by simpa using h)
    simp only [List.set_cons_succ, List.flatten_cons, List.length_append]
    omega
/-- papers as the law makes them -/
structure PaperOk (old stays : List Lab) (falls : List (List Lab)) : Prop where
  st : ∀ l ∈ stays, l ∈ old
  fl : ∀ f ∈ falls, ∀ l ∈ f, l ∈ old
  all : falls.flatten.length ≤ 20
  nst : stays.length ≤ 20
  nfl : falls.length ≤ 20
theorem flat_le {falls : List (List Lab)} {f : List Lab} (h : f ∈ falls) : f.length ≤ falls.flatten.length := by
  induction falls with
  | nil => exact nomatch h
  | cons g falls ih =>
    rw [List.flatten_cons, List.length_append]
    rcases List.mem_cons.mp h with e | h
    · rw [e]; omega
    · have := ih h
      omega
/-- a fall with one label more -/
theorem catA_one {K : PySem.W.Frag} {Q : V → Hp → Prop} {H H3 : Hp} {ak q : Addr} {vk : List V} {x0 : V} {fk : List Lab} {l : Lab} (hak : H ak = some (.tup vk)) (lak : Labs H vk fk) (few : fk.length ≤ 20) (s3 : Same H H3) (hq : H3 q = some (.tup [x0])) (lab : LabAt H3 x0 l)
    (key : ∀ (r : Addr) (H4 : Hp), Same H H4 → FV H4 (.ref r) (fk ++ [l]) → Q (.ref r) H4) : rCatA K (.ref ak) (.ref q) H3 Q := by
  refine ⟨ak, q, vk, [x0], rfl, rfl, SqT.of (s3 _ _ hak), SqT.of hq, ?_, fun e => ?_, (fun _ e => nomatch e), fun _ _ p hp => ?_⟩
  · rw [Paired.len_eq lak, sizeLine_eq, List.length_singleton]
    omega
  · subst e
    cases lak
    exact key q H3 s3 ⟨q, rfl, [x0], hq, .cons lab .nil⟩
  · have s4 := same_new hp (.tup (vk ++ [x0]))
    have s34 := Same.trans s3 s4
    exact key p _ s34 ⟨p, rfl, _, upd_same, Paired.snoc (labs_mono (sm_tups s34) lak) (lab.mono (sm_tups s4))⟩
section
variable {P : Program} {w : World} {K : PySem.W.Frag} {mg : Str → Option Value} {base : Heap} {f g : Addr} {fd gd : FuncData}
def spParted (K : PySem.W.Frag) : Sp := fun vs H Q _ => ∃ t scr a b old new, vs = [.ref t, .ref a, .ref b] ∧ Tape K t scr H ∧ LsAt H a old ∧ LsAt H b new ∧ old.length ≤ 20 ∧
  ∀ p q1 q2 stays falls H', H' p = some (.tup [.ref q1, .ref q2]) → TsAt H' q1 stays → FsAt H' q2 falls → PaperOk old stays falls → Turned t scr H H' → Q (.ref p) H'
theorem scPart : FnScope ["_law_tape_here", "_law_old", "_law_new", "_law_falls", "_law_stays", "_law_label_here", "_law_k"] ["_law_tape_here", "_law_old", "_law_new"] (defScope (top 26)) := ⟨rfl, rfl, rfl, by decide +kernel, rfl, by decide +kernel, by decide +kernel⟩
theorem ok_parted (D : Known K mg "_law_parted" 26 ["_law_tape_here", "_law_old", "_law_new"] f fd) (T : Txt mg) (D1 : Known K mg "_law_draw" 16 ["_law_tape_here", "_law_many"] g gd) (G1 : FnOk P w K mg base CX0 1 g gd ["_law_tape_here", "_law_many"] (spDraw K)) :
    FnOk P w K mg base CX0 2 f fd ["_law_tape_here", "_law_old", "_law_new"] (spParted K) := by
  refine D.F.ok scPart (fun vs H Q E h => ?_) (fun cdv A outer s H vs Q E hr h => ?_)
  · obtain ⟨t, scr, a, b, old, new, rfl, _⟩ := h
    rfl
  obtain ⟨t, scr, a, b, old, new, rfl, tp, hA, hB, l20, k⟩ := h
  have hu5 := room65 hr
  refine ⟨_, pss_cons (ps_set (i := 3) scPart.nd rfl (Or.inl rfl) (pe_lst pa_nil))
    (pss_cons (ps_set (i := 4) scPart.nd rfl (Or.inl rfl) (pe_lst pa_nil))
    (pss_cons (ps_for PassesOwn.never rfl (pi_list (pv 1)) (pg_name (i := 5) scPart.nd rfl (Or.inl rfl))
      (pss_one (ps_if (pt_cmpR (op_inLs hu5) (pv 5) (pv 2) (by rfl))
        (pss_cons (ps_set (i := 6) scPart.nd rfl (Or.inl rfl) (pe_call G1 hr rfl D1.m D1.F.kp D1.b .nil pass0 (pa_cons (pv 0) (pa_cons (pe_op op_add (pe_callB call_len_seq (by rfl) T.len PySem.boot_len (pa_cons (pv 3) pa_nil)) pe_int) pa_nil))))
        (C8.pss_cut (ps_if (pt_cmpR op_eq (pv 6) (pe_callB call_len_seq (by rfl) T.len PySem.boot_len (pa_cons (pv 3) pa_nil)) (nomark _))
          (pss_cons (ps_expr (pe_bm PySem.F.plainAttrs_list PySem.F.slot_list_append PySem.F.type_list_append mt_append (pv 3) (pa_cons (pe_tup pa_nil) pa_nil)))
            (pss_one (ps_expr (pe_bm PySem.F.plainAttrs_list PySem.F.slot_list_append PySem.F.type_list_append mt_append (pv 4) (pa_cons (pv 5) pa_nil))))) pss_nil)
        (pss_cons (ps_asg (pe_op op_catA (pe_ix ix_list (pv 3) (pv 6) (fun _ _ => rfl)) (pe_tup (pa_cons (pv 5) pa_nil))) (pg_sub (pv 3) (pv 6) set_list))
        (pss_one (ps_if (pt_cmpR op_eq (pe_call G1 hr rfl D1.m D1.F.kp D1.b .nil pass0 (pa_cons (pv 0) (pa_cons pe_int pa_nil))) pe_int (nomark _))
          (pss_one (ps_asg (pv 5) (pg_sub (pv 4) (pv 6) set_list))) pss_nil))))) pss_nil)))
    (C8.pss_cut (ps_if (PW.pt (pw_and (pt_cmpR op_eq (pe_call G1 hr rfl D1.m D1.F.kp D1.b .nil pass0 (pa_cons (pv 0) (pa_cons pe_int pa_nil))) pe_int (nomark _)) (pw_and1 (pt_cmpR op_gt (pe_callB call_len_seq (by rfl) T.len PySem.boot_len (pa_cons (pv 4) pa_nil)) pe_int (nomark _)))))
      (pss_one (ps_expr (pe_bm PySem.F.plainAttrs_list PySem.F.slot_list_pop PySem.F.type_list_pop mt_popAt (pv 4) (pa_cons (pe_call G1 hr rfl D1.m D1.F.kp D1.b .nil pass0 (pa_cons (pv 0) (pa_cons (pe_callB call_len_seq (by rfl) T.len PySem.boot_len (pa_cons (pv 4) pa_nil)) pa_nil))) pa_nil)))) pss_nil)
    (pss_one (ps_ret (pe_tup (pa_cons (pe_callTy call_tuple_of (by rfl) T.tuple (by decide +kernel) (pa_cons (pv 4) pa_nil)) (pa_cons (pe_callTy call_tuple_of (by rfl) T.tuple (by decide +kernel) (pa_cons (pv 3) pa_nil)) pa_nil)))))))), ?_⟩
  obtain ⟨va, ha, la⟩ := id hA
  obtain ⟨vb, hb, lb⟩ := id hB
  have nat := hA.ne tp.at_
  have nbt := hB.ne tp.at_
  refine ⟨Nat.zero_le _, fun F hF => ?_⟩
  have sF := same_new hF (.lst [])
  refine ⟨Nat.zero_le _, fun S hS => ?_⟩
  have sS := same_new hS (.lst [])
  have fS : H S = none := Same.free sF hS
  have nFS : F ≠ S := ne_of_none upd_same hS
  have nFt : F ≠ t := Ne.symm (tp.at_.ne hF)
  have nSt : S ≠ t := Ne.symm (tp.at_.ne fS)
  have naF : a ≠ F := ne_of_none ha hF
  have naS : a ≠ S := ne_of_none ha fS
  refine ⟨_, rfl, a, rfl, ⟨_, SqL.of (Same.trans sF sS a _ ha)⟩, for_list (K := K) (a := a) (xs := va) (fun i σ H' => ∃ (vF vS : List V) (fs : List (List Lab)) (ls : List Lab) (x y : Option V), σ = [some (.ref t), some (.ref a), some (.ref b), some (.ref F), some (.ref S), x, y] ∧
    H' F = some (.lst vF) ∧ Paired (FV H') vF fs ∧ H' S = some (.lst vS) ∧ Labs H' vS ls ∧ fs.length = ls.length ∧ fs.length ≤ i ∧ fs.flatten.length ≤ i ∧ (∀ l ∈ ls, l ∈ old) ∧ (∀ f ∈ fs, ∀ l ∈ f, l ∈ old) ∧ Turned t scr H H') ?_ (fun i σ H' _ ⟨_, _, _, _, _, _, _, _, _, _, _, _, _, _, _, _, tu⟩ => SqL.of (tu.kp a _ nat ha)) ?_ ?_⟩
  · exact ⟨[], [], [], [], none, none, rfl, sS F _ upd_same, .nil, upd_same, .nil, rfl, Nat.zero_le _, Nat.zero_le _, (fun l z => nomatch z), (fun f z => nomatch z), Turned.of tp (Same.trans sF sS)⟩
  · rintro i x0 σ Hc hi ⟨vF, vS, fs, ls, x, y, rfl, hFc, pF, hSc, lS, eqn, n1, n2, m1, m2, tuc⟩
    obtain ⟨l, hl, lab0⟩ := labs_get la hi
    have tc := tp.tups tuc.kp
    have lab := lab0.mono tc
    have lold := List.mem_of_getElem? hl
    have ilt : i < 20 := by
      have z := (List.getElem?_eq_some_iff.mp hl).1
      omega
    refine ⟨_, rfl, _, rfl, l, b, vb, new, rfl, lab, SqL.of (tuc.kp b _ nbt hb), labs_mono tc lb, _, rfl, ?_⟩
    refine ite2 (fun e => ?_) (fun e => ?_)
    · have lenF := Paired.len_eq pF
      refine ⟨_, rfl, _, rfl, F, vF, rfl, .inl (SqL.of hFc), _, _, rfl, rfl, t, scr, _, rfl, by omega, by omega, tp.on tuc, fun j H1 j0 j1 tu1 => ?_⟩
      have t1 := (tp.on tuc).tups tu1.kp
      have hF1 := tu1.kp F _ nFt hFc
      have hS1 := tu1.kp S _ nSt hSc
      have tu2 := tuc.trans tu1
      have pF1 := fvs_mono t1 pF
      have lS1 := labs_mono t1 lS
      -- a new fall, or not
      refine ⟨fun σ H' => ∃ (vF vS : List V) (fs : List (List Lab)) (ls : List Lab), σ = [some (.ref t), some (.ref a), some (.ref b), some (.ref F), some (.ref S), some x0, some (.int j)] ∧
        H' F = some (.lst vF) ∧ Paired (FV H') vF fs ∧ H' S = some (.lst vS) ∧ Labs H' vS ls ∧ fs.length = ls.length ∧ fs.length ≤ i + 1 ∧ fs.flatten.length ≤ i ∧ (∀ l ∈ ls, l ∈ old) ∧ (∀ f ∈ fs, ∀ l ∈ f, l ∈ old) ∧ j < fs.length ∧ Tups H1 H' ∧ Turned t scr H H', ?_, ?_⟩
      · refine ⟨_, rfl, _, rfl, F, vF, rfl, .inl (SqL.of hF1), rfl, _, rfl, ?_⟩
        refine ite2 (fun e2 => ?_) (fun e2 => ?_)
        · refine ⟨_, rfl, .inl ⟨rfl, _, SqL.of hF1⟩, Nat.zero_le _, fun q hq => ?_⟩
          have s2 := same_new hq (.tup [])
          have hF2 := s2 F _ hF1
          refine ⟨F, vF, _, rfl, rfl, hF2, by rw [lenF, sizeLine_eq]; omega, ?_⟩
          have t3 : Tups (upd H1 q (.tup [])) (upd (upd H1 q (.tup [])) F (.lst (vF ++ [.ref q]))) := Tups.put hF2 (fun _ z => nomatch z)
          have hF3 : upd (upd H1 q (.tup [])) F (.lst (vF ++ [.ref q])) F = some (.lst (vF ++ [.ref q])) := upd_same
          have hS3 : upd (upd H1 q (.tup [])) F (.lst (vF ++ [.ref q])) S = some (.lst vS) := by rw [upd_ne (Ne.symm nFS)]; exact s2 S _ hS1
          have t13 := (sm_tups s2).trans t3
          have tu3 : Turned t scr H (upd (upd H1 q (.tup [])) F (.lst (vF ++ [.ref q]))) := (tu2.same s2).put hF (Ne.symm nFt) _
          have qE : FV (upd (upd H1 q (.tup [])) F (.lst (vF ++ [.ref q]))) (.ref q) [] := ⟨q, rfl, [], t3 _ _ upd_same, .nil⟩
          generalize upd (upd H1 q (.tup [])) F (.lst (vF ++ [.ref q])) = H3 at t3 hF3 hS3 t13 tu3 qE ⊢
          refine ⟨_, rfl, .inl ⟨rfl, _, SqL.of hS3⟩, _, rfl, S, vS, _, rfl, rfl, hS3, by rw [Paired.len_eq lS, sizeLine_eq]; omega, ?_⟩
          have t4 : Tups H3 (upd H3 S (.lst (vS ++ [x0]))) := Tups.put hS3 (fun _ z => nomatch z)
          have t14 := t13.trans t4
          refine ⟨vF ++ [.ref q], vS ++ [x0], fs ++ [[]], ls ++ [l], rfl, by rw [upd_ne nFS]; exact hF3, Paired.snoc (fvs_mono t14 pF1) (qE.mono t4), upd_same, Paired.snoc (labs_mono t14 lS1) (lab.mono (t1.trans t14)), ?_, ?_, ?_, fun z hz => ?_, fun z hz => ?_, ?_, t14, tu3.put fS (Ne.symm nSt) _⟩
          · simp only [List.length_append, List.length_singleton]; omega
          · simp only [List.length_append, List.length_singleton]; omega
          · simp only [List.flatten_append, List.flatten_cons, List.flatten_nil, List.append_nil]; exact n2
          · rcases List.mem_append.mp hz with hz | hz
            · exact m1 z hz
            · rw [List.mem_singleton.mp hz]; exact lold
          · rcases List.mem_append.mp hz with hz | hz
            · exact m2 z hz
            · rw [List.mem_singleton.mp hz]; exact fun y hy => nomatch hy
          · simp only [List.length_append, List.length_singleton]; omega
        · refine ⟨vF, vS, fs, ls, rfl, hF1, pF1, hS1, lS1, eqn, by omega, n2, m1, m2, ?_, .refl _, tu2⟩
          have z : ¬ j = ((vF.length : Nat) : Int) := fun z => e2 (decide_eq_true (by rw [z]))
          omega
      clear hFc pF hSc lS eqn n1 n2 m1 m2 hF1 hS1 tu2 pF1 lS1 lenF j1
      rintro _ H2 ⟨vF, vS, fs, ls, rfl, hF2, pF2, hS2, lS2, eqn, n1, n2, m1, m2, jlt, t12, tu2⟩
      have tpx := tp.on tu2
      have lenF := Paired.len_eq pF2
      have lt : j.toNat < vF.length := by omega
      have at_ := List.getElem?_eq_getElem lt
      obtain ⟨fk, hfk, fvk⟩ := paired_get pF2 at_
      obtain ⟨ak, ek, vk, hak, lak⟩ := fvk
      have atI_ : atI vF j = some (.ref ak) := by
        have q : atI vF ((j.toNat : Nat) : Int) = some vF[j.toNat] := atI_nat at_
        rw [ek] at q
        rwa [show ((j.toNat : Nat) : Int) = j by omega] at q
      have lfk : fk.length ≤ fs.flatten.length := flat_le (List.mem_of_getElem? hfk)
      have mfk : ∀ l ∈ fk, l ∈ old := m2 fk (List.mem_of_getElem? hfk)
      have ixj : ixN vF.length j = some j.toNat := by
        unfold ixN
        rw [if_pos j0, if_pos (by omega)]
      -- what stands behind the store
      have store : ∀ (r : Addr) (H4 : Hp), Same H2 H4 → FV H4 (.ref r) (fk ++ [l]) → ∀ H5, H5 = upd H4 F (.lst (vF.set j.toNat (.ref r))) → H5 F = some (.lst (vF.set j.toNat (.ref r))) ∧ Paired (FV H5) (vF.set j.toNat (.ref r)) (fs.set j.toNat (fk ++ [l])) ∧ H5 S = some (.lst vS) ∧ Labs H5 vS ls ∧ LabAt H5 x0 l ∧ Turned t scr H H5 := fun r H4 s4 fv H5 e5 => by
        subst e5
        have hF4 := s4 F _ hF2
        have t5 : Tups H4 (upd H4 F (.lst (vF.set j.toNat (.ref r)))) := Tups.put hF4 (fun _ z => nomatch z)
        have t25 := (sm_tups s4).trans t5
        exact ⟨upd_same, paired_set (fv.mono t5) _ (fvs_mono t25 pF2), by rw [upd_ne (Ne.symm nFS)]; exact s4 S _ hS2, labs_mono t25 lS2, lab.mono ((t1.trans t12).trans t25), (tu2.same s4).put hF (Ne.symm nFt) _⟩
      have fin : ∀ (r : Addr) (H5 : Hp) (σ : L2.St), σ = [some (.ref t), some (.ref a), some (.ref b), some (.ref F), some (.ref S), some x0, some (.int j)] → H5 F = some (.lst (vF.set j.toNat (.ref r))) → Paired (FV H5) (vF.set j.toNat (.ref r)) (fs.set j.toNat (fk ++ [l])) → H5 S = some (.lst vS) → Labs H5 vS ls → LabAt H5 x0 l → Turned t scr H H5 → ∀ (vS' : List V) (ls' : List Lab) (H6 : Hp), H6 F = some (.lst (vF.set j.toNat (.ref r))) → Tups H5 H6 → H6 S = some (.lst vS') → Labs H6 vS' ls' → ls'.length = ls.length → (∀ z ∈ ls', z ∈ old) → Turned t scr H H6 →
          ∃ (vF vS : List V) (fs : List (List Lab)) (ls : List Lab) (x y : Option V), σ = [some (.ref t), some (.ref a), some (.ref b), some (.ref F), some (.ref S), x, y] ∧ H6 F = some (.lst vF) ∧ Paired (FV H6) vF fs ∧ H6 S = some (.lst vS) ∧ Labs H6 vS ls ∧ fs.length = ls.length ∧ fs.length ≤ i + 1 ∧ fs.flatten.length ≤ i + 1 ∧ (∀ l ∈ ls, l ∈ old) ∧ (∀ f ∈ fs, ∀ l ∈ f, l ∈ old) ∧ Turned t scr H H6 := fun r H5 σ es hF5 pF5 hS5 lS5 lab5 tu5 vS' ls' H6 hF6 t56 hS6 lS6 len6 m6 tu6 => by
        subst es
        refine ⟨_, vS', fs.set j.toNat (fk ++ [l]), ls', _, _, rfl, hF6, fvs_mono t56 pF5, hS6, lS6, by rw [List.length_set, len6]; exact eqn, by rw [List.length_set]; exact n1, by rw [flatten_set hfk]; omega, m6, fun f' hf' z hz => ?_, tu6⟩
        rcases List.mem_or_eq_of_mem_set hf' with h | h
        · exact m2 f' h z hz
        · rw [h] at hz
          rcases List.mem_append.mp hz with hz | hz
          · exact mfk z hz
          · rw [List.mem_singleton.mp hz]; exact lold
      -- the store, then perhaps another stay
      have go : ∀ (r : Addr) (H4 : Hp), Same H2 H4 → FV H4 (.ref r) (fk ++ [l]) → ∀ {R : L2.St → Hp → Prop}, (∀ H5, H5 F = some (.lst (vF.set j.toNat (.ref r))) → Paired (FV H5) (vF.set j.toNat (.ref r)) (fs.set j.toNat (fk ++ [l])) → H5 S = some (.lst vS) → Labs H5 vS ls → LabAt H5 x0 l → Turned t scr H H5 → R [some (.ref t), some (.ref a), some (.ref b), some (.ref F), some (.ref S), some x0, some (.int j)] H5) →
          gSub (tVar 3) (tVar 6) rSetL (.ref r) [some (.ref t), some (.ref a), some (.ref b), some (.ref F), some (.ref S), some x0, some (.int j)] H4 R := fun r H4 s4 fv R hR => by
        obtain ⟨z1, z2, z3, z4, z5, z6⟩ := store r H4 s4 fv _ rfl
        exact ⟨_, rfl, _, rfl, F, vF, j, j.toNat, rfl, rfl, s4 F _ hF2, ixj, hR _ z1 z2 z3 z4 z5 z6⟩
      refine ⟨_, rfl, _, rfl, F, vF, j, _, rfl, rfl, SqL.of hF2, atI_, ?_⟩
      refine ⟨_, rfl, by show 1 ≤ sizeLine; decide, fun q hq => ?_⟩
      have s3 := same_new hq (.tup [x0])
      have lab3 : LabAt (upd H2 q (.tup [x0])) x0 l := lab.mono ((t1.trans t12).trans (sm_tups s3))
      refine catA_one hak lak (by omega) s3 upd_same lab3 (fun r H4 s4 fv => ?_)
      refine go r H4 s4 fv (fun H5 hF5 pF5 hS5 lS5 lab5 tu5 => ?_)
      refine ⟨_, rfl, t, scr, 3, rfl, by decide, by decide, tp.on tu5, fun d H6 _ _ tu6 => ?_⟩
      have t6 := (tp.on tu5).tups tu6.kp
      have hF6 := tu6.kp F _ nFt hF5
      have hS6 := tu6.kp S _ nSt hS5
      have tu56 := tu5.trans tu6
      refine ⟨rfl, _, rfl, ?_⟩
      refine ite2 (fun e2 => ?_) (fun e2 => ?_)
      · have t7 : Tups H6 (upd H6 S (.lst (vS.set j.toNat x0))) := Tups.put hS6 (fun _ z => nomatch z)
        have ixS : ixN vS.length j = some j.toNat := by
          rw [Paired.len_eq lS2, ← eqn, ← lenF]
          exact ixj
        refine ⟨_, rfl, _, rfl, _, rfl, S, vS, j, j.toNat, rfl, rfl, hS6, ixS, ?_⟩
        refine fin r H5 _ rfl hF5 pF5 hS5 lS5 lab5 tu5 (vS.set j.toNat x0) (ls.set j.toNat l) _ (by rw [upd_ne nFS]; exact hF6) (t6.trans t7) upd_same (paired_set (lab5.mono (t6.trans t7)) _ (labs_mono (t6.trans t7) lS5)) (List.length_set ..) (fun z hz => ?_) (tu56.put fS (Ne.symm nSt) _)
        rcases List.mem_or_eq_of_mem_set hz with h | h
        · exact m1 z h
        · rw [h]; exact lold
      · exact fin r H5 _ rfl hF5 pF5 hS5 lS5 lab5 tu5 vS ls H6 hF6 t6 hS6 (labs_mono t6 lS5) rfl m1 tu56
    · exact ⟨vF, vS, fs, ls, _, _, rfl, hFc, pF, hSc, lS, eqn, by omega, by omega, m1, m2, tuc⟩
  · rintro σ Hc ⟨vF, vS, fs, ls, x, y, rfl, hFc, pF, hSc, lS, eqn, n1, n2, m1, m2, tuc⟩
    rw [Paired.len_eq la] at n1 n2
    refine ⟨fun σ H' => ∃ (vS : List V) (ls : List Lab) (x y : Option V), σ = [some (.ref t), some (.ref a), some (.ref b), some (.ref F), some (.ref S), x, y] ∧ H' F = some (.lst vF) ∧ Paired (FV H') vF fs ∧ H' S = some (.lst vS) ∧ Labs H' vS ls ∧ ls.length ≤ 20 ∧ (∀ l ∈ ls, l ∈ old) ∧ Turned t scr H H', ?_, ?_⟩
    · refine ⟨_, rfl, t, scr, 3, rfl, by decide, by decide, tp.on tuc, fun d H5 _ _ tu5 => ?_⟩
      have t5 := (tp.on tuc).tups tu5.kp
      have hF5 := tu5.kp F _ nFt hFc
      have hS5 := tu5.kp S _ nSt hSc
      have tu2 := tuc.trans tu5
      have stay : ∃ (vS' : List V) (ls' : List Lab) (x' y' : Option V), [some (V.ref t), some (.ref a), some (.ref b), some (.ref F), some (.ref S), x, y] = [some (.ref t), some (.ref a), some (.ref b), some (.ref F), some (.ref S), x', y'] ∧ H5 F = some (.lst vF) ∧ Paired (FV H5) vF fs ∧ H5 S = some (.lst vS') ∧ Labs H5 vS' ls' ∧ ls'.length ≤ 20 ∧ (∀ l ∈ ls', l ∈ old) ∧ Turned t scr H H5 := ⟨vS, ls, x, y, rfl, hF5, fvs_mono t5 pF, hS5, labs_mono t5 lS, by omega, m1, tu2⟩
      refine ⟨rfl, _, rfl, ?_⟩
      refine ite2 (fun e => ?_) (fun e => ?_)
      · refine ⟨_, rfl, S, vS, rfl, .inl (SqL.of hS5), _, _, rfl, rfl, _, rfl, ?_⟩
        refine ite2 (fun e2 => ?_) (fun e2 => ?_)
        · have pos : 0 < vS.length := by
            have z : ((vS.length : Nat) : Int) > 0 := by simpa using e2
            omega
          have lenv := Paired.len_eq lS
          refine ⟨_, rfl, .inl ⟨rfl, _, SqL.of hS5⟩, _, rfl, _, rfl, S, vS, rfl, .inl (SqL.of hS5), t, scr, _, rfl, by omega, by omega, tp.on tu2, fun k H6 k0 k1 tu6 => ?_⟩
          have t6 := (tp.on tu2).tups tu6.kp
          have hF6 := tu6.kp F _ nFt hF5
          have hS6 := tu6.kp S _ nSt hS5
          have lt : k.toNat < vS.length := by omega
          have at_ := List.getElem?_eq_getElem lt
          refine ⟨S, vS, k, k.toNat, _, rfl, rfl, hS6, by omega, by omega, seqIndex_of k0 (by omega), at_, ?_⟩
          have t7 : Tups H6 (upd H6 S (.lst (vS.eraseIdx k.toNat))) := Tups.put hS6 (fun _ z => nomatch z)
          have t567 := (t5.trans t6).trans t7
          refine ⟨vS.eraseIdx k.toNat, ls.eraseIdx k.toNat, x, y, rfl, by rw [upd_ne nFS]; exact hF6, fvs_mono t567 pF, upd_same, labs_mono t567 (paired_erase _ lS), ?_, fun z hz => m1 z (List.mem_of_mem_eraseIdx hz), (tu2.trans tu6).put fS (Ne.symm nSt) _⟩
          have := List.length_eraseIdx_le ls k.toNat
          omega
        · exact stay
      · exact stay
    rintro _ H5 ⟨vS5, ls5, x5, y5, rfl, hF5, pF5, hS5, lS5, l5, m5, tu5⟩
    refine ⟨_, rfl, S, vS5, rfl, .inl ⟨SqL.of hS5, fun q1 hq1 => ?_⟩⟩
    have s6 := same_new hq1 (.tup vS5)
    refine ⟨_, rfl, F, vF, rfl, .inl ⟨SqL.of (s6 F _ hF5), fun q2 hq2 => ?_⟩⟩
    have s7 := same_new hq2 (.tup vF)
    refine ⟨by show 2 ≤ sizeLine; decide, fun p hp => ?_⟩
    have s8 := same_new hp (.tup [.ref q1, .ref q2])
    have s78 := Same.trans s7 s8
    have s68 := Same.trans s6 s78
    exact k p q1 q2 ls5 fs _ upd_same ⟨vS5, s78 _ _ upd_same, labs_mono (sm_tups s68) lS5⟩ ⟨vF, s8 _ _ upd_same, fvs_mono (sm_tups s68) pF5⟩ ⟨m5, m2, by omega, l5, by omega⟩ (tu5.same s68)
end
end K42
namespace K42
open PySem PySem.Spec PyProof.Rows L2
/-! ### is_whole, is_number, is_count, is_spot, is_path, is_label -/
section
variable {P : Program} {w : World} {K : PySem.W.Frag} {mg : Str → Option Value} {base : Heap} {f g g1 g2 g3 : Addr} {fd gd gd1 gd2 gd3 : FuncData}
theorem pe_ty {X : Cx} {x : Str} {n : String} {pos : Pos} (hg : Gl X x) (hm : X.mg x = none) (hv : bootBuiltins x = some (.type n)) (hn : x ≠ "__name__" := by decide) (hd : (x == ("__debug__" : Str)) = false := by decide) : PE X (.Name x pos) (tC (.ty n)) := pe_bltn hg hm hv rfl hn hd
abbrev tIsi (K : PySem.W.Frag) (te : TE) (n : String) : TE := tCB (rIsi K) (tCons te (tCons (tC (.ty n)) tNil))
theorem isi_int {K : PySem.W.Frag} {σ : L2.St} {H : Hp} {i : Nat} {n : Int} {Q : VK} (h : σ[i]? = some (some (.int n))) (q : Q (.bl true) H) : tIsi K (tVar i) "int" σ H Q := ⟨_, h, _, _, _, _, _, rfl, .ty _, .base (.int _), kit_ty (by decide +kernel), q⟩
theorem isi_bool {K : PySem.W.Frag} {σ : L2.St} {H : Hp} {i : Nat} {n : Int} {Q : VK} (h : σ[i]? = some (some (.int n))) (q : Q (.bl false) H) : tIsi K (tVar i) "bool" σ H Q := ⟨_, h, _, _, _, _, _, rfl, .ty _, .base (.int _), kit_ty (by decide +kernel), q⟩
theorem isi_tup {K : PySem.W.Frag} {σ : L2.St} {H : Hp} {i : Nat} {a : Addr} {xs : List V} {Q : VK} (h : σ[i]? = some (some (.ref a))) (e : H a = some (.tup xs)) (q : Q (.bl true) H) : tIsi K (tVar i) "tuple" σ H Q := ⟨_, h, _, _, _, _, _, rfl, .ty _, .base (.tup e), kit_ty (by decide +kernel), q⟩
def spWhole : Sp := fun vs H Q _ => ∃ n : Int, vs = [.int n] ∧ Q (.bl true) H
theorem scWhole : FnScope ["thing"] ["thing"] (defScope (top 2)) := ⟨rfl, rfl, rfl, by decide +kernel, rfl, by decide +kernel, by decide +kernel⟩
theorem ok_whole (D : Known K mg "is_whole" 2 ["thing"] f fd) (T : Txt mg) : FnOk P w K mg base CX0 1 f fd ["thing"] spWhole := by
  refine D.F.ok scWhole (fun vs H Q E h => ?_) (fun cdv A outer s H vs Q E hr h => ?_)
  · obtain ⟨n, rfl, _⟩ := h
    rfl
  obtain ⟨n, rfl, k⟩ := h
  refine ⟨_, pss_one (ps_ret (pe_and (pe_callB call_isi (by rfl) T.isi (by decide +kernel) (pa_cons (pv 0) (pa_cons (pe_ty (n := "int") (by rfl) T.int (by decide +kernel)) pa_nil)))
    (pe_one (pe_not (pe_callB call_isi (by rfl) T.isi (by decide +kernel) (pa_cons (pv 0) (pa_cons (pe_ty (n := "bool") (by rfl) T.bool (by decide +kernel)) pa_nil))))))), ?_⟩
  refine isi_int rfl ⟨true, rfl, ?_⟩
  exact isi_bool rfl ⟨_, rfl, k⟩
def spNumber2 : Sp := fun vs H Q _ => ∃ n : Int, vs = [.int n] ∧ -1000000000 ≤ n ∧ n ≤ 1000000000 ∧ Q (.bl true) H
theorem scNumber2 : FnScope ["thing"] ["thing"] (defScope (top 3)) := ⟨rfl, rfl, rfl, by decide +kernel, rfl, by decide +kernel, by decide +kernel⟩
theorem ok_number2 (D : Known K mg "is_number" 3 ["thing"] f fd) (T : Txt mg) (D1 : Known K mg "is_whole" 2 ["thing"] g gd) (G1 : FnOk P w K mg base CX0 1 g gd ["thing"] spWhole) : FnOk P w K mg base CX0 2 f fd ["thing"] spNumber2 := by
  refine D.F.ok scNumber2 (fun vs H Q E h => ?_) (fun cdv A outer s H vs Q E hr h => ?_)
  · obtain ⟨n, rfl, _⟩ := h
    rfl
  obtain ⟨n, rfl, n1, n2, k⟩ := h
  obtain ⟨tk, great⟩ := T.great
  refine ⟨_, pss_one (ps_ret (pe_and (pe_call G1 hr rfl D1.m D1.F.kp D1.b .nil pass0 (pa_cons (pv 0) pa_nil))
    (pe_one (pe_chain op_le op_le (pe_op op_sub pe_int (pe_glob (v := .int 1000000000) (by rfl) great ⟨tk, rfl⟩)) (pv 0) (pe_glob (v := .int 1000000000) (by rfl) great ⟨tk, rfl⟩))))), ?_⟩
  refine ⟨_, rfl, n, rfl, true, rfl, ?_⟩
  refine ⟨_, _, rfl, rfl, _, rfl, _, _, rfl, rfl, true, ?_, _, _, rfl, rfl, ?_⟩
  · show V.bl (decide (_ ≤ _)) = _
    rw [decide_eq_true (by omega)]
  · show Q (.bl (decide (_ ≤ _))) H
    rw [decide_eq_true (by omega)]
    exact k
def spCount : Sp := fun vs H Q _ => ∃ n : Int, vs = [.int n] ∧ 0 ≤ n ∧ Q (.bl true) H
theorem scCount : FnScope ["thing"] ["thing"] (defScope (top 5)) := ⟨rfl, rfl, rfl, by decide +kernel, rfl, by decide +kernel, by decide +kernel⟩
theorem ok_count (D : Known K mg "is_count" 5 ["thing"] f fd) (T : Txt mg) : FnOk P w K mg base CX0 1 f fd ["thing"] spCount := by
  refine D.F.ok scCount (fun vs H Q E h => ?_) (fun cdv A outer s H vs Q E hr h => ?_)
  · obtain ⟨n, rfl, _⟩ := h
    rfl
  obtain ⟨n, rfl, n1, k⟩ := h
  refine ⟨_, pss_one (ps_ret (pe_and (pe_callB call_isi (by rfl) T.isi (by decide +kernel) (pa_cons (pv 0) (pa_cons (pe_ty (n := "int") (by rfl) T.int (by decide +kernel)) pa_nil)))
    (pe_and (pe_not (pe_callB call_isi (by rfl) T.isi (by decide +kernel) (pa_cons (pv 0) (pa_cons (pe_ty (n := "bool") (by rfl) T.bool (by decide +kernel)) pa_nil))))
    (pe_one (pe_cmpR op_ge (pv 0) pe_int (nomark _)))))), ?_⟩
  refine isi_int rfl ⟨true, rfl, ?_⟩
  refine isi_bool rfl ⟨_, rfl, ?_⟩
  refine ⟨_, rfl, ?_⟩
  refine ⟨_, rfl, _, _, rfl, rfl, ?_⟩
  show Q (.bl (decide (_ ≥ _))) H
  rw [decide_eq_true n1]
  exact k

theorem cb_one {r : List V → Hp → VK → Prop} {te : TE} {σ : L2.St} {H : Hp} {Q : VK} (h : te σ H fun x H1 => r [x] H1 Q) : tCB r (tCons te tNil) σ H Q := h
/-- [test for one in a tuple], the tests told beforehand -/
theorem lc_bls {K : PySem.W.Frag} {H : Hp} {a : Addr} {xs : List V} {bs : List Bool} {te : TE} {i j : Nat} {os : List Nat} {σ : L2.St} {Q : VK} (hA : H a = some (.tup xs)) (len : xs.length = bs.length) (few : bs.length ≤ 64) (h0 : σ[i]? = some (some (.ref a)))
    (hw : ∀ x, wipe ((wipe σ os).set j (some x)) os = wipe σ os)
    (hs : ∀ (k : Nat) (x : V) (b : Bool) (H1 : Hp), xs[k]? = some x → bs[k]? = some b → Same H H1 → ∀ R : VK, (∀ H2, Same H1 H2 → R (.bl b) H2) → te ((wipe σ os).set j (some x)) H1 R)
    (hQ : ∀ D0 H2, Same H H2 → H2 D0 = some (.lst (bs.map V.bl)) → Q (.ref D0) H2) : tLc (iTup K (tVar i)) (gName j) tYes te os σ H Q := by
  refine ⟨_, h0, a, rfl, ⟨_, SqT.of hA⟩, fun D0 hD => ?_⟩
  refine lc_tup (K := K) (a := a) (xs := xs) (fun k H2 => H2 D0 = some (.lst ((bs.take k).map V.bl)) ∧ Same H H2) ?_ (fun k H2 _ ⟨_, s2⟩ => SqT.of (s2 a _ hA)) ?_ ?_
  · exact ⟨upd_same, same_new hD _⟩
  · rintro k x H2 hx ⟨hD2, s2⟩
    have lt : k < bs.length := by
      have z := (List.getElem?_eq_some_iff.mp hx).1
      omega
    have hb := List.getElem?_eq_getElem lt
    refine ⟨hw x, ?_⟩
    refine hs k x _ H2 hx hb s2 _ fun H3 s3 => ?_
    refine ⟨_, s3 _ _ hD2, ?_, ?_, sm_put (Same.trans s2 s3) hD _⟩
    · rw [List.length_map, List.length_take, sizeLine_eq]
      omega
    · rw [upd_same, List.take_add_one, hb, List.map_append]
      rfl
  · rintro H2 ⟨hD2, s2⟩
    rw [len, List.take_length] at hD2
    exact hQ D0 H2 s2 hD2
theorem key_non {o : Option Int} : (decide (keyV o = V.non) = true) ↔ o = none := by
  cases o with
  | none => exact ⟨fun _ => rfl, fun _ => rfl⟩
  | some i => exact ⟨(fun z => nomatch (of_decide_eq_true z)), (fun z => nomatch z)⟩
def spSpot2 : Sp := fun vs H Q _ => ∃ a s, vs = [.ref a] ∧ SpotAt H (.ref a) s ∧ SpotOk s ∧ Q (.bl true) H
theorem scSpot2 : FnScope ["thing"] ["thing"] (defScope (top 6)) := ⟨rfl, rfl, rfl, by decide +kernel, rfl, by decide +kernel, by decide +kernel⟩
theorem ok_spot2 (D : Known K mg "is_spot" 6 ["thing"] f fd) (T : Txt mg) (D1 : Known K mg "is_number" 3 ["thing"] g gd) (G1 : FnOk P w K mg base CX0 2 g gd ["thing"] spNumber2)
    (D2 : Known K mg "is_count" 5 ["thing"] g2 gd2) (G2 : FnOk P w K mg base CX0 1 g2 gd2 ["thing"] spCount) : FnOk P w K mg base CX0 3 f fd ["thing"] spSpot2 := by
  refine D.F.ok scSpot2 (fun vs H Q E h => ?_) (fun cdv A outer s H vs Q E hr h => ?_)
  · obtain ⟨a, s, rfl, _⟩ := h
    rfl
  obtain ⟨a, sp, rfl, ⟨_, e0, hA⟩, ok, k⟩ := h
  cases e0
  have hr1 : Room 1 _ := hr.mono (by decide)
  refine ⟨_, pss_cons (ps_if (PW.pt (pw_or (pt_not (pt_val (pe_callB call_isi (by rfl) T.isi (by decide +kernel) (pa_cons (pv 0) (pa_cons (pe_ty (n := "tuple") (by rfl) T.tuple (by decide +kernel)) pa_nil)))))
      (pw_or1 (pt_cmpR op_ne (pe_callB call_len_seq (by rfl) T.len PySem.boot_len (pa_cons (pv 0) pa_nil)) pe_int (nomark _))))) (pss_one (ps_ret pe_bl)) pss_nil)
    (pss_one (ps_ret (pe_and (pe_or (pe_cmpR op_isN (pe_ix ix_tup (pv 0) pe_int (fun _ _ => rfl)) pe_non (nomark _)) (pe_one (pe_call G1 hr rfl D1.m D1.F.kp D1.b .nil pass0 (pa_cons (pe_ix ix_tup (pv 0) pe_int (fun _ _ => rfl)) pa_nil))))
      (pe_one (pe_call G2 hr1 rfl D2.m D2.F.kp D2.b .nil pass0 (pa_cons (pe_ix ix_tup (pv 0) pe_int (fun _ _ => rfl)) pa_nil)))))), ?_⟩
  refine isi_tup rfl hA ⟨true, rfl, ?_⟩
  refine ⟨_, rfl, a, _, rfl, .inr (SqT.of hA), ?_⟩
  refine ⟨rfl, _, rfl, ?_⟩
  have at0 : atI [keyV sp.1, V.int sp.2] 0 = some (keyV sp.1) := rfl
  have at1 : atI [keyV sp.1, V.int sp.2] 1 = some (V.int sp.2) := rfl
  have tl : (tOp (rIxT K) (tVar 0) (tC (.int 1))) [some (.ref a)] H fun x H1 => ∃ n : Int, [x] = [V.int n] ∧ 0 ≤ n ∧ Q (.bl true) H1 := ⟨_, rfl, a, _, 1, _, rfl, rfl, SqT.of hA, at1, sp.2, rfl, ok.2, k⟩
  refine ⟨_, rfl, a, _, 0, _, rfl, rfl, SqT.of hA, at0, rfl, ?_⟩
  obtain ⟨o, n⟩ := sp
  cases o with
  | none => exact ⟨true, rfl, true, rfl, tl⟩
  | some i => exact ⟨false, rfl, _, rfl, a, _, 0, _, rfl, rfl, SqT.of hA, at0, i, rfl, (ok.1 i rfl).1, (ok.1 i rfl).2, true, rfl, tl⟩
def spPath : Sp := fun vs H Q _ => ∃ a l, vs = [.ref a] ∧ LabAt H (.ref a) l ∧ LabOk l ∧ ∀ H', Same H H' → Q (.bl true) H'
theorem scPath : FnScope ["thing", "one"] ["thing"] (defScope (top 7)) := ⟨rfl, rfl, rfl, by decide +kernel, rfl, by decide +kernel, by decide +kernel⟩
theorem all_true {n : Nat} {bs : List Bool} (h : bs = List.replicate n true) : bs.all id = true := by subst h; simp
theorem ok_path (D : Known K mg "is_path" 7 ["thing"] f fd) (T : Txt mg) (D1 : Known K mg "is_spot" 6 ["thing"] g gd) (G1 : FnOk P w K mg base CX0 3 g gd ["thing"] spSpot2) : FnOk P w K mg base CX0 4 f fd ["thing"] spPath := by
  refine D.F.ok scPath (fun vs H Q E h => ?_) (fun cdv A outer s H vs Q E hr h => ?_)
  · obtain ⟨a, l, rfl, _⟩ := h
    rfl
  obtain ⟨a, l, rfl, ⟨_, vs, e0, hA, sA⟩, ok, k⟩ := h
  cases e0
  refine ⟨_, pss_one (ps_ret (pe_and (pe_callB call_isi (by rfl) T.isi (by decide +kernel) (pa_cons (pv 0) (pa_cons (pe_ty (n := "tuple") (by rfl) T.tuple (by decide +kernel)) pa_nil)))
    (pe_one (pe_callB (cr_all rfl) (by rfl) T.all (by decide +kernel) (pa_cons (pe_lc (own := [("one", 1)]) (g := gName 1) (tt := tYes) rfl scPath.nd (pi_tup (pv 0))
      (blkOk_by (N := ["thing", "one"]) (sc := defScope (top 7)) (by decide +kernel)) (fun _ _ _ _ _ => pg_name (i := 1) scPath.nd rfl (Or.inl rfl)) (fun _ _ _ _ _ => pts_nil)
      (fun _ _ _ _ _ => pe_call G1 hr rfl D1.m D1.F.kp D1.b .nil pass0 (pa_cons (pv 1) pa_nil))) pa_nil))))), ?_⟩
  refine isi_tup rfl hA ⟨true, rfl, ?_⟩
  have len := Paired.len_eq sA
  have few := ok.2.2
  rw [if_pos rfl]
  refine cb_one ?_
  refine lc_bls (i := 0) (j := 1) (os := [1]) (σ := [some (.ref a), none]) (bs := List.replicate l.length true) hA (by rw [List.length_replicate]; exact len) (by rw [List.length_replicate]; omega) rfl (fun _ => rfl) (fun i x b H1 hx hb s1 R hR => ?_) (fun D0 H2 s2 hD => ?_)
  · have e1 : b = true := by
      have z := List.mem_of_getElem? hb
      exact (List.mem_replicate.mp z).2
    subst e1
    have lt : i < l.length := by
      have z := (List.getElem?_eq_some_iff.mp hx).1
      omega
    obtain ⟨sp, hsp, at_⟩ := paired_get sA hx
    obtain ⟨p, rfl, hp⟩ := id at_
    exact ⟨_, rfl, p, sp, rfl, SpotAt.mono (sm_tups s1) at_, ok.2.1 sp (List.mem_of_getElem? hsp), hR H1 (Same.refl _)⟩
  · refine ⟨D0, _, rfl, SqL.of hD, ?_⟩
    rw [all_true rfl]
    exact k H2 s2
def spLabel2 : Sp := fun vs H Q _ => ∃ a l, vs = [.ref a] ∧ LabAt H (.ref a) l ∧ LabOk l ∧ ∀ H', Same H H' → Q (.bl true) H'
theorem scLabel2 : FnScope ["thing"] ["thing"] (defScope (top 8)) := ⟨rfl, rfl, rfl, by decide +kernel, rfl, by decide +kernel, by decide +kernel⟩
theorem ok_label2 (D : Known K mg "is_label" 8 ["thing"] f fd) (T : Txt mg) (D1 : Known K mg "is_path" 7 ["thing"] g gd) (G1 : FnOk P w K mg base CX0 4 g gd ["thing"] spPath) : FnOk P w K mg base CX0 5 f fd ["thing"] spLabel2 := by
  refine D.F.ok scLabel2 (fun vs H Q E h => ?_) (fun cdv A outer s H vs Q E hr h => ?_)
  · obtain ⟨a, l, rfl, _⟩ := h
    rfl
  obtain ⟨a, l, rfl, lab, ok, k⟩ := h
  refine ⟨_, pss_one (ps_ret (pe_and (pe_call G1 hr rfl D1.m D1.F.kp D1.b .nil pass0 (pa_cons (pv 0) pa_nil))
    (pe_one (pe_cmpR op_gt (pe_callB call_len_seq (by rfl) T.len PySem.boot_len (pa_cons (pv 0) pa_nil)) pe_int (nomark _))))), ?_⟩
  refine ⟨_, rfl, a, l, rfl, lab, ok, fun H1 s1 => ⟨true, rfl, ?_⟩⟩
  obtain ⟨_, vs, e0, hA, sA⟩ := lab
  cases e0
  refine ⟨_, rfl, a, vs, rfl, .inr (SqT.of (s1 _ _ hA)), _, _, rfl, rfl, ?_⟩
  show Q (.bl (decide (_ > _))) H1
  have len := Paired.len_eq sA
  have pos := List.length_pos_iff.mpr ok.1
  rw [decide_eq_true (by omega)]
  exact k H1 s1
end
end K42
namespace K42
open PySem PySem.Spec PyProof.Rows L2
/-! ### places_in, is_common, goes_on -/
/-- the place of each label -/
def plOf (row : List Lab) : List (Lab × Int) := row.zipIdx.map fun p => (p.1, (p.2 : Int))
theorem plOf_keys (row : List Lab) : (plOf row).map (·.1) = row := by
  unfold plOf
  rw [List.map_map]
  exact List.zipIdx_map_fst 0 row
theorem plOf_take (row : List Lab) (i : Nat) {l : Lab} (h : row[i]? = some l) : plOf (row.take (i + 1)) = plOf (row.take i) ++ [(l, (i : Int))] := by
  unfold plOf
  rw [List.take_add_one, h]
  show List.map _ ((row.take i ++ [l]).zipIdx) = _
  rw [List.zipIdx_append, List.map_append]
  have lt := (List.getElem?_eq_some_iff.mp h).1
  have e : 0 + (row.take i).length = i := by rw [List.length_take]; omega
  rw [e]
  rfl
theorem plOf_get (row : List Lab) {i : Nat} {l : Lab} (h : row[i]? = some l) : (plOf row)[i]? = some (l, (i : Int)) := by
  unfold plOf
  rw [List.getElem?_map, List.getElem?_zipIdx, h]
  simp
theorem plOf_look {row : List Lab} (nd : row.Nodup) {l : Lab} (h : l ∈ row) : rkLook (plOf row) l = some ((row.idxOf l : Nat) : Int) := by
  have lt := List.idxOf_lt_length_iff.mpr h
  have e : row[row.idxOf l]? = some l := by rw [List.getElem?_eq_getElem lt, List.getElem_idxOf lt]
  exact rkLook_at (p := (l, ((row.idxOf l : Nat) : Int))) (by rw [plOf_keys]; exact nd) (plOf_get row e)
/-- a dict of places -/
def PlAt (P : Program) (w : World) (H : Hp) (d : Addr) (row : List Lab) : Prop := ∃ kvs, RkAt P w H d kvs (plOf row)
section
variable {P : Program} {w : World} {K : PySem.W.Frag} {mg : Str → Option Value} {base : Heap} {f g g1 g2 g3 : Addr} {fd gd gd1 gd2 gd3 : FuncData}
theorem PlAt.same {H H' : Hp} {d : Addr} {row : List Lab} (h : PlAt P w H d row) (s : Same H H') : PlAt P w H' d row := let ⟨kvs, r⟩ := h; ⟨kvs, r.same s⟩
theorem PlAt.get {H : Hp} {d : Addr} {row : List Lab} (h : PlAt P w H d row) (nd : row.Nodup) : ∃ kvs, DAt P w H d kvs ∧ (∀ l ∈ row, getL kvs l = some (.int ((row.idxOf l : Nat) : Int))) ∧ ∀ l, (getL kvs l).isSome = decide (l ∈ row) := by
  obtain ⟨kvs, r⟩ := h
  refine ⟨kvs, ⟨.inl r.at_, r.keys⟩, fun l hl => by rw [rk_get r.rel, plOf_look nd hl]; rfl, fun l => ?_⟩
  by_cases c : l ∈ row
  · rw [rk_get r.rel, plOf_look nd c, decide_eq_true c]
    rfl
  · rw [rk_get r.rel, rkLook_none (by rw [plOf_keys]; exact c), decide_eq_false c]
    rfl
def spPlaces (P : Program) (w : World) : Sp := fun vs H Q _ => ∃ a row, vs = [.ref a] ∧ TsAt H a row ∧ row.Nodup ∧ row.length ≤ 20 ∧ ∀ d H', H d = none → PlAt P w H' d row → Same H H' → Q (.ref d) H'
theorem scPlaces : FnScope ["row", "places", "k"] ["row"] (defScope (top 10)) := ⟨rfl, rfl, rfl, by decide +kernel, rfl, by decide +kernel, by decide +kernel⟩
theorem ok_places (D : Known K mg "places_in" 10 ["row"] f fd) (T : Txt mg) : FnOk P w K mg base CX0 1 f fd ["row"] (spPlaces P w) := by
  refine D.F.ok scPlaces (fun vs H Q E h => ?_) (fun cdv A outer s H vs Q E hr h => ?_)
  · obtain ⟨a, row, rfl, _⟩ := h
    rfl
  obtain ⟨a, row, rfl, ⟨va, ha, la⟩, nd, l20, k⟩ := h
  have hu := hr.units
  refine ⟨_, pss_cons (ps_set (i := 1) scPlaces.nd rfl (Or.inl rfl) pe_newLD)
    (pss_cons (ps_for PassesOwn.never rfl (pi_range1 rfl T.range (pa_cons (pe_callB call_len_seq (by rfl) T.len PySem.boot_len (pa_cons (pv 0) pa_nil)) pa_nil)) (pg_name (i := 2) scPlaces.nd rfl (Or.inl rfl))
      (pss_one (ps_asg (pv 2) (pg_sub (pv 1) (pe_ix ix_tup (pv 0) (pv 2) (fun _ _ => rfl)) (set_ld hu)))))
    (pss_one (ps_ret (pv 1)))), ?_⟩
  intro d hd
  have nad : a ≠ d := ne_of_none ha hd
  have len := Paired.len_eq la
  refine ⟨_, rfl, a, va, rfl, .inr (SqT.of (by rw [upd_ne nad]; exact ha)), _, rfl, by omega, by omega, for_range (lo := 0) (n := va.length) (fun i σ H' => ∃ (kvs : LKV) (y : Option V), σ = [some (.ref a), some (.ref d), y] ∧ RkAt P w H' d kvs (plOf (row.take i)) ∧ Same H H') ?_ ?_ ?_⟩
  · exact ⟨[], none, rfl, ⟨upd_same, (fun p z => nomatch z), .nil⟩, same_new hd _⟩
  · rintro i σ H' hi ⟨kvs, y, rfl, rk, sm⟩
    have at_ := List.getElem?_eq_getElem hi
    obtain ⟨l, hl, lab0⟩ := labs_get la at_
    have lab := lab0.mono (sm_tups sm)
    obtain ⟨bl, vl, ebl, _⟩ := id lab
    rw [ebl] at lab at_
    have nl : l ∉ row.take i := fun z => by
      have nd2 : (row.take (i + 1)).Nodup := (List.take_sublist _ _).nodup nd
      rw [List.take_add_one, hl] at nd2
      exact (List.nodup_append.mp nd2).2.2 l z l (List.mem_singleton.mpr rfl) rfl
    have lenk : kvs.length ≤ 20 := by
      have z := congrArg List.length (plOf_keys (row.take i))
      rw [List.length_map, List.length_take] at z
      have := Paired.len_eq rk.rel
      omega
    refine ⟨_, rfl, _, rfl, _, rfl, _, rfl, a, va, _, _, rfl, rfl, SqT.of (sm a _ ha), by rw [Int.zero_add]; exact atI_nat at_, d, bl, l, kvs, rfl, rfl, rk.at_, rk.keys, lab, ?_, by rw [sizeLine_eq]; omega, ?_⟩
    · rw [rk_get rk.rel, rkLook_none (by rw [plOf_keys]; exact nl)]; rfl
    · have t4 : Tups H' (upd H' d (LDict P w d (kvs ++ [(l, bl, .int (0 + (i : Int)))]))) := Tups.put rk.at_ (fun _ z => nomatch z)
      refine ⟨_, _, rfl, ⟨upd_same, fun p hp => ?_, ?_⟩, sm_put sm hd _⟩
      · rcases List.mem_append.mp hp with z | z
        · exact (rk.keys p z).mono t4
        · cases List.mem_singleton.mp z; exact lab.mono t4
      · rw [plOf_take row i hl]
        exact Paired.snoc rk.rel ⟨rfl, by rw [Int.zero_add]⟩
  · rintro σ H' ⟨kvs, y, rfl, rk, sm⟩
    rw [len, List.take_length] at rk
    exact ⟨_, rfl, k d H' hd ⟨kvs, rk⟩ sm⟩
theorem tt_val {te : TE} {σ : L2.St} {H : Hp} {R : Bool → Hp → Prop} (h : te σ H fun x H1 => ∃ c, x = .bl c ∧ R (!c) H1) : (if (!true) = true then R true H else tNot (tB te) σ H R) := by
  rw [if_neg (by decide)]
  exact h
theorem ite_not {A B : Prop} (h : B) : (if (!true) = true then A else B) := h
theorem nx_ret {te : TE} {D : Ends} {rt : VK} {σ : L2.St} {H : Hp} (h : te σ H D.rt) : tNext { nx := tRet te D, rt := rt } σ H := h
def comB (old new : List Lab) (l : Lab) : Bool := decide (l ∈ old) && decide (l ∈ new)
def spCommon (P : Program) (w : World) : Sp := fun vs H Q _ => ∃ a d e ls old new, vs = [.ref a, .ref d, .ref e] ∧ TsAt H a ls ∧ PlAt P w H d old ∧ PlAt P w H e new ∧ old.Nodup ∧ new.Nodup ∧ (∀ l ∈ ls, LabOk l) ∧ ls.length ≤ 20 ∧ ∀ H', Same H H' → Q (.bl (ls.all (comB old new))) H'
abbrev nCom : List Str := ["thing", "old", "new", "label"]
theorem scCom : FnScope nCom ["thing", "old", "new"] (defScope (top 11)) := ⟨rfl, rfl, rfl, by decide +kernel, rfl, by decide +kernel, by decide +kernel⟩
theorem ok_common (D : Known K mg "is_common" 11 ["thing", "old", "new"] f fd) (T : Txt mg) (D1 : Known K mg "is_label" 8 ["thing"] g gd) (G1 : FnOk P w K mg base CX0 5 g gd ["thing"] spLabel2) : FnOk P w K mg base CX0 6 f fd ["thing", "old", "new"] (spCommon P w) := by
  refine D.F.ok scCom (fun vs H Q E h => ?_) (fun cdv A outer s H vs Q E hr h => ?_)
  · obtain ⟨a, d, e, ls, old, new, rfl, _⟩ := h
    rfl
  obtain ⟨a, d, e, ls, old, new, rfl, ⟨va, hA, lA⟩, hd, he, ndo, ndn, ok, l20, k⟩ := h
  have hu := hr.units
  refine ⟨_, pss_cons (ps_if (PW.pt (pw_or (pt_not (pt_val (pe_callB call_isi (by rfl) T.isi (by decide +kernel) (pa_cons (pv 0) (pa_cons (pe_ty (n := "tuple") (by rfl) T.tuple (by decide +kernel)) pa_nil)))))
      (pw_or1 (pt_not (pt_val (pe_callB (cr_all rfl) (by rfl) T.all (by decide +kernel) (pa_cons (pe_lc (own := [("label", 3)]) (g := gName 3) (tt := tYes) (te := tCall spLabel2 [] E0 (tCons (tVar 3) tNil)) rfl scCom.nd (pi_tup (pv 0))
        (blkOk_by (N := nCom) (sc := defScope (top 11)) (by decide +kernel)) (fun _ _ _ _ _ => pg_name (i := 3) scCom.nd rfl (Or.inl rfl)) (fun _ _ _ _ _ => pts_nil)
        (fun _ _ _ _ _ => pe_call G1 hr rfl D1.m D1.F.kp D1.b .nil pass0 (pa_cons (pv 3) pa_nil))) pa_nil))))))) (pss_one (ps_ret pe_bl)) pss_nil)
    (pss_one (ps_ret (pe_callB (cr_all rfl) (by rfl) T.all (by decide +kernel) (pa_cons (pe_lc (own := [("label", 3)]) (g := gName 3) (tt := tYes) (te := tAndV (tOp (rInLD P w) (tVar 3) (tVar 1)) (tOp (rInLD P w) (tVar 3) (tVar 2))) rfl scCom.nd (pi_tup (pv 0))
        (blkOk_by (N := nCom) (sc := defScope (top 11)) (by decide +kernel)) (fun _ _ _ _ _ => pg_name (i := 3) scCom.nd rfl (Or.inl rfl)) (fun _ _ _ _ _ => pts_nil)
        (fun _ _ _ _ _ => pe_and (pe_cmpR (op_inLD hu) (pv 3) (pv 1) (by rfl)) (pe_one (pe_cmpR (op_inLD hu) (pv 3) (pv 2) (by rfl))))) pa_nil)))), ?_⟩
  refine isi_tup rfl hA ⟨true, rfl, ?_⟩
  have len := Paired.len_eq lA
  refine tt_val (cb_one ?_)
  refine lc_bls (i := 0) (j := 3) (os := [3]) (σ := [some (.ref a), some (.ref d), some (.ref e), none]) (bs := List.replicate ls.length true) hA (by rw [List.length_replicate]; exact len) (by rw [List.length_replicate]; omega) rfl (fun _ => rfl) (fun i x b H1 hx hb s1 R hR => ?_) (fun D0 H2 s2 hD => ?_)
  · have e1 : b = true := (List.mem_replicate.mp (List.mem_of_getElem? hb)).2
    subst e1
    obtain ⟨l, hl, lab⟩ := labs_get lA hx
    obtain ⟨p, vs, rfl, hp⟩ := id lab
    exact ⟨_, rfl, p, l, rfl, lab.mono (sm_tups s1), ok l (List.mem_of_getElem? hl), hR⟩
  refine ⟨D0, _, rfl, SqL.of hD, ?_⟩
  rw [all_true rfl]
  refine ⟨true, rfl, ?_⟩
  refine ite_not (nx_ret (cb_one ?_))
  refine lc_bls (i := 0) (j := 3) (os := [3]) (σ := [some (.ref a), some (.ref d), some (.ref e), none]) (bs := ls.map (comB old new)) (s2 _ _ hA) (by rw [List.length_map]; exact len) (by rw [List.length_map]; omega) rfl (fun _ => rfl) (fun i x b H1 hx hb s1 R hR => ?_) (fun D1 H3 s3 hD1 => ?_)
  · obtain ⟨l, hl, lab⟩ := labs_get lA hx
    obtain ⟨p, vs, rfl, hp⟩ := id lab
    have s21 := Same.trans s2 s1
    rw [List.getElem?_map, hl] at hb
    cases hb
    obtain ⟨kvs, dat, _, is⟩ := (PlAt.same hd s21).get ndo
    obtain ⟨kvs2, dat2, _, is2⟩ := (PlAt.same he s21).get ndn
    have lab1 := lab.mono (sm_tups s21)
    refine ⟨_, rfl, _, rfl, d, p, l, kvs, rfl, rfl, dat, lab1, _, rfl, ?_⟩
    rw [is l]
    unfold comB at hR
    by_cases c : l ∈ old
    · rw [decide_eq_true c] at hR ⊢
      refine ⟨_, rfl, _, rfl, e, p, l, kvs2, rfl, rfl, dat2, lab1, ?_⟩
      rw [is2 l]
      exact hR H1 (Same.refl _)
    · rw [decide_eq_false c] at hR ⊢
      exact hR H1 (Same.refl _)
  refine ⟨D1, _, rfl, SqL.of hD1, ?_⟩
  have e1 : (ls.map (comB old new)).all id = ls.all (comB old new) := by rw [List.all_map]; rfl
  rw [e1]
  exact k H3 (Same.trans s2 s3)
abbrev nGo : List Str := ["labels", "old", "new", "falls", "k", "one", "other"]
def spGoes (P : Program) (w : World) : Sp := fun vs H Q _ => ∃ a d e b ls old new, vs = [.ref a, .ref d, .ref e, .bl b] ∧ TsAt H a ls ∧ PlAt P w H d old ∧ PlAt P w H e new ∧ old.Nodup ∧ new.Nodup ∧ (∀ l ∈ ls, l ∈ old ∧ l ∈ new) ∧ ls.length ≤ 20 ∧ ∀ r H', Same H H' → (r = true ↔ Goes old new b ls) → Q (.bl r) H'
theorem scGo : FnScope nGo ["labels", "old", "new", "falls"] (defScope (top 12)) := ⟨rfl, rfl, rfl, by decide +kernel, rfl, by decide +kernel, by decide +kernel⟩
theorem ok_goes (D : Known K mg "goes_on" 12 ["labels", "old", "new", "falls"] f fd) (T : Txt mg) : FnOk P w K mg base CX0 1 f fd ["labels", "old", "new", "falls"] (spGoes P w) := by
  refine D.F.ok scGo (fun vs H Q E h => ?_) (fun cdv A outer s H vs Q E hr h => ?_)
  · obtain ⟨a, d, e, b, ls, old, new, rfl, _⟩ := h
    rfl
  obtain ⟨a, d, e, b, ls, old, new, rfl, ⟨va, hA, lA⟩, hd, he, ndo, ndn, mem, l20, k⟩ := h
  have hu := hr.units
  refine ⟨_, pss_cons (ps_for PassesOwn.never rfl (pi_range2 rfl T.range (pa_cons pe_int (pa_cons (pe_callB call_len_seq (by rfl) T.len PySem.boot_len (pa_cons (pv 0) pa_nil)) pa_nil))) (pg_name (i := 4) scGo.nd rfl (Or.inl rfl))
      (pss_cons (ps_par (i := 5) (j := 6) rfl scGo.nd rfl rfl (by decide) rfl rfl (pa_cons (pe_ix ix_tup (pv 0) (pe_op op_sub (pv 4) pe_int) (fun _ _ => rfl)) (pa_cons (pe_ix ix_tup (pv 0) (pv 4) (fun _ _ => rfl)) pa_nil)) (by rfl))
      (pss_one (ps_if (PW.pt (pw_or (pt_cmpR op_ge (pe_ix (ix_ld hu) (pv 1) (pv 5) (fun _ _ => rfl)) (pe_ix (ix_ld hu) (pv 1) (pv 6) (fun _ _ => rfl)) (nomark _))
        (pw_or (pt_cmpR op_eq (pe_ix (ix_ld hu) (pv 2) (pv 5) (fun _ _ => rfl)) (pe_ix (ix_ld hu) (pv 2) (pv 6) (fun _ _ => rfl)) (nomark _))
        (pw_or1 (pt_cmpR op_ne (pe_cmpR op_gt (pe_ix (ix_ld hu) (pv 2) (pv 5) (fun _ _ => rfl)) (pe_ix (ix_ld hu) (pv 2) (pv 6) (fun _ _ => rfl)) (nomark _)) (pv 3) (nomark _))))))
        (pss_one (ps_ret pe_bl)) pss_nil))))
    (pss_one (ps_ret pe_bl)), ?_⟩
  have len := Paired.len_eq lA
  refine ⟨_, rfl, a, va, rfl, .inr (SqT.of hA), 1, _, rfl, ⟨by omega, by omega, by omega, by omega⟩, ?_⟩
  refine for_range (lo := 1) (n := (((va.length : Nat) : Int) - 1).toNat) (fun i σ H' => ∃ (x y z : Option V), σ = [some (.ref a), some (.ref d), some (.ref e), some (.bl b), x, y, z] ∧ (∀ (j : Nat) (p q : Lab), j < i → ls[j]? = some p → ls[j + 1]? = some q → Adj old new b p q) ∧ H' = H) ?_ ?_ ?_
  · exact ⟨none, none, none, rfl, (fun j p q lt => absurd lt (Nat.not_lt_zero _)), rfl⟩
  · rintro i σ H' hi ⟨x, y, z, rfl, done, rfl⟩
    have lt0 : i < va.length := by omega
    have lt1 : i + 1 < va.length := by omega
    have at0 := List.getElem?_eq_getElem lt0
    have at1 := List.getElem?_eq_getElem lt1
    obtain ⟨l0, hl0, lab0⟩ := labs_get lA at0
    obtain ⟨l1, hl1, lab1⟩ := labs_get lA at1
    obtain ⟨b0, v0, e0, _⟩ := id lab0
    obtain ⟨b1, v1, e1, _⟩ := id lab1
    rw [e0] at lab0 at0
    rw [e1] at lab1 at1
    have m0 := mem l0 (List.mem_of_getElem? hl0)
    have m1 := mem l1 (List.mem_of_getElem? hl1)
    obtain ⟨kvs, dat, g, _⟩ := hd.get ndo
    obtain ⟨kvs2, dat2, g2, _⟩ := he.get ndn
    have i0 : atI va (1 + (i : Int) - 1) = some (.ref b0) := by rw [show 1 + (i : Int) - 1 = (i : Int) by omega]; exact atI_nat at0
    have i1 : atI va (1 + (i : Int)) = some (.ref b1) := by rw [show 1 + (i : Int) = ((i + 1 : Nat) : Int) by omega]; exact atI_nat at1
    have no : ¬ Adj old new b l0 l1 → Q (.bl false) H' := fun n => k false H' (Same.refl _) ⟨(fun z => nomatch z), fun G => absurd (G i l0 l1 hl0 hl1) n⟩
    have ix : ∀ (k : LKV) (row : List Lab) (D0 br : Addr) (l : Lab) (R : VK), DAt P w H' D0 k → LabAt H' (.ref br) l → getL k l = some (.int ((row.idxOf l : Nat) : Int)) → R (.int ((row.idxOf l : Nat) : Int)) H' → rIxLD P w (.ref D0) (.ref br) H' R := fun k row D0 br l R h1 h2 h3 h4 => ⟨D0, br, l, k, _, rfl, rfl, h1, h2, h3, h4⟩
    refine ⟨_, rfl, _, rfl, _, _, rfl, rfl, a, va, _, _, rfl, rfl, SqT.of hA, i0, _, rfl, _, rfl, a, va, _, _, rfl, rfl, SqT.of hA, i1, _, _, rfl, ?_⟩
    -- the old row
    refine ⟨_, rfl, _, rfl, ix _ old d b0 l0 _ dat lab0 (g l0 m0.1) ⟨_, rfl, _, rfl, ix _ old d b1 l1 _ dat lab1 (g l1 m1.1) ⟨_, _, rfl, rfl, _, rfl, ?_⟩⟩⟩
    refine ite2 (fun c => ?_) (fun c => ?_)
    · refine no fun A => ?_
      have := A.1
      rw [decide_eq_true_eq] at c
      omega
    have c1 : old.idxOf l0 < old.idxOf l1 := by
      rw [decide_eq_true_eq] at c
      omega
    -- the new row
    refine ⟨_, rfl, _, rfl, ix _ new e b0 l0 _ dat2 lab0 (g2 l0 m0.2) ⟨_, rfl, _, rfl, ix _ new e b1 l1 _ dat2 lab1 (g2 l1 m1.2) ⟨rfl, _, rfl, ?_⟩⟩⟩
    refine ite2 (fun c2 => ?_) (fun c2 => ?_)
    · refine no fun A => A.2.1 ?_
      have z := of_decide_eq_true c2
      injection z with z
      omega
    have c3 : new.idxOf l0 ≠ new.idxOf l1 := fun z => c2 (decide_eq_true (by rw [z]))
    refine ⟨_, rfl, _, rfl, ix _ new e b0 l0 _ dat2 lab0 (g2 l0 m0.2) ⟨_, rfl, _, rfl, ix _ new e b1 l1 _ dat2 lab1 (g2 l1 m1.2) ⟨_, _, rfl, rfl, _, rfl, rfl, _, rfl, ?_⟩⟩⟩
    have e4 : decide (((new.idxOf l0 : Nat) : Int) > ((new.idxOf l1 : Nat) : Int)) = decide (new.idxOf l1 < new.idxOf l0) := by
      rw [decide_eq_decide]
      omega
    refine ite2 (fun c4 => ?_) (fun c4 => ?_)
    · refine no fun A => ?_
      have z := A.2.2
      have c5 : (!decide (V.bl (decide (new.idxOf l1 < new.idxOf l0)) = V.bl b)) = true := by rw [← e4]; exact c4
      rw [z] at c5
      simp at c5
    · refine ⟨_, _, _, rfl, fun j p q lt hp hq => ?_, rfl⟩
      rcases Nat.lt_or_ge j i with z | z
      · exact done j p q z hp hq
      · cases (show j = i by omega)
        rw [hl0] at hp
        rw [hl1] at hq
        cases hp
        cases hq
        refine ⟨c1, c3, ?_⟩
        have c5 : ¬(!decide (V.bl (decide (new.idxOf l1 < new.idxOf l0)) = V.bl b)) = true := by rw [← e4]; exact c4
        have c6 : V.bl (decide (new.idxOf l1 < new.idxOf l0)) = V.bl b := by
          by_cases q : V.bl (decide (new.idxOf l1 < new.idxOf l0)) = V.bl b
          · exact q
          · exact absurd (by rw [decide_eq_false q]; rfl) c5
        injection c6
  · rintro σ H' ⟨x, y, z, rfl, done, rfl⟩
    refine k true H' (Same.refl _) ⟨fun _ j p q hp hq => done j p q ?_ hp hq, fun _ => rfl⟩
    have := (List.getElem?_eq_some_iff.mp hq).1
    omega
end
end K42
namespace K42
open PySem PySem.Spec PyProof.Rows L2
/-! ### lets_row -/
section
variable {P : Program} {w : World} {K : PySem.W.Frag} {mg : Str → Option Value} {base : Heap} {f g g1 g2 g3 : Addr} {fd gd gd1 gd2 gd3 : FuncData}
theorem paired_flat {H : Hp} : ∀ {vs : List V} {fs : List (List Lab)} {i : Nat} {v : V}, Paired (FV H) vs fs → vs[i]? = some v → ∃ r f zs, v = .ref r ∧ fs[i]? = some f ∧ H r = some (.tup zs) ∧ Labs H zs f := fun {vs fs i v} p h => by
  obtain ⟨f, hf, r, e, zs, hz, lz⟩ := paired_get p h
  exact ⟨r, f, zs, e, hf, hz, lz⟩
theorem all_com {old new ls : List Lab} : ls.all (comB old new) = true ↔ ∀ l ∈ ls, l ∈ old ∧ l ∈ new := by
  rw [List.all_eq_true]
  unfold comB
  simp only [Bool.and_eq_true, decide_eq_true_eq]
theorem take_flat {falls : List (List Lab)} {i : Nat} {f : List Lab} (h : falls[i]? = some f) : (falls.take (i + 1)).flatten = (falls.take i).flatten ++ f := by
  rw [List.take_add_one, h]
  show (falls.take i ++ [f]).flatten = _
  rw [List.flatten_append]
  simp
theorem flat_take_le (falls : List (List Lab)) (i : Nat) : (falls.take i).flatten.length ≤ falls.flatten.length := by
  have e : falls.flatten = (falls.take i).flatten ++ (falls.drop i).flatten := by rw [← List.flatten_append, List.take_append_drop]
  rw [e, List.length_append]
  omega
abbrev nLets : List Str := ["old", "new", "paper", "at_old", "at_new", "stays", "falls", "seen", "fall", "label"]
def spLets (P : Program) (w : World) : Sp := fun vs H Q _ => ∃ a b p q1 q2 old new stays falls, vs = [.ref a, .ref b, .ref p] ∧ TsAt H a old ∧ TsAt H b new ∧ H p = some (.tup [.ref q1, .ref q2]) ∧ TsAt H q1 stays ∧ FsAt H q2 falls ∧ old.Nodup ∧ new.Nodup ∧
  old.length ≤ 20 ∧ new.length ≤ 20 ∧ (∀ l ∈ stays, LabOk l) ∧ (∀ f ∈ falls, ∀ l ∈ f, LabOk l) ∧ stays.length ≤ 20 ∧ falls.length ≤ 20 ∧ falls.flatten.length ≤ 20 ∧ ∀ r H', Same H H' → (r = true ↔ Lets old new stays falls) → Q (.bl r) H'
theorem scLets : FnScope nLets ["old", "new", "paper"] (defScope (top 13)) := ⟨rfl, rfl, rfl, by decide +kernel, rfl, by decide +kernel, by decide +kernel⟩
theorem ok_lets (D : Known K mg "lets_row" 13 ["old", "new", "paper"] f fd) (T : Txt mg) (D1 : Known K mg "places_in" 10 ["row"] g1 gd1) (G1 : FnOk P w K mg base CX0 1 g1 gd1 ["row"] (spPlaces P w))
    (D2 : Known K mg "is_common" 11 ["thing", "old", "new"] g2 gd2) (G2 : FnOk P w K mg base CX0 6 g2 gd2 ["thing", "old", "new"] (spCommon P w))
    (D3 : Known K mg "goes_on" 12 ["labels", "old", "new", "falls"] g3 gd3) (G3 : FnOk P w K mg base CX0 1 g3 gd3 ["labels", "old", "new", "falls"] (spGoes P w)) :
    FnOk P w K mg base CX0 7 f fd ["old", "new", "paper"] (spLets P w) := by
  refine D.F.ok scLets (fun vs H Q E h => ?_) (fun cdv A outer s H vs Q E hr h => ?_)
  · obtain ⟨a, b, p, q1, q2, old, new, stays, falls, rfl, _⟩ := h
    rfl
  obtain ⟨a, b, p, q1, q2, old, new, stays, falls, rfl, hA, hB, hp, hS, ⟨vF, hF, lF⟩, ndo, ndn, o20, n20, okS, okF, s20, f20, fl20, k⟩ := h
  have hu := hr.units
  have hr1 : Room 1 _ := hr.mono (by decide)
  refine ⟨_, pss_cons (ps_if (PW.pt (pw_or (pt_not (pt_val (pe_callB call_isi (by rfl) T.isi (by decide +kernel) (pa_cons (pv 2) (pa_cons (pe_ty (n := "tuple") (by rfl) T.tuple (by decide +kernel)) pa_nil)))))
      (pw_or (pt_cmpR op_ne (pe_callB call_len_seq (by rfl) T.len PySem.boot_len (pa_cons (pv 2) pa_nil)) pe_int (nomark _))
      (pw_or1 (pt_not (pt_val (pe_callB call_isi (by rfl) T.isi (by decide +kernel) (pa_cons (pe_ix ix_tup (pv 2) pe_int (fun _ _ => rfl)) (pa_cons (pe_ty (n := "tuple") (by rfl) T.tuple (by decide +kernel)) pa_nil))))))))) (pss_one (ps_ret pe_bl)) pss_nil)
    (pss_cons (ps_set (i := 3) scLets.nd rfl (Or.inl rfl) (pe_call G1 hr1 rfl D1.m D1.F.kp D1.b .nil pass0 (pa_cons (pv 0) pa_nil)))
    (pss_cons (ps_set (i := 4) scLets.nd rfl (Or.inr rfl) (pe_call G1 hr1 rfl D1.m D1.F.kp D1.b .nil pass0 (pa_cons (pv 1) pa_nil)))
    (pss_cons (ps_asg (pv 2) (pg_tup rfl (pgs_cons (pg_name (i := 5) scLets.nd rfl (Or.inl rfl)) (pgs_cons (pg_name (i := 6) scLets.nd rfl (Or.inl rfl)) pgs_nil))))
    (pss_cons (ps_if (PW.pt (pw_or (pt_not (pt_val (pe_call G2 hr rfl D2.m D2.F.kp D2.b .nil pass0 (pa_cons (pv 5) (pa_cons (pv 3) (pa_cons (pv 4) pa_nil))))))
      (pw_or1 (pt_cmpR op_ne (pe_callB call_len_seq (by rfl) T.len PySem.boot_len (pa_cons (pv 5) pa_nil)) (pe_callB call_len_seq (by rfl) T.len PySem.boot_len (pa_cons (pv 6) pa_nil)) (nomark _))))) (pss_one (ps_ret pe_bl)) pss_nil)
    (pss_cons (ps_if (pt_not (pt_val (pe_call G3 hr1 rfl D3.m D3.F.kp D3.b .nil pass0 (pa_cons (pv 5) (pa_cons (pv 3) (pa_cons (pv 4) (pa_cons pe_bl pa_nil))))))) (pss_one (ps_ret pe_bl)) pss_nil)
    (pss_cons (ps_set (i := 7) scLets.nd rfl (Or.inl rfl) (pe_lst pa_nil))
    (pss_cons (ps_for PassesOwn.never rfl (pi_tup (pv 6)) (pg_name (i := 8) scLets.nd rfl (Or.inl rfl))
      (pss_cons (ps_if (PW.pt (pw_or (pt_not (pt_val (pe_call G2 hr rfl D2.m D2.F.kp D2.b .nil pass0 (pa_cons (pv 8) (pa_cons (pv 3) (pa_cons (pv 4) pa_nil))))))
        (pw_or (pt_cmpR op_eq (pe_callB call_len_seq (by rfl) T.len PySem.boot_len (pa_cons (pv 8) pa_nil)) pe_int (nomark _))
        (pw_or1 (pt_not (pt_val (pe_call G3 hr1 rfl D3.m D3.F.kp D3.b .nil pass0 (pa_cons (pv 8) (pa_cons (pv 3) (pa_cons (pv 4) (pa_cons pe_bl pa_nil))))))))))) (pss_one (ps_ret pe_bl)) pss_nil)
      (pss_one (ps_expr (pe_bm PySem.F.plainAttrs_list PySem.F.slot_list_extend PySem.F.type_list_extend mt_extendT (pv 7) (pa_cons (pv 8) pa_nil))))))
    (pss_one (ps_ret (pe_and (pe_cmpR op_eq (pe_callB call_len_seq (by rfl) T.len PySem.boot_len (pa_cons (pv 7) pa_nil)) (pe_lenSetL (by rfl) T.len (by rfl) T.set hu (pv 7)) (nomark _))
      (pe_one (pe_cmpR op_eq (pe_callB call_len_seq (by rfl) T.len PySem.boot_len (pa_cons (pv 7) pa_nil)) (pe_callB call_len_seq (by rfl) T.len PySem.boot_len (pa_cons
        (pe_lc (own := [("label", 9)]) (g := gName 9) (tt := tTest (tOp (rInLD P w) (tVar 9) (tVar 4))) (te := tVar 9) rfl scLets.nd (pi_tup (pv 0)) (blkOk_by (N := nLets) (sc := defScope (top 13)) (by decide +kernel))
          (fun _ _ _ _ _ => pg_name (i := 9) scLets.nd rfl (Or.inl rfl)) (fun _ _ _ _ _ => pts_one (pt_cmpR (op_inLD hu) (pv 9) (pv 4) (by rfl))) (fun _ _ _ _ _ => pv 9)) pa_nil)) (nomark _))))))))))))), ?_⟩
  obtain ⟨vS, hSt, lS⟩ := id hS
  have no : ∀ H', Same H H' → ¬ Lets old new stays falls → Q (.bl false) H' := fun H' s n => k false H' s ⟨(fun z => nomatch z), fun L => absurd L n⟩
  refine isi_tup rfl hp ⟨true, rfl, ?_⟩
  refine ⟨_, rfl, p, _, rfl, .inr (SqT.of hp), ?_⟩
  refine ⟨rfl, _, rfl, ?_⟩
  refine ⟨_, rfl, p, _, 1, _, rfl, rfl, SqT.of hp, rfl, _, _, _, _, _, rfl, .ty _, .base (.tup hF), kit_ty (by decide +kernel), true, rfl, ?_⟩
  refine ⟨_, rfl, a, old, rfl, hA, ndo, o20, fun d H1 hd pl1 s1 => ?_⟩
  refine ⟨_, rfl, b, new, rfl, hB.mono (sm_tups s1), ndn, n20, fun e H2 he pl2 s2 => ?_⟩
  have s12 := Same.trans s1 s2
  refine ⟨_, rfl, p, _, rfl, SqT.of (s12 _ _ hp), rfl, ?_⟩
  refine ⟨_, _, rfl, _, _, rfl, rfl, ?_⟩
  -- the stays
  refine ⟨_, rfl, _, rfl, _, rfl, q1, d, e, stays, old, new, rfl, hS.mono (sm_tups s12), pl1.same s2, pl2, ndo, ndn, okS, s20, fun H3 s3 => ⟨_, rfl, ?_⟩⟩
  have s13 := Same.trans s12 s3
  refine ite2 (fun c => ?_) (fun c => ?_)
  · refine no H3 s13 fun L => ?_
    rw [all_com.mpr L.here] at c
    cases c
  have memS : ∀ l ∈ stays, l ∈ old ∧ l ∈ new := all_com.mp (by simpa using c)
  refine ⟨_, rfl, q1, vS, rfl, .inr (SqT.of (s13 _ _ hSt)), _, rfl, q2, vF, rfl, .inr (SqT.of (s13 _ _ hF)), rfl, _, rfl, ?_⟩
  have lenS := Paired.len_eq lS
  have lenF := Paired.len_eq lF
  refine ite2 (fun c2 => ?_) (fun c2 => ?_)
  · refine no H3 s13 fun L => ?_
    have z := L.len
    rw [lenS, lenF, z] at c2
    simp at c2
  have lenE : stays.length = falls.length := by
    rw [lenS, lenF] at c2
    by_cases z : stays.length = falls.length
    · exact z
    · refine absurd (show (!decide (V.int ((stays.length : Nat) : Int) = V.int ((falls.length : Nat) : Int))) = true from ?_) c2
      rw [decide_eq_false fun q => z (by injection q with q; omega)]
      rfl
  refine ⟨_, rfl, _, rfl, _, rfl, q1, d, e, false, stays, old, new, rfl, hS.mono (sm_tups s13), (pl1.same s2).same s3, pl2.same s3, ndo, ndn, memS, s20, fun r H4 s4 hr => ⟨_, rfl, ?_⟩⟩
  have s14 := Same.trans s13 s4
  refine ite2 (fun c3 => ?_) (fun c3 => ?_)
  · refine no H4 s14 fun L => ?_
    rw [hr.mpr L.rise] at c3
    cases c3
  have rise : Goes old new false stays := hr.mp (by simpa using c3)
  -- the falls
  refine ⟨Nat.zero_le _, fun S hSn => ?_⟩
  have fS : H S = none := Same.free s14 hSn
  have hF4 := s14 _ _ hF
  have pl1' := ((pl1.same s2).same s3).same s4
  have pl2' := (pl2.same s3).same s4
  have s5 := same_new hSn (.lst [])
  refine ⟨_, rfl, q2, rfl, ⟨_, SqT.of (s5 _ _ hF4)⟩, for_tup (K := K) (a := q2) (xs := vF) (fun i σ H' => ∃ (vs : List V) (x : Option V), σ = [some (.ref a), some (.ref b), some (.ref p), some (.ref d), some (.ref e), some (.ref q1), some (.ref q2), some (.ref S), x, none] ∧ H' S = some (.lst vs) ∧ Labs H' vs (falls.take i).flatten ∧
    (∀ f ∈ falls.take i, (∀ l ∈ f, l ∈ old ∧ l ∈ new) ∧ f ≠ [] ∧ Goes old new true f) ∧ Same H4 H') ?_ (fun i σ H' _ ⟨_, _, _, _, _, _, s6⟩ => SqT.of (s6 _ _ hF4)) ?_ ?_⟩
  · exact ⟨[], none, rfl, upd_same, .nil, (fun f z => nomatch z), s5⟩
  · rintro i v σ H' hv ⟨vs, x, rfl, hS', lab, done, s6⟩
    obtain ⟨r, f, zs, rfl, hf, hz0, lz0⟩ := paired_flat lF hv
    have s16 := Same.trans s14 s6
    have hz := s16 _ _ hz0
    have lz := labs_mono (sm_tups s16) lz0
    have fm := List.mem_of_getElem? hf
    have few : f.length ≤ 20 := Nat.le_trans (flat_le fm) fl20
    refine ⟨_, rfl, _, rfl, _, rfl, r, d, e, f, old, new, rfl, ⟨zs, hz, lz⟩, pl1'.same s6, pl2'.same s6, ndo, ndn, okF f fm, few, fun H7 s7 => ⟨_, rfl, ?_⟩⟩
    have s17 := Same.trans s16 s7
    refine ite2 (fun c4 => ?_) (fun c4 => ?_)
    · refine no H7 s17 fun L => ?_
      rw [all_com.mpr (L.each f fm).1] at c4
      cases c4
    have memF : ∀ l ∈ f, l ∈ old ∧ l ∈ new := all_com.mp (by simpa using c4)
    refine ⟨_, rfl, r, zs, rfl, .inr (SqT.of (s7 _ _ hz)), rfl, _, rfl, ?_⟩
    have lenz := Paired.len_eq lz
    refine ite2 (fun c5 => ?_) (fun c5 => ?_)
    · refine no H7 s17 fun L => (L.each f fm).2.1 ?_
      have z := of_decide_eq_true c5
      injection z with z
      exact List.length_eq_zero_iff.mp (by omega)
    have ne : f ≠ [] := fun z => by
      refine c5 (decide_eq_true ?_)
      rw [lenz, z]
      rfl
    refine ⟨_, rfl, _, rfl, _, rfl, r, d, e, true, f, old, new, rfl, ⟨zs, s7 _ _ hz, labs_mono (sm_tups s7) lz⟩, (pl1'.same s6).same s7, (pl2'.same s6).same s7, ndo, ndn, memF, few, fun r2 H8 s8 hr2 => ⟨_, rfl, ?_⟩⟩
    have s18 := Same.trans s17 s8
    refine ite2 (fun c6 => ?_) (fun c6 => ?_)
    · refine no H8 s18 fun L => ?_
      rw [hr2.mpr (L.each f fm).2.2] at c6
      cases c6
    have fall : Goes old new true f := hr2.mp (by simpa using c6)
    have s68 := Same.trans s7 s8
    have hS8 := s68 _ _ hS'
    have hz8 := s68 _ _ hz
    have lenv := Paired.len_eq lab
    have z1 := flat_take_le falls (i + 1)
    rw [take_flat hf, List.length_append] at z1
    refine ⟨_, rfl, .inl ⟨rfl, _, SqL.of hS8⟩, _, rfl, S, r, vs, zs, rfl, rfl, hS8, hz8, by rw [sizeLine_eq]; omega, ?_⟩
    have t9 : Tups H8 (upd H8 S (.lst (vs ++ zs))) := Tups.put hS8 (fun _ z => nomatch z)
    have t := (sm_tups s68).trans t9
    refine ⟨_, _, rfl, upd_same, ?_, fun f' hf' => ?_, sm_put (Same.trans s6 s68) hSn _⟩
    · rw [take_flat hf]
      exact paired_app (labs_mono t lab) (labs_mono t lz)
    · rw [List.take_add_one, hf] at hf'
      rcases List.mem_append.mp hf' with z | z
      · exact done f' z
      · rw [List.mem_singleton.mp z]
        exact ⟨memF, ne, fall⟩
  rintro σ H' ⟨vs, x, rfl, hS', lab, done, s6⟩
  rw [lenF, List.take_length] at lab done
  have s16 := Same.trans s14 s6
  have lenv := Paired.len_eq lab
  refine ⟨_, rfl, S, vs, rfl, .inl (SqL.of hS'), _, rfl, S, vs, falls.flatten, rfl, SqL.of hS', lab, by omega, fun n n1 n2 => ?_⟩
  refine ⟨rfl, _, rfl, ?_⟩
  refine ite2 (fun c7 => ?_) (fun c7 => ?_)
  · have nd : falls.flatten.Nodup := by
      have z := of_decide_eq_true c7
      injection z with z
      exact n2.mp (by omega)
    obtain ⟨vA, hA0, lA⟩ := id hA
    have hA' := s16 _ _ hA0
    refine ⟨_, rfl, S, vs, rfl, .inl (SqL.of hS'), _, rfl, a, rfl, ⟨_, SqT.of hA'⟩, fun D0 hD => ?_⟩
    refine lc_tup (K := K) (a := a) (xs := vA) (fun i H2 => ∃ us : List V, H2 D0 = some (.lst us) ∧ us.length = (com (old.take i) new).length ∧ Same H' H2) ?_ (fun i H2 _ ⟨_, _, _, s7⟩ => SqT.of (s7 _ _ hA')) ?_ ?_
    · exact ⟨[], upd_same, rfl, same_new hD _⟩
    · rintro i v H2 hv ⟨us, hus, lus, s7⟩
      obtain ⟨l, hl, lab0⟩ := labs_get lA hv
      have s67 := Same.trans s16 s7
      have labl := lab0.mono (sm_tups s67)
      obtain ⟨bl, vl, rfl, _⟩ := id labl
      obtain ⟨kvs, dat, _, is⟩ := ((pl2'.same s6).same s7).get ndn
      refine ⟨rfl, ?_⟩
      refine ⟨_, rfl, _, rfl, e, bl, l, kvs, rfl, rfl, dat, labl, _, rfl, ?_⟩
      rw [is l]
      refine ite2 (fun c8 => ?_) (fun c8 => ?_)
      · refine ⟨_, rfl, us, hus, ?_, us ++ [.ref bl], upd_same, ?_, sm_put s7 hD _⟩
        · have z : (com (old.take i) new).length ≤ (old.take i).length := List.length_filter_le _ _
          rw [List.length_take] at z
          rw [lus, sizeLine_eq]
          omega
        · rw [com_take old new i hl, if_pos (of_decide_eq_true c8), List.length_append, List.length_append, lus]
          rfl
      · exact ⟨us, hus, by rw [com_take old new i hl, if_neg (fun z => c8 (decide_eq_true z))]; exact lus, s7⟩
    rintro H2 ⟨us, hus, lus, s7⟩
    rw [Paired.len_eq lA, List.take_length] at lus
    refine ⟨D0, us, rfl, .inl (SqL.of hus), rfl, ?_⟩
    refine k _ H2 (Same.trans s16 s7) ⟨fun c8 => ?_, fun L => decide_eq_true ?_⟩
    · have z := of_decide_eq_true c8
      injection z with z
      exact ⟨memS, lenE, rise, done, nd, by omega⟩
    · rw [lenv, lus, L.whole]
  · refine no H' s16 fun L => c7 (decide_eq_true ?_)
    rw [n2.mpr L.uniq, lenv]
end
end K42
namespace K42
open PySem PySem.Spec PyProof.Rows L2
/-! ### _law_right -/
section
variable {P : Program} {w : World} {K : PySem.W.Frag} {mg : Str → Option Value} {base : Heap} {f g g1 g2 g3 : Addr} {fd gd gd1 gd2 gd3 : FuncData}
def plcs (row ls : List Lab) : List Int := ls.map fun l => ((row.idxOf l : Nat) : Int)
/-- [row.index(l) for l in paper[0]], row in slot i -/
theorem lc_idx {K : PySem.W.Frag} {H : Hp} {a p q1 q2 : Addr} {row ls : List Lab} {va vs : List V} {i : Nat} {os : List Nat} {σ : L2.St} {Q : VK} (hA : H a = some (.lst va)) (lA : Labs H va row) (hp : H p = some (.tup [.ref q1, .ref q2])) (hS : H q1 = some (.tup vs)) (lS : Labs H vs ls) (sub : ∀ l ∈ ls, l ∈ row) (few : ls.length ≤ 20)
    (h2 : σ[2]? = some (some (.ref p))) (hi : ∀ x, ((wipe σ os).set 5 (some x))[i]? = some (some (.ref a))) (hx : ∀ x, ((wipe σ os).set 5 (some x))[5]? = some (some x)) (hw : ∀ x, wipe ((wipe σ os).set 5 (some x)) os = wipe σ os)
    (hQ : ∀ D0 H2, H D0 = none → H2 D0 = some (.lst ((plcs row ls).map V.int)) → Same H H2 → Q (.ref D0) H2) :
    tLc (iTup K (tOp (rIxT K) (tVar 2) (tC (.int 0)))) (gName 5) tYes (tIdx K i 5) os σ H Q := by
  refine ⟨_, h2, p, _, 0, _, rfl, rfl, SqT.of hp, rfl, q1, rfl, ⟨_, SqT.of hS⟩, fun D0 hD => ?_⟩
  refine lc_tup (K := K) (a := q1) (xs := vs) (fun j H2 => H2 D0 = some (.lst ((plcs row (ls.take j)).map V.int)) ∧ Same H H2) ?_ (fun j H2 _ ⟨_, s2⟩ => SqT.of (s2 _ _ hS)) ?_ ?_
  · exact ⟨upd_same, same_new hD _⟩
  · rintro j x H2 hx2 ⟨hus, s2⟩
    obtain ⟨l, hl, lab0⟩ := labs_get lS hx2
    have lab := lab0.mono (sm_tups s2)
    have hA2 := s2 a _ hA
    refine ⟨hw _, ?_⟩
    refine ⟨_, hi _, .inl ⟨rfl, _, SqL.of hA2⟩, _, hx _, a, _, l, va, row, rfl, rfl, SqL.of hA2, labs_mono (sm_tups s2) lA, lab, sub l (List.mem_of_getElem? hl), ?_⟩
    refine ⟨_, hus, ?_, ?_, sm_put s2 hD _⟩
    · rw [List.length_map]
      unfold plcs
      rw [List.length_map, List.length_take, sizeLine_eq]
      omega
    · rw [upd_same, List.take_add_one, hl]
      unfold plcs
      rw [List.map_append, List.map_append]
      rfl
  · rintro H2 ⟨hus, s2⟩
    rw [Paired.len_eq lS, List.take_length] at hus
    exact hQ D0 H2 hD hus s2
theorem nx_of {D : Ends} {σ : L2.St} {H : Hp} (h : D.nx σ H) : tNext D σ H := h
theorem plcs_up {row ls : List Lab} (h : ls.Pairwise fun a b => row.idxOf a < row.idxOf b) : (plcs row ls).Pairwise (· < ·) := by
  unfold plcs
  rw [List.pairwise_map]
  exact h.imp fun {a b} lt => by omega
theorem eqv_ints (ns ms : List Int) : PyData.eqv (.list (ns.map .int)) (.list (ms.map .int)) = decide (ns = ms) := by
  simp only [PyData.eqv]
  exact intsD_eqv _ _
abbrev nRight : List Str := ["_law_old", "_law_new", "_law_paper", "_law_places", "_law_others", "_law_label_here"]
def spRight : Sp := fun vs H Q _ => ∃ a b p q1 q2 old new stays falls, vs = [.ref a, .ref b, .ref p] ∧ LsAt H a old ∧ LsAt H b new ∧ H p = some (.tup [.ref q1, .ref q2]) ∧ TsAt H q1 stays ∧ FsAt H q2 falls ∧ TwoRows 8 old new ∧ PaperOk old stays falls ∧ ∀ H', Same H H' → Q (.bl true) H'
theorem scRight : FnScope nRight ["_law_old", "_law_new", "_law_paper"] (defScope (top 27)) := ⟨rfl, rfl, rfl, by decide +kernel, rfl, by decide +kernel, by decide +kernel⟩
theorem ok_right (D : Known K mg "_law_right" 27 ["_law_old", "_law_new", "_law_paper"] f fd) (T : Txt mg) (D1 : Known K mg "lets_row" 13 ["old", "new", "paper"] g1 gd1) (G1 : FnOk P w K mg base CX0 7 g1 gd1 ["old", "new", "paper"] (spLets P w))
    (D2 : Known K mg "_law_longest" 25 ["_law_old", "_law_new"] g2 gd2) (G2 : FnOk P w K mg base CX0 1 g2 gd2 ["_law_old", "_law_new"] (spLongest K)) :
    FnOk P w K mg base CX0 8 f fd ["_law_old", "_law_new", "_law_paper"] spRight := by
  refine D.F.ok scRight (fun vs H Q E h => ?_) (fun cdv A outer s H vs Q E hr h => ?_)
  · obtain ⟨a, b, p, q1, q2, old, new, stays, falls, rfl, _⟩ := h
    rfl
  obtain ⟨a, b, p, q1, q2, old, new, stays, falls, rfl, hA, hB, hp, hS, hF, tr, pok, k⟩ := h
  have hu := hr.units
  have hu5 := room65 hr
  have hr1 : Room 1 _ := hr.mono (by decide)
  refine ⟨_, pss_cons (ps_if (pt_not (pt_val (pe_call G1 hr rfl D1.m D1.F.kp D1.b .nil pass0 (pa_cons (pe_callTy call_tuple_of (by rfl) T.tuple (by decide +kernel) (pa_cons (pv 0) pa_nil)) (pa_cons (pe_callTy call_tuple_of (by rfl) T.tuple (by decide +kernel) (pa_cons (pv 1) pa_nil)) (pa_cons (pv 2) pa_nil)))))) (pss_one (ps_ret pe_bl)) pss_nil)
    (pss_cons (ps_setLc (i := 3) (own := [("_law_label_here", 5)]) (g := gName 5) (tt := tYes) (te := tIdx K 1 5) rfl scRight.nd rfl rfl (sw_true rfl rfl rfl (by decide +kernel)) (pi_tup (pe_ix ix_tup (pv 2) pe_int (fun _ _ => rfl))) (blkOk_by (N := nRight) (sc := defScope (top 27)) (by decide +kernel))
      (fun _ _ _ _ _ => pg_name (i := 5) scRight.nd rfl (Or.inl rfl)) (fun _ _ _ _ _ => pts_nil) (fun _ _ _ _ _ => pe_bm PySem.F.plainAttrs_list PySem.F.slot_list_index PySem.F.type_list_index (mt_indexLs hu5) (pv 1) (pa_cons (pv 5) pa_nil)))
    (pss_cons (ps_setLc (i := 4) (own := [("_law_label_here", 5)]) (g := gName 5) (tt := tYes) (te := tIdx K 0 5) rfl scRight.nd rfl rfl (sw_true rfl rfl rfl (by decide +kernel)) (pi_tup (pe_ix ix_tup (pv 2) pe_int (fun _ _ => rfl))) (blkOk_by (N := nRight) (sc := defScope (top 27)) (by decide +kernel))
      (fun _ _ _ _ _ => pg_name (i := 5) scRight.nd rfl (Or.inl rfl)) (fun _ _ _ _ _ => pts_nil) (fun _ _ _ _ _ => pe_bm PySem.F.plainAttrs_list PySem.F.slot_list_index PySem.F.type_list_index (mt_indexLs hu5) (pv 0) (pa_cons (pv 5) pa_nil)))
    (pss_cons (ps_if (PW.pt (pw_or (pt_cmpR (op_neD hu) (pv 3) (pe_callB cr_sorted (by rfl) T.sorted (by decide +kernel) (pa_cons (pv 3) pa_nil)) (nomark _))
      (pw_or (pt_cmpR (op_neD hu) (pv 4) (pe_callB cr_sorted (by rfl) T.sorted (by decide +kernel) (pa_cons (pv 4) pa_nil)) (nomark _))
      (pw_or1 (pt_cmpR op_ne (L2.pe_lenSetI rfl (by rfl) T.len (by rfl) T.set (pv 3)) (pe_callB call_len_seq (by rfl) T.len PySem.boot_len (pa_cons (pv 3) pa_nil)) (nomark _)))))) (pss_one (ps_ret pe_bl)) pss_nil)
    (pss_one (ps_ret (pe_cmpR op_eq (pe_callB call_len_seq (by rfl) T.len PySem.boot_len (pa_cons (pe_ix ix_tup (pv 2) pe_int (fun _ _ => rfl)) pa_nil)) (pe_call G2 hr1 rfl D2.m D2.F.kp D2.b .nil pass0 (pa_cons (pv 0) (pa_cons (pv 1) pa_nil))) (nomark _))))))), ?_⟩
  obtain ⟨va, ha, la⟩ := id hA
  obtain ⟨vb, hb, lb⟩ := id hB
  have o8 := tr.leno
  have n8 := tr.lenn
  -- the rows as tuples
  refine ⟨_, rfl, a, va, rfl, .inl ⟨SqL.of ha, fun ra hra => ?_⟩⟩
  have s1 := same_new hra (.tup va)
  refine ⟨_, rfl, b, vb, rfl, .inl ⟨SqL.of (s1 _ _ hb), fun rb hrb => ?_⟩⟩
  have s2 := same_new hrb (.tup vb)
  have s12 := Same.trans s1 s2
  have tA : TsAt _ ra old := ⟨va, s2 _ _ upd_same, labs_mono (sm_tups s12) la⟩
  have tB : TsAt _ rb new := ⟨vb, upd_same, labs_mono (sm_tups s12) lb⟩
  refine ⟨_, rfl, ra, rb, p, q1, q2, old, new, stays, falls, rfl, tA, tB, s12 _ _ hp, hS.mono (sm_tups s12), hF.mono (sm_tups s12), tr.ndo, tr.ndn, by omega, by omega, fun l hl => tr.oko l (pok.st l hl), fun f hf l hl => tr.oko l (pok.fl f hf l hl), pok.nst, pok.nfl, pok.all, fun r H3 s3 hr => ⟨_, rfl, ?_⟩⟩
  have s13 := Same.trans s12 s3
  refine ite2 (fun c => ?_) (fun c => ?_)
  · exact k H3 s13
  have L : Lets old new stays falls := hr.mp (by simpa using c)
  obtain ⟨vS, hSt, lS⟩ := id hS
  have rise := lets_rises L
  have upN := plcs_up (rise.imp fun {a b} h => h.2)
  have upO := plcs_up (rise.imp fun {a b} h => h.1)
  have hp3 := s13 _ _ hp
  have hS3 := s13 _ _ hSt
  have lS3 := labs_mono (sm_tups s13) lS
  refine nx_of (st_asg (lc_idx (s13 _ _ hb) (labs_mono (sm_tups s13) lb) hp3 hS3 lS3 (fun l hl => (L.here l hl).2) pok.nst rfl (fun _ => rfl) (fun _ => rfl) (fun _ => rfl) (fun Pn H4 hPn hP4 s4 => ?_)))
  have s14 := Same.trans s13 s4
  refine st_asg (lc_idx (s14 _ _ ha) (labs_mono (sm_tups s14) la) (s14 _ _ hp) (s14 _ _ hSt) (labs_mono (sm_tups s14) lS) (fun l hl => (L.here l hl).1) pok.nst rfl (fun _ => rfl) (fun _ => rfl) (fun _ => rfl) (fun On H5 hOn hO5 s5 => ?_))
  have s15 := Same.trans s14 s5
  have lenN : (plcs new stays).length = stays.length := List.length_map _
  have lenO : (plcs old stays).length = stays.length := List.length_map _
  have n20 := pok.nst
  have hP5 := s5 _ _ hP4
  generalize plcs new stays = ns at upN lenN hP5
  generalize plcs old stays = os at upO lenO hO5
  -- sorted
  refine ⟨_, rfl, _, rfl, Pn, ns, rfl, SqL.of hP5, by omega, fun ms r pm up hr => ?_⟩
  have e1 : ns = ms := (sorted_one pm up).mpr (upN.imp fun {a b} h => Int.le_of_lt h)
  subst e1
  have s6 := same_new hr (.lst (ns.map V.int))
  refine ⟨.list (ns.map .int), .list (ns.map .int), .lst (SqL.of (s6 _ _ hP5)) (ints_dp _), .lst (SqL.of upd_same) (ints_dp _), intsD_shaped _, intsD_shaped _, _, rfl, ?_⟩
  rw [eqv_ints, decide_eq_true rfl]
  refine ⟨_, rfl, _, rfl, On, os, rfl, SqL.of (s6 _ _ hO5), by omega, fun ms2 r2 pm2 up2 hr2 => ?_⟩
  have e2 : os = ms2 := (sorted_one pm2 up2).mpr (upO.imp fun {a b} h => Int.le_of_lt h)
  subst e2
  have s7 := same_new hr2 (.lst (os.map V.int))
  refine ⟨.list (os.map .int), .list (os.map .int), .lst (SqL.of (s7 _ _ (s6 _ _ hO5))) (ints_dp _), .lst (SqL.of upd_same) (ints_dp _), intsD_shaped _, intsD_shaped _, _, rfl, ?_⟩
  rw [eqv_ints, decide_eq_true rfl]
  have s67 := Same.trans s6 s7
  have s17 := Same.trans s15 s67
  have ndN : ns.Nodup := upN.imp fun {a b} h e => by omega
  have hP7 := s67 _ _ hP5
  refine ⟨_, rfl, Pn, ns, rfl, SqL.of hP7, by omega, ndN, _, rfl, Pn, _, rfl, .inl (SqL.of hP7), rfl, _, rfl, ?_⟩
  rw [List.length_map, decide_eq_true rfl]
  -- the length
  refine ⟨_, rfl, p, _, 0, _, rfl, rfl, SqT.of (s17 _ _ hp), rfl, q1, vS, rfl, .inr (SqT.of (s17 _ _ hSt)), ?_⟩
  refine ⟨_, rfl, _, rfl, a, b, old, new, rfl, hA.at (sm_tups s17) ?_, hB.at (sm_tups s17) ?_, by omega, fun m H8 lg s8 => ?_⟩
  · rw [s17 _ _ ha, ha]
  · rw [s17 _ _ hb, hb]
  have em := lets_longest L tr.ndo lg
  refine ⟨rfl, ?_⟩
  rw [em, Paired.len_eq lS, decide_eq_true rfl]
  exact k H8 (Same.trans s17 s8)
end
end K42
namespace K42
open PySem PySem.Spec PyProof.Rows L2
/-! ### law -/
section
variable {K : PySem.W.Frag} {Q : VK} {H : Hp}
theorem slA_any {a : Addr} {xs : List V} {lo hi : Option Int} (ha : H a = some (.tup xs)) (hQ : ∀ r H', Same H H' → H' r = some (.tup (cutV xs lo hi)) → Q (.ref r) H') : rSlA K (.ref a) lo hi H Q := by
  refine ⟨a, xs, rfl, SqT.of ha, fun w => hQ a H (Same.refl _) ?_, fun _ p hp => hQ p _ (same_new hp _) upd_same⟩
  have e : cutV xs lo hi = xs := by
    unfold cutV
    rw [w.1, w.2, List.drop_zero, Nat.sub_zero, List.take_length]
  rw [e]
  exact ha
theorem catA_any {a b : Addr} {xs ys : List V} (ha : H a = some (.tup xs)) (hb : H b = some (.tup ys)) (few : xs.length + ys.length ≤ 64) (hQ : ∀ r H', Same H H' → H' r = some (.tup (xs ++ ys)) → Q (.ref r) H') : rCatA K (.ref a) (.ref b) H Q := by
  refine ⟨a, b, xs, ys, rfl, rfl, SqT.of ha, SqT.of hb, by rw [sizeLine_eq]; omega, fun e => hQ b H (Same.refl _) ?_, fun _ e => hQ a H (Same.refl _) ?_, fun _ _ p hp => hQ p _ (same_new hp _) upd_same⟩
  · rw [e]; exact hb
  · rw [e, List.append_nil]; exact ha
theorem cutV_to (xs : List V) (k : Nat) : cutV xs none (some (k : Int)) = xs.take k := by
  unfold cutV
  rw [HT.sIx_none, HT.sIx_nat, List.drop_zero, Nat.sub_zero]
  rcases Nat.le_total k xs.length with h | h
  · rw [Nat.min_eq_left h]
  · rw [Nat.min_eq_right h, List.take_length, List.take_of_length_le h]
theorem cutV_from (xs : List V) (k : Nat) : cutV xs (some (k : Int)) none = xs.drop k := by
  unfold cutV
  rw [HT.sIx_none, HT.sIx_nat]
  rcases Nat.le_total k xs.length with h | h
  · rw [Nat.min_eq_left h, List.take_of_length_le (by rw [List.length_drop]; omega)]
  · rw [Nat.min_eq_right h, Nat.sub_self, List.drop_of_length_le h]
    rfl
theorem noPart_of {R : Option Int → Hp → Prop} {σ : L2.St} {H : Hp} (h : R none H) : tNoPart σ H R := h
abbrev tPart0 (K : PySem.W.Frag) (c : Int) : TE := tOp (rIxT K) (tVar 4) (tC (.int c))
abbrev tBent (K : PySem.W.Frag) (c : Int) : TE := tOp (rCatA K) (tSl (rSlA K) (tPart0 K c) tNoPart (tPart (tVar 5))) (tSl (rSlA K) (tPart0 K c) (tPart (tOp (rI0 fun i j => .int (i + j)) (tVar 5) (tC (.int 1)))) tNoPart)
/-- paper[c][:k] + paper[c][k + 1:] -/
theorem bent {σ : L2.St} {p a : Addr} {ps vs : List V} {k : Nat} {c : Int} (h4 : σ[4]? = some (some (.ref p))) (h5 : σ[5]? = some (some (.int (k : Int)))) (hp : H p = some (.tup ps)) (at_ : atI ps c = some (.ref a)) (ha : H a = some (.tup vs)) (few : vs.length ≤ 20)
    (hQ : ∀ r H', Same H H' → H' r = some (.tup (vs.take k ++ vs.drop (k + 1))) → Q (.ref r) H') : tBent K c σ H Q := by
  refine ⟨_, h4, p, ps, c, _, rfl, rfl, SqT.of hp, at_, _, h5, _, rfl, slA_any ha fun r1 H1 s1 h1 => ?_⟩
  rw [cutV_to] at h1
  refine ⟨_, h4, p, ps, c, _, rfl, rfl, SqT.of (s1 _ _ hp), at_, _, h5, _, _, rfl, rfl, _, rfl, ?_⟩
  refine noPart_of ?_
  refine slA_any (s1 _ _ ha) fun r2 H2 s2 h2 => ?_
  have h2' : H2 r2 = some (.tup (vs.drop (k + 1))) := by rw [← cutV_from]; exact h2
  refine catA_any (s2 _ _ h1) h2' ?_ fun r3 H3 s3 h3 => hQ r3 H3 (Same.trans (Same.trans s1 s2) s3) h3
  rw [List.length_take, List.length_drop]
  omega
end
theorem len_flat : ∀ {falls : List (List Lab)}, (∀ f ∈ falls, f ≠ []) → falls.length ≤ falls.flatten.length
  | [], _ => Nat.le_refl _
  | f :: fs, h => by
    have ih := len_flat fun g hg => h g (List.mem_cons_of_mem _ hg)
    have := List.length_pos_iff.mpr (h f List.mem_cons_self)
    rw [List.length_cons, List.flatten_cons, List.length_append]
    omega
theorem lets_paper {old new stays : List Lab} {falls : List (List Lab)} (L : Lets old new stays falls) (l20 : old.length ≤ 20) : PaperOk old stays falls := by
  have all : falls.flatten.length ≤ 20 := by
    rw [L.whole]
    exact Nat.le_trans (List.length_filter_le _ _) l20
  have nfl := Nat.le_trans (len_flat fun f hf => (L.each f hf).2.1) all
  exact ⟨fun l h => (L.here l h).1, fun f hf l h => ((L.each f hf).1 l h).1, all, by rw [L.len]; exact nfl, nfl⟩
theorem cut_sub {α : Type} (xs : List α) (k : Nat) : (xs.take k ++ xs.drop (k + 1)).Sublist xs := by
  have e : xs = xs.take k ++ xs.drop k := (List.take_append_drop k xs).symm
  conv => rhs; rw [e]
  refine (List.Sublist.refl _).append ?_
  rw [← List.drop_drop]
  exact List.drop_sublist _ _
theorem flat_sub {a b : List (List Lab)} (h : a.Sublist b) : a.flatten.length ≤ b.flatten.length := by
  induction h with
  | slnil => exact Nat.le_refl _
  | cons f _ ih =>
    rw [List.flatten_cons, List.length_append]
    omega
  | cons_cons f _ ih =>
    rw [List.flatten_cons, List.flatten_cons, List.length_append, List.length_append]
    omega
theorem paper_cut {old stays : List Lab} {falls : List (List Lab)} (h : PaperOk old stays falls) (k : Nat) : PaperOk old (stays.take k ++ stays.drop (k + 1)) (falls.take k ++ falls.drop (k + 1)) := by
  have s1 := cut_sub stays k
  have s2 := cut_sub falls k
  refine ⟨fun l hl => h.st l (s1.subset hl), fun f hf => h.fl f (s2.subset hf), Nat.le_trans (flat_sub s2) h.all, Nat.le_trans s1.length_le h.nst, Nat.le_trans s2.length_le h.nfl⟩
end K42
namespace K42
open PySem PySem.Spec PyProof.Rows L2
section
variable {P : Program} {w : World} {K : PySem.W.Frag} {mg : Str → Option Value} {base : Heap} {f g g1 g2 g3 g4 g5 g6 : Addr} {fd gd gd1 gd2 gd3 gd4 gd5 gd6 : FuncData}
abbrev nLaw : List Str := ["_law_script", "_law_tape_here", "_law_old", "_law_new", "_law_paper", "_law_k"]
def spLaw (K : PySem.W.Frag) : Sp := fun vs H Q _ => ∃ (a : Addr) (ns : List Int), vs = [.ref a] ∧ SqL K H a (ns.map V.int) ∧ ns.length ≤ 63 ∧ ∀ H', Q (.bl true) H'
theorem scLaw : FnScope nLaw ["_law_script"] (defScope (top 28)) := ⟨rfl, rfl, rfl, by decide +kernel, rfl, by decide +kernel, by decide +kernel⟩
theorem cons_tup2 {te1 te2 : TE} {σ : L2.St} {H : Hp} {R : List V → Hp → Prop} (h : te1 σ H fun x H1 => te2 σ H1 fun y H2 => 2 ≤ sizeLine ∧ ∀ p, H2 p = none → R [.ref p] (upd H2 p (.tup [x, y]))) : tCons (tTup (tCons te1 (tCons te2 tNil))) tNil σ H R := h
theorem own_paper {old new stays : List Lab} {falls : List (List Lab)} (nd : old.Nodup) (o : Own old new stays falls) : Lets old new stays falls := by
  obtain ⟨c, l, e⟩ := o
  have L := own_lets nd c l
  rcases e with rfl | rfl
  · exact L
  · exact L.rev
theorem ok_law (D : Known K mg "law" 28 ["_law_script"] f fd) (T : Txt mg) (D1 : Known K mg "_law_tape" 15 ["_law_script"] g1 gd1) (G1 : FnOk P w K mg base CX0 1 g1 gd1 ["_law_script"] spTape)
    (D2 : Known K mg "_law_two_rows" 22 ["_law_tape_here", "_law_most"] g2 gd2) (G2 : FnOk P w K mg base CX0 6 g2 gd2 ["_law_tape_here", "_law_most"] (spTwoRows K))
    (D3 : Known K mg "_law_row_paper" 24 ["_law_tape_here", "_law_old", "_law_new"] g3 gd3) (G3 : FnOk P w K mg base CX0 2 g3 gd3 ["_law_tape_here", "_law_old", "_law_new"] (spRowPaper K))
    (D4 : Known K mg "lets_row" 13 ["old", "new", "paper"] g4 gd4) (G4 : FnOk P w K mg base CX0 7 g4 gd4 ["old", "new", "paper"] (spLets P w))
    (D5 : Known K mg "_law_right" 27 ["_law_old", "_law_new", "_law_paper"] g5 gd5) (G5 : FnOk P w K mg base CX0 8 g5 gd5 ["_law_old", "_law_new", "_law_paper"] spRight)
    (D6 : Known K mg "_law_parted" 26 ["_law_tape_here", "_law_old", "_law_new"] g6 gd6) (G6 : FnOk P w K mg base CX0 2 g6 gd6 ["_law_tape_here", "_law_old", "_law_new"] (spParted K)) :
    FnOk P w K mg base CX0 9 f fd ["_law_script"] (spLaw K) := by
  refine D.F.ok scLaw (fun vs H Q E h => ?_) (fun cdv A outer s H vs Q E hr h => ?_)
  · obtain ⟨a, ns, rfl, _⟩ := h
    rfl
  obtain ⟨scr, ns, rfl, hS, l63, k⟩ := h
  have hr1 : Room 1 _ := hr.mono (by decide)
  have hr2 : Room 2 _ := hr.mono (by decide)
  have hr6 : Room 6 _ := hr.mono (by decide)
  have hr7 : Room 7 _ := hr.mono (by decide)
  refine ⟨_, pss_cons (ps_set (i := 1) scLaw.nd rfl (Or.inl rfl) (pe_call G1 hr1 rfl D1.m D1.F.kp D1.b .nil pass0 (pa_cons (pv 0) pa_nil)))
    (pss_cons (ps_asg (pe_call G2 hr6 rfl D2.m D2.F.kp D2.b .nil pass0 (pa_cons (pv 1) (pa_cons pe_int pa_nil))) (pg_tup rfl (pgs_cons (pg_name (i := 2) scLaw.nd rfl (Or.inl rfl)) (pgs_cons (pg_name (i := 3) scLaw.nd rfl (Or.inl rfl)) pgs_nil))))
    (pss_cons (ps_set (i := 4) scLaw.nd rfl (Or.inl rfl) (pe_call G3 hr2 rfl D3.m D3.F.kp D3.b .nil pass0 (pa_cons (pv 1) (pa_cons (pv 2) (pa_cons (pv 3) pa_nil)))))
    (pss_cons (ps_if (PW.pt (pw_or (pt_not (pt_val (pe_call G4 hr7 rfl D4.m D4.F.kp D4.b .nil pass0 (pa_cons (pe_callTy call_tuple_of (by rfl) T.tuple (by decide +kernel) (pa_cons (pv 2) pa_nil)) (pa_cons (pe_callTy call_tuple_of (by rfl) T.tuple (by decide +kernel) (pa_cons (pv 3) pa_nil)) (pa_cons (pv 4) pa_nil))))))
      (pw_or1 (pt_not (pt_val (pe_call G5 hr rfl D5.m D5.F.kp D5.b .nil pass0 (pa_cons (pv 2) (pa_cons (pv 3) (pa_cons (pv 4) pa_nil))))))))) (pss_one (ps_ret pe_bl)) pss_nil)
    (pss_cons (ps_for PassesOwn.never rfl (pi_range1 rfl T.range (pa_cons pe_int pa_nil)) (pg_name (i := 5) scLaw.nd rfl (Or.inl rfl))
      (pss_one (ps_if (pt_not (pt_val (pe_call G5 hr rfl D5.m D5.F.kp D5.b .nil pass0 (pa_cons (pv 2) (pa_cons (pv 3) (pa_cons (pe_call G6 hr2 rfl D6.m D6.F.kp D6.b .nil pass0 (pa_cons (pv 1) (pa_cons (pv 2) (pa_cons (pv 3) pa_nil)))) pa_nil)))))) (pss_one (ps_ret pe_bl)) pss_nil)))
    (pss_cons (ps_for PassesOwn.never rfl (pi_range1 rfl T.range (pa_cons (pe_callB call_len_seq (by rfl) T.len PySem.boot_len (pa_cons (pe_ix ix_tup (pv 4) pe_int (fun _ _ => rfl)) pa_nil)) pa_nil)) (pg_name (i := 5) scLaw.nd rfl (Or.inl rfl))
      (pss_one (ps_if (pt_not (pt_val (pe_call G5 hr rfl D5.m D5.F.kp D5.b .nil pass0 (pa_cons (pv 2) (pa_cons (pv 3) (pa_cons (pe_tup (pa_cons
          (pe_op op_catA (pe_slice sl_tupA (pe_ix ix_tup (pv 4) pe_int (fun _ _ => rfl)) po_none (po_some (pv 5))) (pe_slice sl_tupA (pe_ix ix_tup (pv 4) pe_int (fun _ _ => rfl)) (po_some (pe_op op_add (pv 5) pe_int)) po_none)) (pa_cons
          (pe_op op_catA (pe_slice sl_tupA (pe_ix ix_tup (pv 4) pe_int (fun _ _ => rfl)) po_none (po_some (pv 5))) (pe_slice sl_tupA (pe_ix ix_tup (pv 4) pe_int (fun _ _ => rfl)) (po_some (pe_op op_add (pv 5) pe_int)) po_none)) pa_nil))) pa_nil)))))) (pss_one (ps_ret pe_bl)) pss_nil)))
    (pss_one (ps_ret pe_bl))))))), ?_⟩
  refine ⟨_, rfl, scr, rfl, fun t ht => ?_⟩
  have s0 := same_new ht (.lst [.ref scr, .int 0, .int 0, .int 0])
  have tp0 : Tape K t scr (upd H t (.lst [.ref scr, .int 0, .int 0, .int 0])) := ⟨⟨0, 0, 0, upd_same, by decide, by decide⟩, (ScrOk.of hS l63 ht).kp (Kp.same s0)⟩
  generalize upd H t (.lst [.ref scr, .int 0, .int 0, .int 0]) = H0 at tp0 ⊢
  clear s0 hS
  refine ⟨_, rfl, t, scr, 8, rfl, by decide, by decide, tp0, fun r a b old new H1 hr0 fa fb hA hB tr tu1 => ?_⟩
  have nat := hA.ne tu1.at_
  have nbt := hB.ne tu1.at_
  refine ⟨r, _, rfl, SqT.of hr0, rfl, ?_⟩
  refine ⟨_, _, rfl, _, _, rfl, rfl, ?_⟩
  have tp1 := tp0.on tu1
  have o8 := tr.leno
  have l20 : old.length ≤ 20 := by omega
  refine ⟨_, rfl, _, rfl, _, rfl, t, scr, a, b, old, new, rfl, tp1, hA, hB, tr.ndo, l20, fun p q1 q2 stays falls H2 hp h1 h2 own tu2 => ?_⟩
  have L := own_paper tr.ndo own
  have pok := lets_paper L l20
  have tp2 := tp1.on tu2
  have t12 := tp1.tups tu2.kp
  obtain ⟨va, ha, la⟩ := id hA
  obtain ⟨vb, hb, lb⟩ := id hB
  have keepA : ∀ H', Kp t H1 H' → LsAt H' a old := fun H' kp => hA.at (tp1.tups kp) (by rw [kp a _ nat ha, ha])
  have keepB : ∀ H', Kp t H1 H' → LsAt H' b new := fun H' kp => hB.at (tp1.tups kp) (by rw [kp b _ nbt hb, hb])
  have hp' : ∀ H', Kp t H2 H' → H' p = some (.tup [.ref q1, .ref q2]) := fun H' kp => (tp2.tups kp) p _ hp
  have ha2 := tu2.kp a _ nat ha
  have hb2 := tu2.kp b _ nbt hb
  -- its own paper is let by
  refine ⟨_, rfl, a, va, rfl, .inl ⟨SqL.of ha2, fun ra hra => ?_⟩⟩
  have s1 := same_new hra (.tup va)
  refine ⟨_, rfl, b, vb, rfl, .inl ⟨SqL.of (s1 _ _ hb2), fun rb hrb => ?_⟩⟩
  have s2 := same_new hrb (.tup vb)
  have s12 := Same.trans s1 s2
  have t13 := t12.trans (sm_tups s12)
  have n20 : new.length ≤ 20 := by
    have := tr.lenn
    omega
  refine ⟨_, rfl, ra, rb, p, q1, q2, old, new, stays, falls, rfl, ⟨va, s2 _ _ upd_same, labs_mono t13 la⟩, ⟨vb, upd_same, labs_mono t13 lb⟩, s12 _ _ hp, h1.mono (sm_tups s12), h2.mono (sm_tups s12), tr.ndo, tr.ndn, l20, n20, fun l hl => tr.oko l (pok.st l hl), fun f hf l hl => tr.oko l (pok.fl f hf l hl), pok.nst, pok.nfl, pok.all, fun r3 H3 s3 hr3 => ⟨_, rfl, ?_⟩⟩
  have e3 : r3 = true := hr3.mpr L
  subst e3
  have s13 := Same.trans s12 s3
  have tu3 : Turned t scr H2 H3 := .of tp2 s13
  refine ⟨_, rfl, _, rfl, _, rfl, a, b, p, q1, q2, old, new, stays, falls, rfl, keepA _ (tu2.trans tu3).kp, keepB _ (tu2.trans tu3).kp, hp' _ tu3.kp, h1.mono (sm_tups s13), h2.mono (sm_tups s13), tr, pok, fun H4 s4 => ⟨true, rfl, ?_⟩⟩
  have tu4 := tu3.same s4
  -- labels parted anyhow
  refine ⟨10, rfl, by decide, by decide, for_range (lo := 0) (n := 10) (fun i σ H' => ∃ x : Option V, σ = [some (.ref scr), some (.ref t), some (.ref a), some (.ref b), some (.ref p), x] ∧ Turned t scr H2 H') ?_ ?_ ?_⟩
  · exact ⟨none, rfl, tu4⟩
  · rintro i σ H5 hi ⟨x, rfl, tu5⟩
    have kp5 := (tu2.trans tu5).kp
    refine ⟨_, rfl, _, rfl, _, rfl, _, rfl, _, rfl, t, scr, a, b, old, new, rfl, tp2.on tu5, keepA _ kp5, keepB _ kp5, l20, fun pp qq1 qq2 stays' falls' H6 hpp hh1 hh2 pok' tu6 => ?_⟩
    have tu56 := tu5.trans tu6
    have kp6 := (tu2.trans tu56).kp
    refine ⟨a, b, pp, qq1, qq2, old, new, stays', falls', rfl, keepA _ kp6, keepB _ kp6, hpp, hh1, hh2, tr, pok', fun H7 s7 => ⟨true, rfl, ?_⟩⟩
    exact ⟨_, rfl, tu56.same s7⟩
  rintro σ H5 ⟨x, rfl, tu5⟩
  -- its own paper, bent
  obtain ⟨vS, hSt, lS⟩ := id h1
  obtain ⟨vF, hFt, lF⟩ := id h2
  have lenS := Paired.len_eq lS
  have lenF := Paired.len_eq lF
  have n1 := pok.nst
  have n2 := pok.nfl
  refine ⟨_, rfl, p, _, 0, _, rfl, rfl, SqT.of (hp' _ tu5.kp), rfl, q1, vS, rfl, .inr (SqT.of (tp2.tups tu5.kp _ _ hSt)), _, rfl, by omega, by omega, for_range (lo := 0) (n := vS.length) (fun i σ H' => ∃ x : Option V, σ = [some (.ref scr), some (.ref t), some (.ref a), some (.ref b), some (.ref p), x] ∧ Turned t scr H2 H') ?_ ?_ ?_⟩
  · exact ⟨x, rfl, tu5⟩
  · rintro i σ H6 hi ⟨y, rfl, tu6⟩
    have t26 := tp2.tups tu6.kp
    have at0 : atI [V.ref q1, V.ref q2] 0 = some (.ref q1) := rfl
    have at1 : atI [V.ref q1, V.ref q2] 1 = some (.ref q2) := rfl
    refine ⟨_, rfl, _, rfl, ?_⟩
    refine cons_tup2 ?_
    refine bent (k := i) rfl (by rw [Int.zero_add]; rfl) (hp' _ tu6.kp) at0 (t26 _ _ hSt) (by omega) fun r1 H7 s7 hr1 => ?_
    have tu7 := tu6.same s7
    have t27 := tp2.tups tu7.kp
    refine bent (k := i) rfl (by rw [Int.zero_add]; rfl) (hp' _ tu7.kp) at1 (t27 _ _ hFt) (by omega) fun r2 H8 s8 hr2 => ?_
    have tu8 := tu7.same s8
    refine ⟨by show 2 ≤ sizeLine; decide, fun pp hpp => ?_⟩
    have s9 := same_new hpp (.tup [.ref r1, .ref r2])
    have tu9 := tu8.same s9
    have t29 := tp2.tups tu9.kp
    have kp9 := (tu2.trans tu9).kp
    refine ⟨a, b, pp, r1, r2, old, new, _, _, rfl, keepA _ kp9, keepB _ kp9, upd_same, ⟨_, s9 _ _ (s8 _ _ hr1), paired_app (paired_take i (labs_mono t29 lS)) (paired_drop (i + 1) (labs_mono t29 lS))⟩, ⟨_, s9 _ _ hr2, paired_app (paired_take i (fvs_mono t29 lF)) (paired_drop (i + 1) (fvs_mono t29 lF))⟩, tr, paper_cut pok i, fun H10 s10 => ⟨true, rfl, ?_⟩⟩
    exact ⟨_, rfl, tu9.same s10⟩
  rintro σ H6 ⟨y, rfl, tu6⟩
  exact k H6
end
end K42
namespace K42
open PySem PySem.Spec PyProof.Rows L2
/-! ### What the top has written, the head -/
theorem all_mk {l : PySem.W.OpenLaw} {w : World} {K : PySem.W.Frag} {h : Heap} {mg : Str → Option Value} {fa : Addr} (X : K.In h) (G : h.Ns mainGlobals mg) (hfa : mg "law" = some (.ref fa))
    {f1 f2 f3 f4 f5 f6 f7 f8 f9 f10 f11 f12 f13 f14 f15 f16 f17 f18 f19 f20 f21 f22 f23 f24 : Addr} {od1 an1 od2 an2 od3 an3 od4 an4 od5 an5 od6 an6 od7 an7 od8 an8 od9 an9 od10 an10 od11 an11 od12 an12 od13 an13 od14 an14 od15 an15 od16 an16 od17 an17 od18 an18 od19 an19 od20 an20 od21 an21 od22 an22 od23 an23 od24 an24 : Option Addr} {sl1 sl2 sl3 sl4 sl5 sl6 sl7 sl8 sl9 sl10 sl11 sl12 sl13 sl14 sl15 sl16 sl17 sl18 sl19 sl20 sl21 sl22 sl23 sl24 : Array (Option Value)} {oc1 kV1 dc1 pm1 cd1 ct1 oc2 kV2 dc2 pm2 cd2 ct2 oc3 kV3 dc3 pm3 cd3 ct3 oc4 kV4 dc4 pm4 cd4 ct4 oc5 kV5 dc5 pm5 cd5 ct5 oc6 kV6 dc6 pm6 cd6 ct6 oc7 kV7 dc7 pm7 cd7 ct7 oc8 kV8 dc8 pm8 cd8 ct8 oc9 kV9 dc9 pm9 cd9 ct9 oc10 kV10 dc10 pm10 cd10 ct10 oc11 kV11 dc11 pm11 cd11 ct11 oc12 kV12 dc12 pm12 cd12 ct12 oc13 kV13 dc13 pm13 cd13 ct13 oc14 kV14 dc14 pm14 cd14 ct14 oc15 kV15 dc15 pm15 cd15 ct15 oc16 kV16 dc16 pm16 cd16 ct16 oc17 kV17 dc17 pm17 cd17 ct17 oc18 kV18 dc18 pm18 cd18 ct18 oc19 kV19 dc19 pm19 cd19 ct19 oc20 kV20 dc20 pm20 cd20 ct20 oc21 kV21 dc21 pm21 cd21 ct21 oc22 kV22 dc22 pm22 cd22 ct22 oc23 kV23 dc23 pm23 cd23 ct23 oc24 kV24 dc24 pm24 cd24 ct24 : Value} {tk : Nat}
    (a1 : PySem.W.nsIn K mainGlobals "is_whole" = some (some (.ref f1))) (l1 : K.lookup f1 = some ⟨oc1, od1, .func (PySem.W.fnOf "is_whole" "is_whole" (defArgs (top 2)) (defBody (top 2)) (defScope (top 2)) .none kV1 dc1 pm1 an1 cd1 ct1), sl1⟩) (c1 : PySem.W.codeIn K cd1 "is_whole" = true) (k1 : PySem.W.keepIn K (.ref f1) = true)
    (a2 : PySem.W.nsIn K mainGlobals "is_number" = some (some (.ref f2))) (l2 : K.lookup f2 = some ⟨oc2, od2, .func (PySem.W.fnOf "is_number" "is_number" (defArgs (top 3)) (defBody (top 3)) (defScope (top 3)) .none kV2 dc2 pm2 an2 cd2 ct2), sl2⟩) (c2 : PySem.W.codeIn K cd2 "is_number" = true) (k2 : PySem.W.keepIn K (.ref f2) = true)
    (a3 : PySem.W.nsIn K mainGlobals "is_count" = some (some (.ref f3))) (l3 : K.lookup f3 = some ⟨oc3, od3, .func (PySem.W.fnOf "is_count" "is_count" (defArgs (top 5)) (defBody (top 5)) (defScope (top 5)) .none kV3 dc3 pm3 an3 cd3 ct3), sl3⟩) (c3 : PySem.W.codeIn K cd3 "is_count" = true) (k3 : PySem.W.keepIn K (.ref f3) = true)
    (a4 : PySem.W.nsIn K mainGlobals "is_spot" = some (some (.ref f4))) (l4 : K.lookup f4 = some ⟨oc4, od4, .func (PySem.W.fnOf "is_spot" "is_spot" (defArgs (top 6)) (defBody (top 6)) (defScope (top 6)) .none kV4 dc4 pm4 an4 cd4 ct4), sl4⟩) (c4 : PySem.W.codeIn K cd4 "is_spot" = true) (k4 : PySem.W.keepIn K (.ref f4) = true)
    (a5 : PySem.W.nsIn K mainGlobals "is_path" = some (some (.ref f5))) (l5 : K.lookup f5 = some ⟨oc5, od5, .func (PySem.W.fnOf "is_path" "is_path" (defArgs (top 7)) (defBody (top 7)) (defScope (top 7)) .none kV5 dc5 pm5 an5 cd5 ct5), sl5⟩) (c5 : PySem.W.codeIn K cd5 "is_path" = true) (k5 : PySem.W.keepIn K (.ref f5) = true)
    (a6 : PySem.W.nsIn K mainGlobals "is_label" = some (some (.ref f6))) (l6 : K.lookup f6 = some ⟨oc6, od6, .func (PySem.W.fnOf "is_label" "is_label" (defArgs (top 8)) (defBody (top 8)) (defScope (top 8)) .none kV6 dc6 pm6 an6 cd6 ct6), sl6⟩) (c6 : PySem.W.codeIn K cd6 "is_label" = true) (k6 : PySem.W.keepIn K (.ref f6) = true)
    (a7 : PySem.W.nsIn K mainGlobals "places_in" = some (some (.ref f7))) (l7 : K.lookup f7 = some ⟨oc7, od7, .func (PySem.W.fnOf "places_in" "places_in" (defArgs (top 10)) (defBody (top 10)) (defScope (top 10)) .none kV7 dc7 pm7 an7 cd7 ct7), sl7⟩) (c7 : PySem.W.codeIn K cd7 "places_in" = true) (k7 : PySem.W.keepIn K (.ref f7) = true)
    (a8 : PySem.W.nsIn K mainGlobals "is_common" = some (some (.ref f8))) (l8 : K.lookup f8 = some ⟨oc8, od8, .func (PySem.W.fnOf "is_common" "is_common" (defArgs (top 11)) (defBody (top 11)) (defScope (top 11)) .none kV8 dc8 pm8 an8 cd8 ct8), sl8⟩) (c8 : PySem.W.codeIn K cd8 "is_common" = true) (k8 : PySem.W.keepIn K (.ref f8) = true)
    (a9 : PySem.W.nsIn K mainGlobals "goes_on" = some (some (.ref f9))) (l9 : K.lookup f9 = some ⟨oc9, od9, .func (PySem.W.fnOf "goes_on" "goes_on" (defArgs (top 12)) (defBody (top 12)) (defScope (top 12)) .none kV9 dc9 pm9 an9 cd9 ct9), sl9⟩) (c9 : PySem.W.codeIn K cd9 "goes_on" = true) (k9 : PySem.W.keepIn K (.ref f9) = true)
    (a10 : PySem.W.nsIn K mainGlobals "lets_row" = some (some (.ref f10))) (l10 : K.lookup f10 = some ⟨oc10, od10, .func (PySem.W.fnOf "lets_row" "lets_row" (defArgs (top 13)) (defBody (top 13)) (defScope (top 13)) .none kV10 dc10 pm10 an10 cd10 ct10), sl10⟩) (c10 : PySem.W.codeIn K cd10 "lets_row" = true) (k10 : PySem.W.keepIn K (.ref f10) = true)
    (a11 : PySem.W.nsIn K mainGlobals "_law_tape" = some (some (.ref f11))) (l11 : K.lookup f11 = some ⟨oc11, od11, .func (PySem.W.fnOf "_law_tape" "_law_tape" (defArgs (top 15)) (defBody (top 15)) (defScope (top 15)) .none kV11 dc11 pm11 an11 cd11 ct11), sl11⟩) (c11 : PySem.W.codeIn K cd11 "_law_tape" = true) (k11 : PySem.W.keepIn K (.ref f11) = true)
    (a12 : PySem.W.nsIn K mainGlobals "_law_draw" = some (some (.ref f12))) (l12 : K.lookup f12 = some ⟨oc12, od12, .func (PySem.W.fnOf "_law_draw" "_law_draw" (defArgs (top 16)) (defBody (top 16)) (defScope (top 16)) .none kV12 dc12 pm12 an12 cd12 ct12), sl12⟩) (c12 : PySem.W.codeIn K cd12 "_law_draw" = true) (k12 : PySem.W.keepIn K (.ref f12) = true)
    (a13 : PySem.W.nsIn K mainGlobals "_law_number" = some (some (.ref f13))) (l13 : K.lookup f13 = some ⟨oc13, od13, .func (PySem.W.fnOf "_law_number" "_law_number" (defArgs (top 17)) (defBody (top 17)) (defScope (top 17)) .none kV13 dc13 pm13 an13 cd13 ct13), sl13⟩) (c13 : PySem.W.codeIn K cd13 "_law_number" = true) (k13 : PySem.W.keepIn K (.ref f13) = true)
    (a14 : PySem.W.nsIn K mainGlobals "_law_spot" = some (some (.ref f14))) (l14 : K.lookup f14 = some ⟨oc14, od14, .func (PySem.W.fnOf "_law_spot" "_law_spot" (defArgs (top 18)) (defBody (top 18)) (defScope (top 18)) .none kV14 dc14 pm14 an14 cd14 ct14), sl14⟩) (c14 : PySem.W.codeIn K cd14 "_law_spot" = true) (k14 : PySem.W.keepIn K (.ref f14) = true)
    (a15 : PySem.W.nsIn K mainGlobals "_law_label" = some (some (.ref f15))) (l15 : K.lookup f15 = some ⟨oc15, od15, .func (PySem.W.fnOf "_law_label" "_law_label" (defArgs (top 19)) (defBody (top 19)) (defScope (top 19)) .none kV15 dc15 pm15 an15 cd15 ct15), sl15⟩) (c15 : PySem.W.codeIn K cd15 "_law_label" = true) (k15 : PySem.W.keepIn K (.ref f15) = true)
    (a16 : PySem.W.nsIn K mainGlobals "_law_labels" = some (some (.ref f16))) (l16 : K.lookup f16 = some ⟨oc16, od16, .func (PySem.W.fnOf "_law_labels" "_law_labels" (defArgs (top 20)) (defBody (top 20)) (defScope (top 20)) .none kV16 dc16 pm16 an16 cd16 ct16), sl16⟩) (c16 : PySem.W.codeIn K cd16 "_law_labels" = true) (k16 : PySem.W.keepIn K (.ref f16) = true)
    (a17 : PySem.W.nsIn K mainGlobals "_law_shuffled" = some (some (.ref f17))) (l17 : K.lookup f17 = some ⟨oc17, od17, .func (PySem.W.fnOf "_law_shuffled" "_law_shuffled" (defArgs (top 21)) (defBody (top 21)) (defScope (top 21)) .none kV17 dc17 pm17 an17 cd17 ct17), sl17⟩) (c17 : PySem.W.codeIn K cd17 "_law_shuffled" = true) (k17 : PySem.W.keepIn K (.ref f17) = true)
    (a18 : PySem.W.nsIn K mainGlobals "_law_two_rows" = some (some (.ref f18))) (l18 : K.lookup f18 = some ⟨oc18, od18, .func (PySem.W.fnOf "_law_two_rows" "_law_two_rows" (defArgs (top 22)) (defBody (top 22)) (defScope (top 22)) .none kV18 dc18 pm18 an18 cd18 ct18), sl18⟩) (c18 : PySem.W.codeIn K cd18 "_law_two_rows" = true) (k18 : PySem.W.keepIn K (.ref f18) = true)
    (a19 : PySem.W.nsIn K mainGlobals "_law_ranks" = some (some (.ref f19))) (l19 : K.lookup f19 = some ⟨oc19, od19, .func (PySem.W.fnOf "_law_ranks" "_law_ranks" (defArgs (top 23)) (defBody (top 23)) (defScope (top 23)) .none kV19 dc19 pm19 an19 cd19 ct19), sl19⟩) (c19 : PySem.W.codeIn K cd19 "_law_ranks" = true) (k19 : PySem.W.keepIn K (.ref f19) = true)
    (a20 : PySem.W.nsIn K mainGlobals "_law_row_paper" = some (some (.ref f20))) (l20 : K.lookup f20 = some ⟨oc20, od20, .func (PySem.W.fnOf "_law_row_paper" "_law_row_paper" (defArgs (top 24)) (defBody (top 24)) (defScope (top 24)) .none kV20 dc20 pm20 an20 cd20 ct20), sl20⟩) (c20 : PySem.W.codeIn K cd20 "_law_row_paper" = true) (k20 : PySem.W.keepIn K (.ref f20) = true)
    (a21 : PySem.W.nsIn K mainGlobals "_law_longest" = some (some (.ref f21))) (l21 : K.lookup f21 = some ⟨oc21, od21, .func (PySem.W.fnOf "_law_longest" "_law_longest" (defArgs (top 25)) (defBody (top 25)) (defScope (top 25)) .none kV21 dc21 pm21 an21 cd21 ct21), sl21⟩) (c21 : PySem.W.codeIn K cd21 "_law_longest" = true) (k21 : PySem.W.keepIn K (.ref f21) = true)
    (a22 : PySem.W.nsIn K mainGlobals "_law_parted" = some (some (.ref f22))) (l22 : K.lookup f22 = some ⟨oc22, od22, .func (PySem.W.fnOf "_law_parted" "_law_parted" (defArgs (top 26)) (defBody (top 26)) (defScope (top 26)) .none kV22 dc22 pm22 an22 cd22 ct22), sl22⟩) (c22 : PySem.W.codeIn K cd22 "_law_parted" = true) (k22 : PySem.W.keepIn K (.ref f22) = true)
    (a23 : PySem.W.nsIn K mainGlobals "_law_right" = some (some (.ref f23))) (l23 : K.lookup f23 = some ⟨oc23, od23, .func (PySem.W.fnOf "_law_right" "_law_right" (defArgs (top 27)) (defBody (top 27)) (defScope (top 27)) .none kV23 dc23 pm23 an23 cd23 ct23), sl23⟩) (c23 : PySem.W.codeIn K cd23 "_law_right" = true) (k23 : PySem.W.keepIn K (.ref f23) = true)
    (a24 : PySem.W.nsIn K mainGlobals "law" = some (some (.ref f24))) (l24 : K.lookup f24 = some ⟨oc24, od24, .func (PySem.W.fnOf "law" "law" (defArgs (top 28)) (defBody (top 28)) (defScope (top 28)) .none kV24 dc24 pm24 an24 cd24 ct24), sl24⟩) (c24 : PySem.W.codeIn K cd24 "law" = true) (k24 : PySem.W.keepIn K (.ref f24) = true)
    (z_len : PySem.W.nsIn K mainGlobals "len" = some none)
    (z_range : PySem.W.nsIn K mainGlobals "range" = some none)
    (z_tuple : PySem.W.nsIn K mainGlobals "tuple" = some none)
    (z_all : PySem.W.nsIn K mainGlobals "all" = some none)
    (z_isinstance : PySem.W.nsIn K mainGlobals "isinstance" = some none)
    (z_int : PySem.W.nsIn K mainGlobals "int" = some none)
    (z_bool : PySem.W.nsIn K mainGlobals "bool" = some none)
    (z_set : PySem.W.nsIn K mainGlobals "set" = some none)
    (z_max : PySem.W.nsIn K mainGlobals "max" = some none)
    (z_min : PySem.W.nsIn K mainGlobals "min" = some none)
    (z_abs : PySem.W.nsIn K mainGlobals "abs" = some none)
    (z_list : PySem.W.nsIn K mainGlobals "list" = some none)
    (z_sorted : PySem.W.nsIn K mainGlobals "sorted" = some none)
    (z_great : PySem.W.nsIn K mainGlobals "GREATEST" = some (some (.int 1000000000 tk))) :
    ∃ fd : FuncData, (∀ (s : Shared) (v : Value), BindsTo s fd ⟨[v], []⟩ [("_law_script", v)]) ∧ ∀ base : Heap, K.In base → base.Ns mainGlobals mg → FnOk l.prog w K mg base CX0 9 fa fd ["_law_script"] (spLaw K) := by
  have e := hfa.symm.trans (PySem.W.mg_of X G a24)
  cases e
  have T : Txt mg := ⟨PySem.W.mg_none_of X G z_len, PySem.W.mg_none_of X G z_range, PySem.W.mg_none_of X G z_tuple, PySem.W.mg_none_of X G z_all, PySem.W.mg_none_of X G z_isinstance, PySem.W.mg_none_of X G z_int, PySem.W.mg_none_of X G z_bool, PySem.W.mg_none_of X G z_set, PySem.W.mg_none_of X G z_max, PySem.W.mg_none_of X G z_min, PySem.W.mg_none_of X G z_abs, PySem.W.mg_none_of X G z_list, PySem.W.mg_none_of X G z_sorted, ⟨tk, PySem.W.mg_of X G z_great⟩⟩
  have F1 := fun_mk (st := top 2) l1 c1 k1
  have D1 : Known K mg "is_whole" 2 ["thing"] _ _ := ⟨F1, PySem.W.mg_of X G a1, F1.binds (ps := ["thing"]) fun _ _ _ _ _ _ us hl => match us, hl with | [_], _ => rfl⟩
  have F2 := fun_mk (st := top 3) l2 c2 k2
  have D2 : Known K mg "is_number" 3 ["thing"] _ _ := ⟨F2, PySem.W.mg_of X G a2, F2.binds (ps := ["thing"]) fun _ _ _ _ _ _ us hl => match us, hl with | [_], _ => rfl⟩
  have F3 := fun_mk (st := top 5) l3 c3 k3
  have D3 : Known K mg "is_count" 5 ["thing"] _ _ := ⟨F3, PySem.W.mg_of X G a3, F3.binds (ps := ["thing"]) fun _ _ _ _ _ _ us hl => match us, hl with | [_], _ => rfl⟩
  have F4 := fun_mk (st := top 6) l4 c4 k4
  have D4 : Known K mg "is_spot" 6 ["thing"] _ _ := ⟨F4, PySem.W.mg_of X G a4, F4.binds (ps := ["thing"]) fun _ _ _ _ _ _ us hl => match us, hl with | [_], _ => rfl⟩
  have F5 := fun_mk (st := top 7) l5 c5 k5
  have D5 : Known K mg "is_path" 7 ["thing"] _ _ := ⟨F5, PySem.W.mg_of X G a5, F5.binds (ps := ["thing"]) fun _ _ _ _ _ _ us hl => match us, hl with | [_], _ => rfl⟩
  have F6 := fun_mk (st := top 8) l6 c6 k6
  have D6 : Known K mg "is_label" 8 ["thing"] _ _ := ⟨F6, PySem.W.mg_of X G a6, F6.binds (ps := ["thing"]) fun _ _ _ _ _ _ us hl => match us, hl with | [_], _ => rfl⟩
  have F7 := fun_mk (st := top 10) l7 c7 k7
  have D7 : Known K mg "places_in" 10 ["row"] _ _ := ⟨F7, PySem.W.mg_of X G a7, F7.binds (ps := ["row"]) fun _ _ _ _ _ _ us hl => match us, hl with | [_], _ => rfl⟩
  have F8 := fun_mk (st := top 11) l8 c8 k8
  have D8 : Known K mg "is_common" 11 ["thing", "old", "new"] _ _ := ⟨F8, PySem.W.mg_of X G a8, F8.binds (ps := ["thing", "old", "new"]) fun _ _ _ _ _ _ us hl => match us, hl with | [_, _, _], _ => rfl⟩
  have F9 := fun_mk (st := top 12) l9 c9 k9
  have D9 : Known K mg "goes_on" 12 ["labels", "old", "new", "falls"] _ _ := ⟨F9, PySem.W.mg_of X G a9, F9.binds (ps := ["labels", "old", "new", "falls"]) fun _ _ _ _ _ _ us hl => match us, hl with | [_, _, _, _], _ => rfl⟩
  have F10 := fun_mk (st := top 13) l10 c10 k10
  have D10 : Known K mg "lets_row" 13 ["old", "new", "paper"] _ _ := ⟨F10, PySem.W.mg_of X G a10, F10.binds (ps := ["old", "new", "paper"]) fun _ _ _ _ _ _ us hl => match us, hl with | [_, _, _], _ => rfl⟩
  have F11 := fun_mk (st := top 15) l11 c11 k11
  have D11 : Known K mg "_law_tape" 15 ["_law_script"] _ _ := ⟨F11, PySem.W.mg_of X G a11, F11.binds (ps := ["_law_script"]) fun _ _ _ _ _ _ us hl => match us, hl with | [_], _ => rfl⟩
  have F12 := fun_mk (st := top 16) l12 c12 k12
  have D12 : Known K mg "_law_draw" 16 ["_law_tape_here", "_law_many"] _ _ := ⟨F12, PySem.W.mg_of X G a12, F12.binds (ps := ["_law_tape_here", "_law_many"]) fun _ _ _ _ _ _ us hl => match us, hl with | [_, _], _ => rfl⟩
  have F13 := fun_mk (st := top 17) l13 c13 k13
  have D13 : Known K mg "_law_number" 17 ["_law_tape_here"] _ _ := ⟨F13, PySem.W.mg_of X G a13, F13.binds (ps := ["_law_tape_here"]) fun _ _ _ _ _ _ us hl => match us, hl with | [_], _ => rfl⟩
  have F14 := fun_mk (st := top 18) l14 c14 k14
  have D14 : Known K mg "_law_spot" 18 ["_law_tape_here"] _ _ := ⟨F14, PySem.W.mg_of X G a14, F14.binds (ps := ["_law_tape_here"]) fun _ _ _ _ _ _ us hl => match us, hl with | [_], _ => rfl⟩
  have F15 := fun_mk (st := top 19) l15 c15 k15
  have D15 : Known K mg "_law_label" 19 ["_law_tape_here"] _ _ := ⟨F15, PySem.W.mg_of X G a15, F15.binds (ps := ["_law_tape_here"]) fun _ _ _ _ _ _ us hl => match us, hl with | [_], _ => rfl⟩
  have F16 := fun_mk (st := top 20) l16 c16 k16
  have D16 : Known K mg "_law_labels" 20 ["_law_tape_here", "_law_many"] _ _ := ⟨F16, PySem.W.mg_of X G a16, F16.binds (ps := ["_law_tape_here", "_law_many"]) fun _ _ _ _ _ _ us hl => match us, hl with | [_, _], _ => rfl⟩
  have F17 := fun_mk (st := top 21) l17 c17 k17
  have D17 : Known K mg "_law_shuffled" 21 ["_law_tape_here", "_law_labels_here"] _ _ := ⟨F17, PySem.W.mg_of X G a17, F17.binds (ps := ["_law_tape_here", "_law_labels_here"]) fun _ _ _ _ _ _ us hl => match us, hl with | [_, _], _ => rfl⟩
  have F18 := fun_mk (st := top 22) l18 c18 k18
  have D18 : Known K mg "_law_two_rows" 22 ["_law_tape_here", "_law_most"] _ _ := ⟨F18, PySem.W.mg_of X G a18, F18.binds (ps := ["_law_tape_here", "_law_most"]) fun _ _ _ _ _ _ us hl => match us, hl with | [_, _], _ => rfl⟩
  have F19 := fun_mk (st := top 23) l19 c19 k19
  have D19 : Known K mg "_law_ranks" 23 ["_law_old", "_law_new"] _ _ := ⟨F19, PySem.W.mg_of X G a19, F19.binds (ps := ["_law_old", "_law_new"]) fun _ _ _ _ _ _ us hl => match us, hl with | [_, _], _ => rfl⟩
  have F20 := fun_mk (st := top 24) l20 c20 k20
  have D20 : Known K mg "_law_row_paper" 24 ["_law_tape_here", "_law_old", "_law_new"] _ _ := ⟨F20, PySem.W.mg_of X G a20, F20.binds (ps := ["_law_tape_here", "_law_old", "_law_new"]) fun _ _ _ _ _ _ us hl => match us, hl with | [_, _, _], _ => rfl⟩
  have F21 := fun_mk (st := top 25) l21 c21 k21
  have D21 : Known K mg "_law_longest" 25 ["_law_old", "_law_new"] _ _ := ⟨F21, PySem.W.mg_of X G a21, F21.binds (ps := ["_law_old", "_law_new"]) fun _ _ _ _ _ _ us hl => match us, hl with | [_, _], _ => rfl⟩
  have F22 := fun_mk (st := top 26) l22 c22 k22
  have D22 : Known K mg "_law_parted" 26 ["_law_tape_here", "_law_old", "_law_new"] _ _ := ⟨F22, PySem.W.mg_of X G a22, F22.binds (ps := ["_law_tape_here", "_law_old", "_law_new"]) fun _ _ _ _ _ _ us hl => match us, hl with | [_, _, _], _ => rfl⟩
  have F23 := fun_mk (st := top 27) l23 c23 k23
  have D23 : Known K mg "_law_right" 27 ["_law_old", "_law_new", "_law_paper"] _ _ := ⟨F23, PySem.W.mg_of X G a23, F23.binds (ps := ["_law_old", "_law_new", "_law_paper"]) fun _ _ _ _ _ _ us hl => match us, hl with | [_, _, _], _ => rfl⟩
  have F24 := fun_mk (st := top 28) l24 c24 k24
  have D24 : Known K mg "law" 28 ["_law_script"] _ _ := ⟨F24, PySem.W.mg_of X G a24, F24.binds (ps := ["_law_script"]) fun _ _ _ _ _ _ us hl => match us, hl with | [_], _ => rfl⟩
  refine ⟨PySem.W.fnOf "law" "law" (defArgs (top 28)) (defBody (top 28)) (defScope (top 28)) .none kV24 dc24 pm24 an24 cd24 ct24, fun s v => .of_eq rfl, fun base _ _ => ?_⟩
  have G1 := ok_whole (P := l.prog) (w := w) (base := base) D1 T
  have G2 := ok_number2 (P := l.prog) (w := w) (base := base) D2 T D1 G1
  have G3 := ok_count (P := l.prog) (w := w) (base := base) D3 T
  have G4 := ok_spot2 (P := l.prog) (w := w) (base := base) D4 T D2 G2 D3 G3
  have G5 := ok_path (P := l.prog) (w := w) (base := base) D5 T D4 G4
  have G6 := ok_label2 (P := l.prog) (w := w) (base := base) D6 T D5 G5
  have G7 := ok_places (P := l.prog) (w := w) (base := base) D7 T
  have G8 := ok_common (P := l.prog) (w := w) (base := base) D8 T D6 G6
  have G9 := ok_goes (P := l.prog) (w := w) (base := base) D9 T
  have G10 := ok_lets (P := l.prog) (w := w) (base := base) D10 T D7 G7 D8 G8 D9 G9
  have G11 := ok_tape (P := l.prog) (w := w) (base := base) D11
  have G12 := ok_draw (P := l.prog) (w := w) (base := base) D12 T
  have G13 := ok_number (P := l.prog) (w := w) (base := base) D13 D12 G12
  have G14 := ok_spot (P := l.prog) (w := w) (base := base) D14 D12 G12 D13 G13
  have G15 := ok_label (P := l.prog) (w := w) (base := base) D15 T D12 G12 D14 G14
  have G16 := ok_labels (P := l.prog) (w := w) (base := base) D16 T D15 G15
  have G17 := ok_shuffled (P := l.prog) (w := w) (base := base) D17 T D12 G12
  have G18 := ok_two_rows (P := l.prog) (w := w) (base := base) D18 T D12 G12 D16 G16 D17 G17
  have G19 := ok_ranks (P := l.prog) (w := w) (base := base) D19 T
  have G20 := ok_row_paper (P := l.prog) (w := w) (base := base) D20 T D12 G12 D19 G19
  have G21 := ok_longest (P := l.prog) (w := w) (base := base) D21 T
  have G22 := ok_parted (P := l.prog) (w := w) (base := base) D22 T D12 G12
  have G23 := ok_right (P := l.prog) (w := w) (base := base) D23 T D10 G10 D21 G21
  exact ok_law (P := l.prog) (w := w) (base := base) D24 T D11 G11 D18 G18 D20 G20 D10 G10 D23 G23 D22 G22
theorem walk {l : PySem.W.OpenLaw} {q : Program} {loose : List Str} {XP : (Str → Option Value) → Heap → Prop} {YP : World → Heap → Prop} {d : DefRec} {K : Params → PySem.W.Frag} (hn : l.most = some 63) (hdf : d.params.defaults = [])
    (hY : ∀ (w : World) (h : Heap), YP w h → (K w.params).In h)
    (F : ∀ (w : World) (mg : Str → Option Value) (fa : Addr) (h : Heap), (K w.params).In h → h.Ns mainGlobals mg → mg d.name = some (.ref fa) →
      ∃ fd : FuncData, (∀ (s : Shared) (u : Value), BindsTo s fd ⟨[u], []⟩ [("_law_script", u)]) ∧ ∀ base : Heap, (K w.params).In base → base.Ns mainGlobals mg → FnOk l.prog w (K w.params) mg base CX0 9 fa fd ["_law_script"] (spLaw (K w.params))) :
    PySem.W.WalkO q loose XP YP l.row.toRowW d [] (fun f vs => PySem.call f vs) :=
  L2.walk_of (n := 63) (k := 9) (x := "_law_script") (CX := fun _ => CX0) (sp := fun w => spLaw (K w.params)) hn (by decide) hdf ⟨rfl, by decide, by decide⟩ hY F (fun _ _ a ns hl _ hS => ⟨a, ns, rfl, hS, hl, fun _ => rfl⟩) fun _ _ _ _ _ z => z
end K42

open PySem PySem.W PyProof.Rows in
set_option maxRecDepth 100000 in
set_option maxHeartbeats 0 in
theorem PySem.Challenge.cw_viewwood_k42_whole_no_rising_row_is_long_holds : PySem.Challenge.rw_viewwood_k42_whole_no_rising_row_is_long.Holds := by
  w_on; o_law; k_head; (case hw => w_witness2)
  k_fill
  refine K42.walk (l := PySem.Challenge.rw_viewwood_k42_whole_no_rising_row_is_long) rfl rfl (fun w h Y => PySem.W.kIn_of Y) ?F
  case F =>
    intro w mg fa h KX G hmg
    refine' K42.all_mk KX G hmg ?a1 ?l1 ?c1 ?k1 ?a2 ?l2 ?c2 ?k2 ?a3 ?l3 ?c3 ?k3 ?a4 ?l4 ?c4 ?k4 ?a5 ?l5 ?c5 ?k5 ?a6 ?l6 ?c6 ?k6 ?a7 ?l7 ?c7 ?k7 ?a8 ?l8 ?c8 ?k8 ?a9 ?l9 ?c9 ?k9 ?a10 ?l10 ?c10 ?k10 ?a11 ?l11 ?c11 ?k11 ?a12 ?l12 ?c12 ?k12 ?a13 ?l13 ?c13 ?k13 ?a14 ?l14 ?c14 ?k14 ?a15 ?l15 ?c15 ?k15 ?a16 ?l16 ?c16 ?k16 ?a17 ?l17 ?c17 ?k17 ?a18 ?l18 ?c18 ?k18 ?a19 ?l19 ?c19 ?k19 ?a20 ?l20 ?c20 ?k20 ?a21 ?l21 ?c21 ?k21 ?a22 ?l22 ?c22 ?k22 ?a23 ?l23 ?c23 ?k23 ?a24 ?l24 ?c24 ?k24 ?z_len ?z_range ?z_tuple ?z_all ?z_isinstance ?z_int ?z_bool ?z_set ?z_max ?z_min ?z_abs ?z_list ?z_sorted ?z_great
    (case a1 => k_is)
    (case l1 => k_is)
    (case c1 => k_is)
    (case k1 => k_is)
    (case a2 => k_is)
    (case l2 => k_is)
    (case c2 => k_is)
    (case k2 => k_is)
    (case a3 => k_is)
    (case l3 => k_is)
    (case c3 => k_is)
    (case k3 => k_is)
    (case a4 => k_is)
    (case l4 => k_is)
    (case c4 => k_is)
    (case k4 => k_is)
    (case a5 => k_is)
    (case l5 => k_is)
    (case c5 => k_is)
    (case k5 => k_is)
    (case a6 => k_is)
    (case l6 => k_is)
    (case c6 => k_is)
    (case k6 => k_is)
    (case a7 => k_is)
    (case l7 => k_is)
    (case c7 => k_is)
    (case k7 => k_is)
    (case a8 => k_is)
    (case l8 => k_is)
    (case c8 => k_is)
    (case k8 => k_is)
    (case a9 => k_is)
    (case l9 => k_is)
    (case c9 => k_is)
    (case k9 => k_is)
    (case a10 => k_is)
    (case l10 => k_is)
    (case c10 => k_is)
    (case k10 => k_is)
    (case a11 => k_is)
    (case l11 => k_is)
    (case c11 => k_is)
    (case k11 => k_is)
    (case a12 => k_is)
    (case l12 => k_is)
    (case c12 => k_is)
    (case k12 => k_is)
    (case a13 => k_is)
    (case l13 => k_is)
    (case c13 => k_is)
    (case k13 => k_is)
    (case a14 => k_is)
    (case l14 => k_is)
    (case c14 => k_is)
    (case k14 => k_is)
    (case a15 => k_is)
    (case l15 => k_is)
    (case c15 => k_is)
    (case k15 => k_is)
    (case a16 => k_is)
    (case l16 => k_is)
    (case c16 => k_is)
    (case k16 => k_is)
    (case a17 => k_is)
    (case l17 => k_is)
    (case c17 => k_is)
    (case k17 => k_is)
    (case a18 => k_is)
    (case l18 => k_is)
    (case c18 => k_is)
    (case k18 => k_is)
    (case a19 => k_is)
    (case l19 => k_is)
    (case c19 => k_is)
    (case k19 => k_is)
    (case a20 => k_is)
    (case l20 => k_is)
    (case c20 => k_is)
    (case k20 => k_is)
    (case a21 => k_is)
    (case l21 => k_is)
    (case c21 => k_is)
    (case k21 => k_is)
    (case a22 => k_is)
    (case l22 => k_is)
    (case c22 => k_is)
    (case k22 => k_is)
    (case a23 => k_is)
    (case l23 => k_is)
    (case c23 => k_is)
    (case k23 => k_is)
    (case a24 => k_is)
    (case l24 => k_is)
    (case c24 => k_is)
    (case k24 => k_is)
    (case z_len => k_is)
    (case z_range => k_is)
    (case z_tuple => k_is)
    (case z_all => k_is)
    (case z_isinstance => k_is)
    (case z_int => k_is)
    (case z_bool => k_is)
    (case z_set => k_is)
    (case z_max => k_is)
    (case z_min => k_is)
    (case z_abs => k_is)
    (case z_list => k_is)
    (case z_sorted => k_is)
    (case z_great => k_is)
#print axioms PySem.Challenge.cw_viewwood_k42_whole_no_rising_row_is_long_holds
