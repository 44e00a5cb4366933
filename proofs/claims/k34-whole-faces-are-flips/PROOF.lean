import PyProof.Rows.All
import Wide.All
import OpenK.AllK
import Wide.FinOn
import HandS.ForMost
import KE.KDictKeyed
import HandS.Comp
import HandS.Iter
import HandS.Zip
import HandS.Evl
import PySem.Challenge.RW_alldiffs_k34_whole_faces_are_flips
import HandS.IsInst
import HandS.Steps
import HandS.Star
import HandS.ClsMeth
import HandS.Property
import HandS.Defaults
import HandS.HeadHook1
import HandS.HeadHook2
import HandS.Head0
import HandS.Head1
import HandS.Head2
import HandS.HeadEnd
import HandS.HeadHook3
import HandS.HeadHook4
import HandS.Style
import PyProof.EqAt
import PyProof.GenQ
import HandS.GenCall
import HandS.GenList
import KE.KDictCopyH
import KE.KDictWalk
import KE.KDictList
import HandS.More
import KE.GoesEnumKw
import KE.GoesMore
import HandS.SortKw
import KE.KDictZip
import KE.KDictItemsList
import HandS.Zip0
import HandS.TupAny
import HandS.DictComp
import HandS.SetBool
import HandS.Strs
import KE.SortKeyHeap
import HandS.Small
import HandS.IterVal
import KE.SortData
import KE.KDictSum
import HandS.OwnIter
import HandS.SetFor
import HandS.TupSets
section
set_option Elab.async false
set_option linter.all false
set_option maxRecDepth 100000
set_option maxHeartbeats 4000000
/-! Data of nested tuples in the abstract heap; dicts keyed by them. -/
namespace L2.K4
open PySem PySem.Spec PyProof.Rows

abbrev NK := NestedKey
/-- v is the data k in the heap H -/
def At (K : PySem.W.Frag) (H : Hp) (k : NK) (v : V) : Prop := Dp K H v k.data
def AtL (K : PySem.W.Frag) (H : Hp) (ks : List NK) (xs : List V) : Prop := DpAll K H xs (NestedKey.datas ks)
/-- the tuples of H stand in H' -/
def TK (K : PySem.W.Frag) (H H' : Hp) : Prop := ∀ a xs, SqT K H a xs → SqT K H' a xs

section
variable {K : PySem.W.Frag} {H H' H'' : Hp}
theorem TK.refl : TK K H H := fun _ _ z => z
theorem TK.trans (x : TK K H H') (y : TK K H' H'') : TK K H H'' := fun a xs z => y a xs (x a xs z)
/-- anything but a tuple is changed, or laid -/
theorem TK.upd {p : Addr} {o : HO} (hp : ∀ xs, H p ≠ some (.tup xs)) (hq : ∀ ob xs, H p ≠ some (.frz ob (.tup xs))) : TK K H (upd H p o) := fun a xs z => by
  rcases z with (z | ⟨ob, z⟩) | z
  · exact .inl (.inl (by rw [upd_ne (by intro e; subst e; exact hp xs z)]; exact z))
  · exact .inl (.inr ⟨ob, by rw [upd_ne (by intro e; subst e; exact hq ob xs z)]; exact z⟩)
  · exact .inr z
theorem TK.laid {p : Addr} {o : HO} (hp : H p = none) : TK K H (L2.upd H p o) := TK.upd (fun _ z => by rw [hp] at z; cases z) fun _ _ z => by rw [hp] at z; cases z
theorem TK.lst {p : Addr} {o : HO} {ys : List V} (hp : H p = some (.lst ys)) : TK K H (L2.upd H p o) := TK.upd (fun _ z => by rw [hp] at z; cases z) fun _ _ z => by rw [hp] at z; cases z
theorem TK.ext {p : Addr} {o : HO} {φ : Heap → Prop} (hp : H p = some (.ext φ)) : TK K H (L2.upd H p o) := TK.upd (fun _ z => by rw [hp] at z; cases z) fun _ _ z => by rw [hp] at z; cases z
theorem TK.ins {p C dx : Addr} {o : HO} {fs : List (Str × V)} (hp : H p = some (.ins C dx fs)) : TK K H (L2.upd H p o) := TK.upd (fun _ z => by rw [hp] at z; cases z) fun _ _ z => by rw [hp] at z; cases z
theorem TK.dK {p : Addr} {o : HO} {kvs : List (Key × V)} (hp : H p = some (.dK kvs)) : TK K H (L2.upd H p o) := TK.upd (fun _ z => by rw [hp] at z; cases z) fun _ _ z => by rw [hp] at z; cases z
/-- all that is tracked stands -/
abbrev Ex (H H' : Hp) : Prop := ∀ a o, H a = some o → H' a = some o
theorem Ex.tk (e : Ex H H') : TK K H H' := fun a xs z => by
  rcases z with (z | ⟨ob, z⟩) | z
  · exact .inl (.inl (e _ _ z))
  · exact .inl (.inr ⟨ob, e _ _ z⟩)
  · exact .inr z
theorem Ex.refl : Ex H H := fun _ _ z => z
theorem Ex.trans (x : Ex H H') (y : Ex H' H'') : Ex H H'' := fun a o z => y a o (x a o z)
theorem Ex.laid {p : Addr} {o : HO} (hp : H p = none) : Ex H (upd H p o) := fun a u z => by rw [upd_ne (ne_of_none z hp)]; exact z
/-- an object that H does not know may change -/
theorem Ex.mut {p : Addr} {o : HO} (e : Ex H H') (hp : H p = none) : Ex H (upd H' p o) := fun a u z => by rw [upd_ne (ne_of_none z hp)]; exact e a u z
theorem Ex.free {p : Addr} (e : Ex H H') (hp : H' p = none) : H p = none := by
  cases h : H p with
  | none => rfl
  | some o => rw [e p o h] at hp; cases hp

mutual
theorem At.keep (t : TK K H H') : ∀ (k : NK) (v : V), At K H k v → At K H' k v
  | .none, _, h => by cases h; exact .non
  | .num i, _, h => by cases h; exact .int i
  | .text x, _, h => by cases h; exact .str x
  | .tup ks, _, h => by
    cases h with
    | tup hs ha => exact .tup (t _ _ hs) (AtL.keep t ks _ ha)
theorem AtL.keep (t : TK K H H') : ∀ (ks : List NK) (xs : List V), AtL K H ks xs → AtL K H' ks xs
  | [], _, h => by cases h; exact .nil
  | k :: ks, _, h => by
    cases h with
    | cons h1 h2 => exact .cons (At.keep t k _ h1) (AtL.keep t ks _ h2)
end
theorem At.num {i : Int} : At K H (.num i) (.int i) := .int i
theorem At.text {x : Str} : At K H (.text x) (.str x) := .str x
theorem At.num_eq {i : Int} {v : V} (h : At K H (.num i) v) : v = .int i := by cases h; rfl
theorem At.text_eq {x : Str} {v : V} (h : At K H (.text x) v) : v = .str x := by cases h; rfl
theorem At.tup {a : Addr} {xs : List V} {ks : List NK} (hs : SqT K H a xs) (h : AtL K H ks xs) : At K H (.tup ks) (.ref a) := Dp.tup hs h
theorem At.tup_inv {v : V} {ks : List NK} (h : At K H (.tup ks) v) : ∃ a xs, v = .ref a ∧ SqT K H a xs ∧ AtL K H ks xs := by
  cases h with
  | tup hs ha => exact ⟨_, _, rfl, hs, ha⟩
theorem AtL.nil : AtL K H [] [] := DpAll.nil
theorem AtL.cons {k : NK} {ks : List NK} {x : V} {xs : List V} (h : At K H k x) (t : AtL K H ks xs) : AtL K H (k :: ks) (x :: xs) := DpAll.cons h t
theorem AtL.nil_inv {xs : List V} (h : AtL K H [] xs) : xs = [] := by cases h; rfl
theorem AtL.cons_inv {k : NK} {ks : List NK} {xs : List V} (h : AtL K H (k :: ks) xs) : ∃ y ys, xs = y :: ys ∧ At K H k y ∧ AtL K H ks ys := by
  cases h with
  | cons h1 h2 => exact ⟨_, _, rfl, h1, h2⟩
theorem AtL.length : ∀ {ks : List NK} {xs : List V}, AtL K H ks xs → xs.length = ks.length
  | [], _, h => by rw [h.nil_inv]; rfl
  | _ :: _, _, h => by
    obtain ⟨y, ys, rfl, _, h2⟩ := h.cons_inv
    rw [List.length_cons, List.length_cons, AtL.length h2]
theorem AtL.get : ∀ {ks : List NK} {xs : List V} {i : Nat} {x : V}, AtL K H ks xs → xs[i]? = some x → ∃ k, ks[i]? = some k ∧ At K H k x
  | [], _, _, _, h, e => by rw [h.nil_inv] at e; cases e
  | k :: ks, _, 0, x, h, e => by
    obtain ⟨y, ys, rfl, h1, h2⟩ := h.cons_inv
    cases e
    exact ⟨k, rfl, h1⟩
  | k :: ks, _, i + 1, x, h, e => by
    obtain ⟨y, ys, rfl, h1, h2⟩ := h.cons_inv
    have e' : ys[i]? = some x := by simpa using e
    obtain ⟨k', q1, q2⟩ := AtL.get h2 e'
    exact ⟨k', by simpa using q1, q2⟩
theorem AtL.getK : ∀ {ks : List NK} {xs : List V} {i : Nat} {k : NK}, AtL K H ks xs → ks[i]? = some k → ∃ x, xs[i]? = some x ∧ At K H k x
  | [], _, _, _, h, e => by cases e
  | k :: ks, _, 0, x, h, e => by
    obtain ⟨y, ys, rfl, h1, h2⟩ := h.cons_inv
    cases e
    exact ⟨y, rfl, h1⟩
  | k :: ks, _, i + 1, k0, h, e => by
    obtain ⟨y, ys, rfl, h1, h2⟩ := h.cons_inv
    have e' : ks[i]? = some k0 := by simpa using e
    obtain ⟨x', q1, q2⟩ := AtL.getK h2 e'
    exact ⟨x', by simpa using q1, q2⟩
theorem AtL.append : ∀ {ks ls : List NK} {xs ys : List V}, AtL K H ks xs → AtL K H ls ys → AtL K H (ks ++ ls) (xs ++ ys)
  | [], _, _, _, h, h' => by rw [h.nil_inv]; exact h'
  | k :: ks, _, _, _, h, h' => by
    obtain ⟨y, ys, rfl, h1, h2⟩ := h.cons_inv
    exact AtL.cons h1 (AtL.append h2 h')
theorem AtL.drop : ∀ {ks : List NK} {xs : List V} (n : Nat), AtL K H ks xs → AtL K H (ks.drop n) (xs.drop n)
  | _, _, 0, h => h
  | [], _, n + 1, h => by rw [h.nil_inv]; exact AtL.nil
  | k :: ks, _, n + 1, h => by
    obtain ⟨y, ys, rfl, h1, h2⟩ := h.cons_inv
    exact AtL.drop n h2
theorem AtL.take : ∀ {ks : List NK} {xs : List V} (n : Nat), AtL K H ks xs → AtL K H (ks.take n) (xs.take n)
  | _, _, 0, h => by rw [List.take_zero, List.take_zero]; exact AtL.nil
  | [], _, n + 1, h => by rw [h.nil_inv, List.take_nil, List.take_nil]; exact AtL.nil
  | k :: ks, _, n + 1, h => by
    obtain ⟨y, ys, rfl, h1, h2⟩ := h.cons_inv
    exact AtL.cons h1 (AtL.take n h2)
theorem AtL.one {k : NK} {x : V} (h : At K H k x) : AtL K H [k] [x] := AtL.cons h AtL.nil
theorem AtL.two {k l : NK} {x y : V} (h : At K H k x) (h' : At K H l y) : AtL K H [k, l] [x, y] := AtL.cons h (AtL.one h')
end

section
variable {X : Cx} {pins : List (Addr × Obj)} {σ : St} {H : Hp} {s : Shared}
mutual
theorem nested_of {h : Heap} : ∀ (k : NK) (u : Value) (as : List Addr), Reads h u k.data as → NestedIs h k u
  | .none, _, _, r => by cases r; exact .none
  | .num i, _, _, r => by cases r; exact .int _ _
  | .text x, _, _, r => by cases r; exact .text _ _
  | .tup ks, _, _, r => by
    cases r with
    | tuple h1 h2 h3 h4 => exact .tup h1 h2 h3 (nesteds_of ks _ _ h4)
theorem nesteds_of {h : Heap} : ∀ (ks : List NK) (us : List Value) (as : List Addr), ReadsAll h us (NestedKey.datas ks) as → NestedAll h ks us
  | [], _, _, r => by cases r; exact .nil
  | k :: ks, _, _, r => by
    cases r with
    | cons h1 h2 => exact .cons (nested_of k _ _ h1) (nesteds_of ks _ _ h2)
end
theorem At.nested (I : Inv X pins σ H s) {k : NK} {v : V} {u : Value} (h : At X.K H k v) (r : RelV v u) : NestedIs s.heap k u := by
  obtain ⟨as, q⟩ := Dp.reads I k.data v u h r
  exact nested_of k u as q
theorem At.isKey (I : Inv X pins σ H s) {k : NK} {b : Addr} (h : At X.K H k (.ref b)) (hd : k.depth ≤ 8) : (nestedKind X.prog X.w).is s.heap k b := ⟨At.nested I h rfl, hd⟩
end

/-! ### dicts keyed by such data -/
section
variable {P : Program} {w : World} {K : PySem.W.Frag}
abbrev XsT := List (NK × Addr × Value)
/-- the dict's own object -/
def RawD (P : Program) (w : World) (d : Addr) (xs : XsT) : Heap → Prop := fun h =>
  ∃ o es ep, h.get? d = some o ∧ o.ExactDict ∧ o.data = .dict es ep ∧ es.toList = xs.map (entryOfKey (nestedKind P w)) ∧ (xs.map (·.1)).Nodup
def NdO (P : Program) (w : World) (d : Addr) (xs : XsT) : HO := .ext (RawD P w d xs)
def RowOk (K : PySem.W.Frag) (H : Hp) (p : NK × V) (q : NK × Addr × Value) : Prop := p.1 = q.1 ∧ At K H p.1 (.ref q.2.1) ∧ p.1.depth ≤ 8 ∧ RelV p.2 q.2.2
/-- at d stands a dict with the entries kvs -/
def ND (P : Program) (w : World) (K : PySem.W.Frag) (H : Hp) (d : Addr) (kvs : List (NK × V)) : Prop :=
  ∃ xs : XsT, H d = some (NdO P w d xs) ∧ Paired (RowOk K H) kvs xs ∧ kvs.length ≤ sizeLine ∧ (d == sysModules) = false

theorem ND.keep {H H' : Hp} {d : Addr} {kvs : List (NK × V)} (x : ND P w K H d kvs) (t : TK K H H') (e : ∀ o, H d = some o → H' d = some o) : ND P w K H' d kvs := by
  obtain ⟨xs, h1, h2, h3, h4⟩ := x
  exact ⟨xs, e _ h1, Paired.mapP h2 fun p q z => ⟨z.1, At.keep t _ _ z.2.1, z.2.2⟩, h3, h4⟩
theorem ND.ex {H H' : Hp} {d : Addr} {kvs : List (NK × V)} (x : ND P w K H d kvs) (e : Ex H H') : ND P w K H' d kvs := x.keep (Ex.tk e) fun o z => e _ _ z
theorem ND.isExt {H : Hp} {d : Addr} {kvs : List (NK × V)} (x : ND P w K H d kvs) : ∃ φ, H d = some (.ext φ) := let ⟨_, h, _⟩ := x; ⟨_, h⟩
theorem rowsVal {H : Hp} {kvs : List (NK × V)} {xs : XsT} (r : Paired (RowOk K H) kvs xs) (k : NK) : RelO (valV kvs k) ((atKey xs k).map (·.2)) := by
  induction r with
  | nil => exact True.intro
  | @cons p q ps qs h t ih =>
    by_cases e : p.1 = k
    · have e' : q.1 = k := h.1.symm.trans e
      have b : atKey (q :: qs) k = some q.2 := by simp [atKey, List.find?_cons, e']
      rw [valV_pos e, b]; exact h.2.2.2
    · have e' : ¬ q.1 = k := fun z => e (h.1.trans z)
      have b : atKey (q :: qs) k = atKey qs k := by simp [atKey, List.find?_cons, e']
      rw [valV_neg e, b]; exact ih
theorem rowsRepl {H : Hp} {kvs : List (NK × V)} {xs : XsT} (r : Paired (RowOk K H) kvs xs) (k : NK) {y : V} {u : Value} (ry : RelV y u) :
    Paired (RowOk K H) (kvs.map fun kv => if kv.1 = k then (kv.1, y) else kv) (xs.map (putAt k u)) := by
  induction r with
  | nil => exact .nil
  | @cons p q ps qs h t ih =>
    rw [List.map_cons, List.map_cons]
    refine .cons ?_ ih
    unfold putAt
    by_cases e : p.1 = k
    · rw [if_pos e, if_pos (h.1.symm.trans e)]; exact ⟨h.1, h.2.1, h.2.2.1, ry⟩
    · rw [if_neg e, if_neg (fun z => e (h.1.trans z))]; exact h
theorem rowsPut {H : Hp} {kvs : List (NK × V)} {xs : XsT} (r : Paired (RowOk K H) kvs xs) (k : NK) {b : Addr} {y : V} {u : Value} (hb : At K H k (.ref b)) (hd : k.depth ≤ 8) (ry : RelV y u) :
    Paired (RowOk K H) (putK kvs k y) (storedH xs k b u) := by
  have e : (kvs.any fun kv => decide (kv.1 = k)) = (atKey xs k).isSome := by
    rw [valV_any, (rowsVal r k).isSome_eq, Option.isSome_map]
  unfold putK storedH
  rw [e]
  by_cases q : (atKey xs k).isSome = true
  · rw [if_pos q, if_pos q]; exact rowsRepl r k ry
  · rw [if_neg q, if_neg q]; exact Paired.snoc r ⟨rfl, hb, hd, ry⟩
theorem raw_ok {H : Hp} {h : Heap} {d : Addr} {xs : XsT} (r : RawD P w d xs h) : ObjOk P w H h d (NdO P w d xs) := by
  obtain ⟨o, es, ep, h1, h2, h3, h4, h5⟩ := r
  refine ⟨⟨o, es, ep, h1, h2, h3, h4, h5⟩, ⟨o, h1⟩, ?_⟩
  rintro a b ⟨o', es', ep', g1, g2, g3, g4, g5⟩ hk
  exact ⟨o', es', ep', hk _ g1, g2, g3, g4, g5⟩
end

section
variable {X : Cx} {pins : List (Addr × Obj)} {σ : St} {H : Hp} {s : Shared} {d : Addr} {kvs : List (NK × V)}
theorem ND.dictOf (I : Inv X pins σ H s) (x : ND X.prog X.w X.K H d kvs) : ∃ xs, H d = some (NdO X.prog X.w d xs) ∧ Paired (RowOk X.K H) kvs xs ∧ kvs.length ≤ sizeLine ∧ (d == sysModules) = false ∧ s.heap.DictOfH (nestedKind X.prog X.w) d xs := by
  obtain ⟨xs, h1, h2, h3, h4⟩ := x
  have hok := I.hok d _ h1
  obtain ⟨⟨o, es, ep, g1, g2, g3, g4, g5⟩, _, _⟩ := hok
  refine ⟨xs, h1, h2, h3, h4, o, es, ep, g1, g2, g3, g4, ?_, g5⟩
  have all : ∀ {l : List (NK × V)} {m : XsT}, Paired (RowOk X.K H) l m → ∀ x ∈ m, (nestedKind X.prog X.w).is s.heap x.1 x.2.1 := by
    intro l m q
    induction q with
    | nil => intro x hx; exact nomatch hx
    | @cons p q ps qs hq t ih =>
      intro x hx
      rcases List.mem_cons.mp hx with e | hx
      · subst e
        obtain ⟨z1, z2, z3, _⟩ := hq
        rw [z1] at z2 z3
        exact At.isKey I z2 z3
      · exact ih x hx
  exact all h2
theorem room8 {A : Around} (hu : A.units + 9 < cLine) : (nestedKind X.prog X.w).room A.in1 := by
  show A.in1.units + 8 < cLine
  rw [Around.in1_units]; omega

/-- {} -/
def tDNewN (P : Program) (w : World) (K : PySem.W.Frag) : TE := fun _ H Q => ∀ p H', H p = none → Ex H H' → ND P w K H' p [] → (∀ b, b ≠ p → H' b = H b) → Q (.ref p) H'
theorem nd_new {P : Program} {w : World} {K : PySem.W.Frag} {H : Hp} {p : Addr} (hp : (p == sysModules) = false) : ND P w K (upd H p (NdO P w p [])) p [] :=
  ⟨[], upd_same, .nil, Nat.zero_le _, hp⟩
theorem raw_new {P : Program} {w : World} (h : Heap) : RawD P w h.objs.size [] (h.push { cls := .type "dict", data := .dict #[] }) :=
  ⟨_, #[], 0, Heap.get?_push_size _ rfl, ⟨rfl, rfl, rfl⟩, rfl, rfl, List.nodup_nil⟩
theorem big_ne {h : Heap} (hb : sysModules < h.objs.size) : (h.objs.size == sysModules) = false := beq_eq_false_iff_ne.mpr (Ne.symm (Nat.ne_of_lt hb))
theorem pe_dnewN {pos : Pos} : PE X (.Dict [] [] pos) (tDNewN X.prog X.w X.K) := ⟨fun pins s σ H Q I h => by
  have nn := I.hok.fresh (Nat.le_refl s.heap.objs.size)
  refine wpAny_Dict_empty ⟨.ref s.heap.objs.size, upd H s.heap.objs.size (NdO X.prog X.w s.heap.objs.size []), I.laid (t' := s.toks) (fun _ _ q => Heap.get?_push_of_some _ q) (Nat.le_refl _) (raw_ok (raw_new s.heap)), rfl, h _ _ nn (Ex.laid nn) (nd_new (big_ne I.big)) fun b hb => upd_ne hb⟩⟩

/-- d[k] -/
def rGetN (P : Program) (w : World) (K : PySem.W.Frag) : R2 := fun x y H Q => ∃ a kvs k v, x = .ref a ∧ ND P w K H a kvs ∧ At K H k y ∧ (∃ ks, k = .tup ks) ∧ k.depth ≤ 8 ∧ valV kvs k = some v ∧ Q v H
theorem getN_ok {A : Around} {E : Value → Shared → Prop} {k : NK} {v y : V} {u : Value} {Q : Value → Shared → Prop} (hu : A.units + 9 < cLine) (I : Inv X pins σ H s) (x : ND X.prog X.w X.K H d kvs) (hk : At X.K H k y) (ht : ∃ ks, k = .tup ks) (hd : k.depth ≤ 8)
    (hv : valV kvs k = some v) (ry : RelV y u) (h : ∀ w' s', Inv X pins σ H s' → RelV v w' → Q w' s') : wpAny (model X.prog X.w) A (getItem (.ref d) u) Q E s := by
  obtain ⟨ks, rfl⟩ := ht
  obtain ⟨b, xs', rfl, _, _⟩ := hk.tup_inv
  cases ry
  obtain ⟨xs, h1, h2, h3, h4, h5⟩ := x.dictOf I
  obtain ⟨w', hw, rw'⟩ := RelO.some_of (v := v) (o := (atKey xs (.tup ks)).map (·.2)) (by rw [← hv]; exact rowsVal h2 _)
  obtain ⟨p, hp, hp2⟩ := Option.map_eq_some_iff.mp hw
  refine wpAny_getItem_heap (room8 (X := X) hu) (hk.isKey I hd) h5 hp ?_
  rw [hp2]
  exact h w' _ (I.tok _) rw'
theorem ND.type (I : Inv X pins σ H s) (x : ND X.prog X.w X.K H d kvs) : s.TypeIs (.ref d) "dict" := by
  obtain ⟨xs, h1, h2, h3, h4, h5⟩ := x.dictOf I
  exact h5.typeIs
theorem pe_getN {o i : Expr} {td ty : TE} {pos : Pos} (hu : X.A.units + 9 < cLine) (ho : PE X o td) (hi : PE X i ty) (hs : NoSl i) : PE X (.Subscript o i pos) (tOp (rGetN X.prog X.w X.K) td ty) := by
  refine ⟨fun pins s σ H Q I h => ?_⟩
  refine subD_of PySem.F.slot_dict_getitem.lookup hs (thn (ho.run pins s σ H _ I h) fun u s1 ⟨x, H1, I1, rx, q1⟩ => thn (hi.run pins s1 σ H1 _ I1 q1) fun iv s2 ⟨y, H2, I2, ry, a, kvs, k, v, ex, hN, hk, ht, hd, hv, q2⟩ => ?_)
  subst ex
  cases rx
  exact ⟨hN.type I2, getN_ok hu I2 hN hk ht hd hv ry fun w' s3 I3 rw' => ⟨v, H2, I3, rw', q2⟩⟩
/-- k in d, k not in d -/
def rInN (P : Program) (w : World) (K : PySem.W.Frag) (neg : Bool) : R2 := fun x y H Q => ∃ a kvs k, y = .ref a ∧ ND P w K H a kvs ∧ At K H k x ∧ (∃ ks, k = .tup ks) ∧ k.depth ≤ 8 ∧ Q (.bl (if neg then !(valV kvs k).isSome else (valV kvs k).isSome)) H
theorem isSome_rows {K : PySem.W.Frag} {kvs : List (NK × V)} {xs : XsT} {k : NK} (r : Paired (RowOk K H) kvs xs) : (valV kvs k).isSome = (atKey xs k).isSome := by
  have q := (rowsVal r k).isSome_eq
  rw [Option.isSome_map] at q
  exact q
theorem op_inN (hu : X.A.units + 9 < cLine) : OpR X (compareOp .In) (rInN X.prog X.w X.K false) := by
  intro pins s σ H x y v u Q I rx ry ⟨a, kvs, k, ey, hN, hk, ⟨ks, ek⟩, hd, q⟩
  subst ey ek
  obtain ⟨b, xs', rfl, _, _⟩ := hk.tup_inv
  cases rx
  cases ry
  obtain ⟨xs, h1, h2, h3, h4, h5⟩ := hN.dictOf I
  refine wpAny_in_heap (room8 (X := X) hu) (hk.isKey I hd) h4 h5 ⟨.bl (atKey xs (.tup ks)).isSome, H, I.tok _, rfl, ?_⟩
  rw [← isSome_rows h2]
  exact q
theorem op_notInN (hu : X.A.units + 9 < cLine) : OpR X (compareOp .NotIn) (rInN X.prog X.w X.K true) := by
  intro pins s σ H x y v u Q I rx ry ⟨a, kvs, k, ey, hN, hk, ⟨ks, ek⟩, hd, q⟩
  subst ey ek
  obtain ⟨b, xs', rfl, _, _⟩ := hk.tup_inv
  cases rx
  cases ry
  obtain ⟨xs, h1, h2, h3, h4, h5⟩ := hN.dictOf I
  refine wpAny_notIn_heap (room8 (X := X) hu) (hk.isKey I hd) h4 h5 ⟨.bl (!(atKey xs (.tup ks)).isSome), H, I.tok _, rfl, ?_⟩
  rw [← isSome_rows h2]
  exact q
/-- d[k] = v -/
def rSetN (P : Program) (w : World) (K : PySem.W.Frag) : TSet := fun o i v H Q => ∃ a kvs k, o = .ref a ∧ ND P w K H a kvs ∧ At K H k i ∧ (∃ ks, k = .tup ks) ∧ k.depth ≤ 8 ∧ kvs.length < sizeLine ∧
  ∀ H', (∀ b, b ≠ a → H' b = H b) → TK K H H' → ND P w K H' a (putK kvs k v) → Q H'
theorem putN_ok {A : Around} {E : Value → Shared → Prop} {k : NK} {b : Addr} {v : V} {r : Value} {Q : Unit → Shared → Prop} {run : Sem Unit} (I : Inv X pins σ H s) (x : ND X.prog X.w X.K H d kvs) (hk : At X.K H k (.ref b)) (hd : k.depth ≤ 8) (hz : kvs.length < sizeLine)
    (rv : RelV v r) (hrun : ∀ xs, s.heap.DictOfH (nestedKind X.prog X.w) d xs → (nestedKind X.prog X.w).is s.heap k b → xs.length ≤ sizeLine → (∀ h', h'.DictOfH (nestedKind X.prog X.w) d (storedH xs k b r) → Heap.SameBut d s.heap h' → ∀ tk, Q () { s with heap := h', toks := tk }) → wpAny (model X.prog X.w) A run Q E s)
    (h : ∀ H' s', Inv X pins σ H' s' → (∀ b, b ≠ d → H' b = H b) → TK X.K H H' → ND X.prog X.w X.K H' d (putK kvs k v) → Q () s') : wpAny (model X.prog X.w) A run Q E s := by
  obtain ⟨xs, h1, h2, h3, h4, h5⟩ := x.dictOf I
  have hl : xs.length ≤ sizeLine := by rw [← Paired.length h2]; exact h3
  refine hrun xs h5 (hk.isKey I hd) hl fun h' dd hs tk => ?_
  obtain ⟨o, es, ep, g1, g2, g3, g4, g5, g6⟩ := dd
  have he : ∃ q, h'.get? d = some q := ⟨o, g1⟩
  have tkk : TK X.K H (upd H d (NdO X.prog X.w d (storedH xs k b r))) := TK.ext h1
  refine h (upd H d (NdO X.prog X.w d (storedH xs k b r))) _ (d_write I (by rw [h1]; exact True.intro) hs he (raw_ok ⟨o, es, ep, g1, g2, g3, g4, g6⟩)) (fun b hb => upd_ne hb) tkk ?_
  refine ⟨_, upd_same, rowsPut (Paired.mapP h2 fun p q z => ⟨z.1, At.keep tkk _ _ z.2.1, z.2.2⟩) k (At.keep tkk _ _ hk) hd rv, ?_, h4⟩
  have := length_putK kvs k v
  omega
theorem set_N (hu : X.A.units + 9 < cLine) : PSet X (rSetN X.prog X.w X.K) := by
  intro pins s σ H o i v ov iv u Q I ro ri rv ⟨a, kvs, k, eo, hN, hk, ⟨ks, ek⟩, hd, hz, q⟩
  subst eo ek
  obtain ⟨b, xs', rfl, _, _⟩ := hk.tup_inv
  cases ro
  cases ri
  refine putN_ok (Q := fun _ s' => ∃ H', Inv X pins σ H' s' ∧ Q H') I hN hk hd hz rv (fun xs dd hkey hl fin => ?_) fun H' s' I' e1 e2 e3 => ⟨H', I', q H' e1 e2 e3⟩
  exact wpAny_setItem_heap (hsz := hl) (room8 (X := X) hu) hkey dd fun h' hm' hs' => fin h' hm' hs' _
end
end L2.K4
end
section
set_option Elab.async false
set_option linter.all false
set_option maxRecDepth 100000
set_option maxHeartbeats 4000000
/-! Walks whose items stand, comprehensions and loops over them. -/
namespace L2.K4
open PySem PySem.Spec PyProof.Rows L2

theorem exl {K : PySem.W.Frag} {H H' : Hp} {a : Addr} {xs : List V} (e : Ex H H') (h : SqL K H a xs) : SqL K H' a xs := Evl.ex_l e h
theorem ext' {K : PySem.W.Frag} {H H' : Hp} {a : Addr} {xs : List V} (e : Ex H H') (h : SqT K H a xs) : SqT K H' a xs := Evl.ex_t e h
/-- at H the walk J hands out n items, the i-th as Y tells -/
def SW (J : It) (n : Nat) (Y : Nat → V → Hp → Prop) (H : Hp) : Prop := ∀ i, (i < n → J.go i H ∧ ∀ x H', J.yld i H x H' → Ex H H' ∧ Y i x H') ∧ (n ≤ i → J.stop i H)
section
variable {K : PySem.W.Frag} {H : Hp}
theorem sqL_inj {a : Addr} {xs ys : List V} (hx : H a = some (.lst xs)) (hy : SqL K H a ys) (hn : K.lookup a = none) : ys = xs := by
  rcases hy with (h | ⟨o, h⟩) | ⟨o, its, n, h, _⟩
  · rw [hx] at h; cases h; rfl
  · rw [hx] at h; cases h
  · rw [hn] at h; cases h
theorem sw_list {a : Addr} {xs : List V} (h : SqL K H a xs) : SW (Itl K a) xs.length (fun i x _ => xs[i]? = some x) H := fun i =>
  ⟨fun hi => ⟨⟨xs, xs[i], h, List.getElem?_eq_getElem hi⟩, fun x H' ⟨e, q⟩ => ⟨by rw [e]; exact Ex.refl, q xs h⟩⟩, fun hi => ⟨xs, h, hi⟩⟩
theorem sw_tup {a : Addr} {xs : List V} (h : SqT K H a xs) : SW (Itt K a) xs.length (fun i x _ => xs[i]? = some x) H := fun i =>
  ⟨fun hi => ⟨⟨xs, xs[i], h, List.getElem?_eq_getElem hi⟩, fun x H' ⟨e, q⟩ => ⟨by rw [e]; exact Ex.refl, q xs h⟩⟩, fun hi => ⟨xs, h, hi⟩⟩
theorem sw_range {lo : Int} {n : Nat} : SW (Itr lo n) n (fun i x _ => x = .int (lo + i)) H := fun i =>
  ⟨fun hi => ⟨hi, fun x H' ⟨e, q⟩ => ⟨by rw [e]; exact Ex.refl, q⟩⟩, fun hi => hi⟩
theorem sw_enum {a : Addr} {xs : List V} (h : SqL K H a xs) : SW (Ite K a) xs.length (fun i v H' => ∃ T x, v = .ref T ∧ H' T = some (.tup [.int (i : Nat), x]) ∧ xs[i]? = some x) H := fun i =>
  ⟨fun hi => ⟨⟨xs, xs[i], h, List.getElem?_eq_getElem hi⟩, fun x H' ⟨T, y, e, hT, eH, q⟩ => ⟨by rw [eH]; exact Ex.laid hT, T, y, e, by rw [eH]; exact upd_same, q xs h⟩⟩, fun hi => ⟨xs, h, hi⟩⟩
theorem sw_zip {a b : Addr} {xs ys : List V} (h : SqL K H a xs) (h' : SqL K H b ys) : SW (Itz K a b) (min xs.length ys.length) (fun i v H' => ∃ T x y, v = .ref T ∧ H' T = some (.tup [x, y]) ∧ xs[i]? = some x ∧ ys[i]? = some y) H := fun i =>
  ⟨fun hi => ⟨⟨xs, ys, xs[i], ys[i], h, h', List.getElem?_eq_getElem (by omega), List.getElem?_eq_getElem (by omega)⟩, fun x H' ⟨T, y, z, e, hT, eH, q1, q2⟩ => ⟨by rw [eH]; exact Ex.laid hT, T, y, z, e, by rw [eH]; exact upd_same, q1 xs h, q2 ys h'⟩⟩, fun hi => ⟨xs, ys, h, h', by omega⟩⟩
theorem sw_items {d : Addr} {o : Obj} {kvs : List (Key × V)} (h : H d = some (.frz o (.dK kvs))) : SW (Iti d o kvs) kvs.length (fun i v H' => ∃ T k x, v = .ref T ∧ H' T = some (.tup [kV k, x]) ∧ kvs[i]? = some (k, x)) H := fun i =>
  ⟨fun hi => ⟨⟨h, hi⟩, fun x H' ⟨T, k, y, q, e, hT, eH⟩ => ⟨by rw [eH]; exact Ex.laid hT, T, k, y, e, by rw [eH]; exact upd_same, q⟩⟩, fun hi => ⟨h, hi⟩⟩
end
/-- one turn of a comprehension: what is added, if anything -/
def tturn (g : TG) (tt : TT) (te : TE) (vs : List Nat) (σ : L2.St) (x : V) (H : Hp) (Q : Option V → Hp → Prop) : Prop :=
  g x (wipe σ vs) H fun σ2 H2 => wipe σ2 vs = wipe σ vs ∧ tt σ2 H2 fun b H3 => if b = true then te σ2 H3 fun y H4 => Q (some y) H4 else Q none H3
def OptP {κ : Type} (P : κ → V → Hp → Prop) (H : Hp) : Option κ → Option V → Prop
  | none, none => True
  | some k, some y => P k y H
  | _, _ => False
/-- made so far: ys, as ks tells -/
theorem paired_snoc {α β : Type} {R : α → β → Prop} {as : List α} {bs : List β} {a : α} {b : β} (h : Paired R as bs) (r : R a b) : Paired R (as ++ [a]) (bs ++ [b]) := by
  induction h with
  | nil => exact .cons r .nil
  | cons h t ih => exact .cons h ih
theorem paired_mono {α β : Type} {R S : α → β → Prop} {as : List α} {bs : List β} (h : Paired R as bs) (r : ∀ a b, R a b → S a b) : Paired S as bs := by
  induction h with
  | nil => exact .nil
  | cons h t ih => exact .cons (r _ _ h) ih
theorem paired_len {α β : Type} {R : α → β → Prop} {as : List α} {bs : List β} (h : Paired R as bs) : as.length = bs.length := by
  induction h with
  | nil => rfl
  | cons h t ih => rw [List.length_cons, List.length_cons, ih]
def made {κ : Type} (ks : Nat → Option κ) (n : Nat) : List κ := (List.range n).filterMap ks
theorem made_succ {κ : Type} (ks : Nat → Option κ) (n : Nat) : made ks (n + 1) = made ks n ++ (ks n).toList := by
  unfold made
  rw [List.range_succ, List.filterMap_append]
  cases h : ks n <;> simp [h]
theorem made_len {κ : Type} (ks : Nat → Option κ) (n : Nat) : (made ks n).length ≤ n := by
  have := List.length_filterMap_le ks (List.range n)
  rw [List.length_range] at this
  exact this
theorem made_all {κ : Type} (xs : List κ) : made (fun i => xs[i]?) xs.length = xs := by
  unfold made
  apply List.ext_getElem?
  intro i
  induction xs with
  | nil => simp
  | cons x xs ih => 
    rw [List.length_cons, List.range_succ_eq_map, List.filterMap_cons]
    simp only [List.getElem?_cons_zero, List.filterMap_map]
    have e : ((fun i => (x :: xs)[i]?) ∘ Nat.succ) = fun i => xs[i]? := by funext j; simp
    rw [e]
    have : List.filterMap (fun i => xs[i]?) (List.range xs.length) = xs := by
      have := made_aux xs
      exact this
    rw [this]
where
  made_aux : ∀ xs : List κ, List.filterMap (fun i => xs[i]?) (List.range xs.length) = xs
  | [] => rfl
  | x :: xs => by
    rw [List.length_cons, List.range_succ_eq_map, List.filterMap_cons]
    simp only [List.getElem?_cons_zero, List.filterMap_map]
    have e : ((fun i => (x :: xs)[i]?) ∘ Nat.succ) = fun i => xs[i]? := by funext j; simp
    rw [e, made_aux xs]

/-- all but D stands -/
def KD (D : Addr) (H H' : Hp) : Prop := ∀ a o, a ≠ D → H a = some o → H' a = some o
theorem KD.ex {D : Addr} {H H' : Hp} (e : Ex H H') : KD D H H' := fun a o _ h => e a o h
theorem KD.upd {D : Addr} {H : Hp} {o : HO} : KD D H (upd H D o) := fun a u hn h => by rw [upd_ne hn]; exact h
/-- without D -/
def er (D : Addr) (H : Hp) : Hp := fun a => if a = D then none else H a
theorem er_ne {D a : Addr} {H : Hp} (h : a ≠ D) : er D H a = H a := if_neg h
theorem ex_er {D : Addr} {H : Hp} : Ex (er D H) H := fun a o h => by
  unfold er at h
  split at h
  · cases h
  · exact h
theorem KD.er {D : Addr} {H H' : Hp} (k : KD D H H') : Ex (er D H) (er D H') := fun a o h => by
  unfold K4.er at h
  split at h
  · cases h
  · rename_i hn
    rw [er_ne hn]; exact k a o hn h
def AtD (K : PySem.W.Frag) (D : Addr) (k : NK) (v : V) (H : Hp) : Prop := At K (er D H) k v
theorem AtD.of {K : PySem.W.Frag} {D : Addr} {k : NK} {v : V} {H : Hp} {ys : List V} (h : At K H k v) (hd : H D = some (.lst ys)) : AtD K D k v H := by
  refine At.keep (fun a xs z => ?_) _ _ h
  have hne : ∀ ob, H a = some ob → (∀ zs, ob ≠ .lst zs) → a ≠ D := fun ob h1 h2 e => by rw [e, hd] at h1; exact h2 ys (Option.some.inj h1).symm
  rcases z with (z | ⟨ob, z⟩) | z
  · exact .inl (.inl (by rw [er_ne (hne _ z (fun _ q => by cases q))]; exact z))
  · exact .inl (.inr ⟨ob, by rw [er_ne (hne _ z (fun _ q => by cases q))]; exact z⟩)
  · exact .inr z
theorem AtD.mono {K : PySem.W.Frag} {D : Addr} (k : NK) (v : V) (H H' : Hp) (e : KD D H H') (h : AtD K D k v H) : AtD K D k v H' := At.keep (Ex.tk e.er) _ _ h
theorem AtD.at {K : PySem.W.Frag} {D : Addr} {k : NK} {v : V} {H : Hp} (h : AtD K D k v H) : At K H k v := At.keep (Ex.tk ex_er) _ _ h
theorem AtD.all {K : PySem.W.Frag} {D : Addr} {ks : List NK} {ys : List V} {H : Hp} (h : Paired (fun k y => AtD K D k y H) ks ys) : AtL K H ks ys := by
  induction h with
  | nil => exact AtL.nil
  | cons h t ih => exact AtL.cons h.at ih
/-- a plain value -/
def IsV (D : Addr) (k v : V) (H : Hp) : Prop := v = k
theorem IsV.mono {D : Addr} (k v : V) (H H' : Hp) (e : KD D H H') (h : IsV D k v H) : IsV D k v H' := h
theorem IsV.all {D : Addr} {ks ys : List V} {H : Hp} (h : Paired (fun k y => IsV D k y H) ks ys) : ys = ks := by
  induction h with
  | nil => rfl
  | cons h t ih => rw [ih, show _ = _ from h]
/-- a new list, of what R tells -/
def LsD {κ : Type} (R : κ → List V → Hp → Prop) (D : Addr) (k : κ) (v : V) (H : Hp) : Prop := ∃ p xs, v = .ref p ∧ p ≠ D ∧ H p = some (.lst xs) ∧ R k xs (er D H)
theorem LsD.mono {κ : Type} {R : κ → List V → Hp → Prop} (hR : ∀ k xs H H', Ex H H' → R k xs H → R k xs H') {D : Addr} (k : κ) (v : V) (H H' : Hp) (e : KD D H H') (h : LsD R D k v H) : LsD R D k v H' := by
  obtain ⟨p, xs, h1, h2, h3, h4⟩ := h
  exact ⟨p, xs, h1, h2, e p _ h2 h3, hR k xs _ _ e.er h4⟩

theorem lcG {J : It} {n : Nat} {Y : Nat → V → Hp → Prop} {g : TG} {tt : TT} {te : TE} {vs : List Nat} {σ : L2.St} {H : Hp} {D : Addr} {Qd : Hp → Prop} {κ : Type} (hD : H D = none) (ks : Nat → Option κ) (P : Addr → κ → V → Hp → Prop) (hm : ∀ {D} k v H H', KD D H H' → P D k v H → P D k v H') (hn : n < sizeLine)
    (hw : ∀ H', Ex H H' → SW J n Y H')
    (step : ∀ i x H1 zs, i < n → Ex H H1 → Y i x H1 → H1 D = some (.lst zs) → ∀ Q2 : Option V → Hp → Prop, (∀ v H2, Ex H1 H2 → OptP (P D) H2 (ks i) v → Q2 v H2) → tturn g tt te vs σ x H1 Q2)
    (fin : ∀ H2 ys, Ex H H2 → H2 D = some (.lst ys) → Paired (fun k y => P D k y H2) (made ks n) ys → Qd H2) :
    ∃ W : Nat → Nat → Hp → Prop, (∃ m, W 0 m (upd H D (.lst []))) ∧ ∀ i m H, W i m H →
      (J.stop i H ∧ Qd H) ∨ (J.go i H ∧ ∃ Nx : Hp → Prop, (∀ H', Nx H' → ∃ m', m' < m ∧ W (i + 1) m' H') ∧ ∀ x H', J.yld i H x H' → g x (wipe σ vs) H' fun σ2 H2 => wipe σ2 vs = wipe σ vs ∧ tt σ2 H2 fun b H3 =>
        if b = true then te σ2 H3 fun y H4 => ∃ acc, H4 D = some (.lst acc) ∧ acc.length < sizeLine ∧ Nx (upd H4 D (.lst (acc ++ [y]))) else Nx H3) := by
  let W : Nat → Nat → Hp → Prop := fun i m H' => m = n - i ∧ i ≤ n ∧ Ex H H' ∧ ∃ ys, H' D = some (.lst ys) ∧ Paired (fun k y => P D k y H') (made ks i) ys
  refine ⟨W, ⟨n, by simp, Nat.zero_le _, Ex.laid hD, [], upd_same, .nil⟩, ?_⟩
  rintro i m H' ⟨rfl, hi, e, ys, hy, hp⟩
  have s := hw H' e i
  rcases Nat.lt_or_ge i n with h | h
  · refine .inr ⟨(s.1 h).1, fun H'' => W (i + 1) (n - (i + 1)) H'', fun H'' q => ⟨_, by omega, q⟩, fun x H1 hy1 => ?_⟩
    obtain ⟨e1, y1⟩ := (s.1 h).2 x H1 hy1
    have hy' : H1 D = some (.lst ys) := e1 _ _ hy
    have hlen : ys.length < sizeLine := by
      rw [← paired_len hp]
      exact Nat.lt_of_le_of_lt (made_len _ _) (Nat.lt_of_le_of_lt hi hn)
    have key := step i x H1 ys h (e.trans e1) y1 hy' (fun v H2 => match v with
      | none => W (i + 1) (n - (i + 1)) H2
      | some y => ∃ acc, H2 D = some (.lst acc) ∧ acc.length < sizeLine ∧ W (i + 1) (n - (i + 1)) (upd H2 D (.lst (acc ++ [y])))) fun v H2 e2 ho => by
        have hyy : H2 D = some (.lst ys) := e2 _ _ hy'
        have ex2 : Ex H H2 := (e.trans e1).trans e2
        have hp2 : Paired (fun k y => P D k y H2) (made ks i) ys := paired_mono hp fun k y => hm k y _ _ (KD.ex (e1.trans e2))
        cases hk : ks i with
        | none =>
          rw [hk] at ho
          cases v with
          | some y => exact ho.elim
          | none => exact ⟨rfl, h, ex2, ys, hyy, by rw [made_succ, hk]; simpa using hp2⟩
        | some k =>
          rw [hk] at ho
          cases v with
          | none => exact ho.elim
          | some y =>
            refine ⟨ys, hyy, hlen, rfl, h, Ex.mut ex2 hD, ys ++ [y], upd_same, ?_⟩
            rw [made_succ, hk]
            exact paired_snoc (paired_mono hp2 fun k y => hm k y _ _ KD.upd) (hm k y _ _ KD.upd ho)
    exact key
  · have hi' : i = n := Nat.le_antisymm hi h
    subst hi'
    exact .inl ⟨s.2 (Nat.le_refl _), fin H' ys e hy hp⟩

theorem made_const {κ : Type} (k : κ) (n : Nat) : made (fun _ => some k) n = List.replicate n k := by
  unfold made
  induction n with
  | zero => rfl
  | succ n ih => rw [List.range_succ, List.filterMap_append, ih, List.replicate_succ']; rfl
/-- a loop over what stands -/
theorem forG {J : It} {n : Nat} {Y : Nat → V → Hp → Prop} {g : TG} {tb : TS} {D : Ends} {σ : L2.St} {H : Hp} (Pv : Nat → L2.St → Hp → Prop) (h0 : Pv 0 σ H) (hw : ∀ i σ' H', i ≤ n → Pv i σ' H' → SW J n Y H')
    (step : ∀ i x σ' H' H'', i < n → Pv i σ' H' → Ex H' H'' → Y i x H'' → g x σ' H'' fun σ2 H2 => tb { D with nx := Pv (i + 1), ct := Pv (i + 1), bk := D.nx } σ2 H2) (hd : ∀ σ' H', Pv n σ' H' → D.nx σ' H') :
    ∃ W : Nat → Nat → L2.St → Hp → Prop, (∃ m, W 0 m σ H) ∧ ∀ i m σ H, W i m σ H →
      (J.stop i H ∧ D.nx σ H) ∨ (J.go i H ∧ ∃ N : L2.St → Hp → Prop, (∀ σ' H', N σ' H' → ∃ m', m' < m ∧ W (i + 1) m' σ' H') ∧ ∀ x H', J.yld i H x H' → g x σ H' fun σ2 H2 => tb { D with nx := N, ct := N, bk := D.nx } σ2 H2) := by
  let W : Nat → Nat → L2.St → Hp → Prop := fun i m σ' H' => m = n - i ∧ i ≤ n ∧ Pv i σ' H'
  refine ⟨W, ⟨n, by simp, Nat.zero_le _, h0⟩, ?_⟩
  rintro i m σ' H' ⟨rfl, hi, hp⟩
  have s := hw i σ' H' hi hp i
  rcases Nat.lt_or_ge i n with h | h
  · exact .inr ⟨(s.1 h).1, Pv (i + 1), fun σ'' H'' q => ⟨n - (i + 1), by omega, rfl, h, q⟩, fun x H1 hy1 => step i x σ' H' H1 h hp ((s.1 h).2 x H1 hy1).1 ((s.1 h).2 x H1 hy1).2⟩
  · have hi' : i = n := Nat.le_antisymm hi h
    subst hi'
    exact .inl ⟨s.2 (Nat.le_refl _), hd σ' H' hp⟩
end L2.K4
end
section
set_option Elab.async false
set_option linter.all false
set_option maxRecDepth 100000
namespace L2.K4
open PySem L2
def top (i : Nat) : Stmt := PySem.Challenge.pw_alldiffs_k34_whole_faces_are_flips.main.body.getD i (.Pass ⟨0, 0, 0, 0⟩)
abbrev s_is_line : Stmt := top 11
abbrev s_is_text : Stmt := top 12
abbrev s_check_text : Stmt := top 13
abbrev s_check_texts : Stmt := top 14
abbrev s_is_cost : Stmt := top 16
abbrev s_are_own : Stmt := top 17
abbrev s_check_costs : Stmt := top 18
abbrev s_own_costs : Stmt := top 19
abbrev s_is_integer : Stmt := top 22
abbrev s_check_all : Stmt := top 32
abbrev s_is_place : Stmt := top 33
abbrev s_next_places : Stmt := top 34
abbrev s_is_pair_step : Stmt := top 35
abbrev s_step_cost : Stmt := top 36
abbrev s_costs_from_begin : Stmt := top 37
abbrev s_costs_to_end : Stmt := top 38
abbrev s_is_place_tuple : Stmt := top 41
abbrev s_side_steps : Stmt := top 45
abbrev s_numbered_steps : Stmt := top 46
abbrev s_face_key : Stmt := top 47
abbrev s_is_face_tuple : Stmt := top 48
abbrev s_law_pot : Stmt := top 51
abbrev s_law_draw : Stmt := top 52
abbrev s_law_pick : Stmt := top 53
abbrev s_law_texts : Stmt := top 54
abbrev s_law_weights : Stmt := top 55
abbrev s_law_price : Stmt := top 56
abbrev s_law_next : Stmt := top 57
abbrev s_law_longer : Stmt := top 58
abbrev s_law_ways : Stmt := top 59
abbrev s_law_cost : Stmt := top 60
abbrev s_law_least : Stmt := top 61
abbrev s_law_crossings : Stmt := top 64
abbrev s_law_is_above : Stmt := top 65
abbrev s_law_stretches : Stmt := top 66
abbrev s_law_flips : Stmt := top 67
abbrev s_law_passed : Stmt := top 68
abbrev s_law_right : Stmt := top 69
abbrev s_law : Stmt := top 70
abbrev s_Costs___init__ : Stmt := inClass (top 20) 1
abbrev s_Costs_costs_of : Stmt := inClass (top 20) 3
abbrev s_Costs_going : Stmt := inClass (top 20) 4
abbrev s_Costs_coming : Stmt := inClass (top 20) 5
abbrev s_Tables___init__ : Stmt := inClass (top 39) 0
abbrev s_Tables_check_place : Stmt := inClass (top 39) 6
abbrev s_Tables_onward : Stmt := inClass (top 39) 7
abbrev s_Tables_slack : Stmt := inClass (top 39) 8
abbrev s_Tables_total : Stmt := inClass (top 39) 3
abbrev s_Tables_begin_table : Stmt := inClass (top 39) 4
abbrev s_Tables_end_table : Stmt := inClass (top 39) 5
abbrev s_Web___init__ : Stmt := inClass (top 43) 0
abbrev s_Web_places : Stmt := inClass (top 43) 4
abbrev s_Web_steps : Stmt := inClass (top 43) 5
abbrev s_Faces___init__ : Stmt := inClass (top 49) 0
abbrev s_Faces_traced : Stmt := inClass (top 49) 1
abbrev s_Faces_neighbors : Stmt := inClass (top 49) 2
abbrev s_Faces_number_of : Stmt := inClass (top 49) 3
abbrev s_Faces_directly_ahead : Stmt := inClass (top 49) 9
abbrev s_Faces___iter__ : Stmt := inClass (top 49) 10
abbrev s_Faces___len__ : Stmt := inClass (top 49) 11
end L2.K4
end
section
set_option Elab.async false
set_option linter.all false
set_option maxRecDepth 100000
set_option maxHeartbeats 4000000
/-! What the top has left, by names. -/
namespace L2.K4
open PySem PySem.Spec PyProof.Rows L2
def frees : List Str := [("len" : Str), ("isinstance" : Str), ("all" : Str), ("any" : Str), ("range" : Str), ("zip" : Str), ("sum" : Str), ("min" : Str), ("max" : Str), ("abs" : Str), ("int" : Str), ("divmod" : Str), ("sorted" : Str), ("enumerate" : Str), ("list" : Str), ("tuple" : Str), ("dict" : Str), ("set" : Str), ("str" : Str), ("bool" : Str), ("iter" : Str)]
def glos : List Str := [("is_line" : Str), ("is_text" : Str), ("check_text" : Str), ("check_texts" : Str), ("is_cost" : Str), ("are_own" : Str), ("check_costs" : Str), ("own_costs" : Str), ("is_integer" : Str), ("check_all" : Str), ("is_place" : Str), ("next_places" : Str), ("is_pair_step" : Str), ("step_cost" : Str), ("costs_from_begin" : Str), ("costs_to_end" : Str), ("is_place_tuple" : Str), ("side_steps" : Str), ("numbered_steps" : Str), ("face_key" : Str), ("is_face_tuple" : Str), ("_law_pot" : Str), ("_law_draw" : Str), ("_law_pick" : Str), ("_law_texts" : Str), ("_law_weights" : Str), ("_law_price" : Str), ("_law_next" : Str), ("_law_longer" : Str), ("_law_ways" : Str), ("_law_cost" : Str), ("_law_least" : Str), ("_law_crossings" : Str), ("_law_is_above" : Str), ("_law_stretches" : Str), ("_law_flips" : Str), ("_law_passed" : Str), ("_law_right" : Str), ("law" : Str), ("Costs" : Str), ("Tables" : Str), ("Web" : Str), ("Faces" : Str)]
def clss : List Str := [("Costs" : Str), ("Tables" : Str), ("Web" : Str), ("Faces" : Str)]
def meths : List (Str × Str) := [(("Costs" : Str), ("costs_of" : Str)), (("Costs" : Str), ("going" : Str)), (("Costs" : Str), ("coming" : Str)), (("Tables" : Str), ("check_place" : Str)), (("Tables" : Str), ("onward" : Str)), (("Tables" : Str), ("slack" : Str)), (("Web" : Str), ("places" : Str)), (("Web" : Str), ("steps" : Str)), (("Faces" : Str), ("traced" : Str)), (("Faces" : Str), ("neighbors" : Str)), (("Faces" : Str), ("number_of" : Str)), (("Faces" : Str), ("directly_ahead" : Str)), (("Faces" : Str), ("__iter__" : Str)), (("Faces" : Str), ("__len__" : Str))]
def noats : List (Str × Str) := [(("Costs" : Str), ("plain_costs" : Str)), (("Costs" : Str), ("own_costs" : Str)), (("Tables" : Str), ("old_lines" : Str)), (("Tables" : Str), ("new_lines" : Str)), (("Tables" : Str), ("line_costs" : Str)), (("Tables" : Str), ("from_begin" : Str)), (("Tables" : Str), ("to_end" : Str)), (("Web" : Str), ("own_old" : Str)), (("Web" : Str), ("own_new" : Str)), (("Web" : Str), ("own_costs" : Str)), (("Web" : Str), ("own_steps" : Str)), (("Faces" : Str), ("faces_web" : Str)), (("Faces" : Str), ("rows" : Str)), (("Faces" : Str), ("own_numbers" : Str)), (("Faces" : Str), ("numbers_above" : Str)), (("Faces" : Str), ("numbers_below" : Str)), (("Faces" : Str), ("ahead_numbers" : Str)), (("Faces" : Str), ("behind_numbers" : Str))]
structure DefX where
  at_ : Str × Option Str
  name : Str
  qual : Str
  st : Stmt
  dvs : List V := []
def dfs : List DefX := [
  ⟨("is_line", none), "is_line", "is_line", s_is_line, []⟩,
  ⟨("is_text", none), "is_text", "is_text", s_is_text, []⟩,
  ⟨("check_text", none), "check_text", "check_text", s_check_text, []⟩,
  ⟨("check_texts", none), "check_texts", "check_texts", s_check_texts, []⟩,
  ⟨("is_cost", none), "is_cost", "is_cost", s_is_cost, []⟩,
  ⟨("are_own", none), "are_own", "are_own", s_are_own, []⟩,
  ⟨("check_costs", none), "check_costs", "check_costs", s_check_costs, []⟩,
  ⟨("own_costs", none), "own_costs", "own_costs", s_own_costs, []⟩,
  ⟨("is_integer", none), "is_integer", "is_integer", s_is_integer, []⟩,
  ⟨("check_all", none), "check_all", "check_all", s_check_all, []⟩,
  ⟨("is_place", none), "is_place", "is_place", s_is_place, []⟩,
  ⟨("next_places", none), "next_places", "next_places", s_next_places, []⟩,
  ⟨("is_pair_step", none), "is_pair_step", "is_pair_step", s_is_pair_step, []⟩,
  ⟨("step_cost", none), "step_cost", "step_cost", s_step_cost, []⟩,
  ⟨("costs_from_begin", none), "costs_from_begin", "costs_from_begin", s_costs_from_begin, []⟩,
  ⟨("costs_to_end", none), "costs_to_end", "costs_to_end", s_costs_to_end, []⟩,
  ⟨("is_place_tuple", none), "is_place_tuple", "is_place_tuple", s_is_place_tuple, []⟩,
  ⟨("side_steps", none), "side_steps", "side_steps", s_side_steps, []⟩,
  ⟨("numbered_steps", none), "numbered_steps", "numbered_steps", s_numbered_steps, []⟩,
  ⟨("face_key", none), "face_key", "face_key", s_face_key, []⟩,
  ⟨("is_face_tuple", none), "is_face_tuple", "is_face_tuple", s_is_face_tuple, []⟩,
  ⟨("_law_pot", none), "_law_pot", "_law_pot", s_law_pot, []⟩,
  ⟨("_law_draw", none), "_law_draw", "_law_draw", s_law_draw, []⟩,
  ⟨("_law_pick", none), "_law_pick", "_law_pick", s_law_pick, []⟩,
  ⟨("_law_texts", none), "_law_texts", "_law_texts", s_law_texts, []⟩,
  ⟨("_law_weights", none), "_law_weights", "_law_weights", s_law_weights, []⟩,
  ⟨("_law_price", none), "_law_price", "_law_price", s_law_price, []⟩,
  ⟨("_law_next", none), "_law_next", "_law_next", s_law_next, []⟩,
  ⟨("_law_longer", none), "_law_longer", "_law_longer", s_law_longer, []⟩,
  ⟨("_law_ways", none), "_law_ways", "_law_ways", s_law_ways, []⟩,
  ⟨("_law_cost", none), "_law_cost", "_law_cost", s_law_cost, []⟩,
  ⟨("_law_least", none), "_law_least", "_law_least", s_law_least, []⟩,
  ⟨("_law_crossings", none), "_law_crossings", "_law_crossings", s_law_crossings, []⟩,
  ⟨("_law_is_above", none), "_law_is_above", "_law_is_above", s_law_is_above, []⟩,
  ⟨("_law_stretches", none), "_law_stretches", "_law_stretches", s_law_stretches, []⟩,
  ⟨("_law_flips", none), "_law_flips", "_law_flips", s_law_flips, []⟩,
  ⟨("_law_passed", none), "_law_passed", "_law_passed", s_law_passed, []⟩,
  ⟨("_law_right", none), "_law_right", "_law_right", s_law_right, []⟩,
  ⟨("law", none), "law", "law", s_law, []⟩,
  ⟨("Costs", some "__init__"), "__init__", "Costs.__init__", s_Costs___init__, [.int 1, .int 1, .non]⟩,
  ⟨("Costs", some "costs_of"), "costs_of", "Costs.costs_of", s_Costs_costs_of, []⟩,
  ⟨("Costs", some "going"), "going", "Costs.going", s_Costs_going, []⟩,
  ⟨("Costs", some "coming"), "coming", "Costs.coming", s_Costs_coming, []⟩,
  ⟨("Tables", some "__init__"), "__init__", "Tables.__init__", s_Tables___init__, []⟩,
  ⟨("Tables", some "check_place"), "check_place", "Tables.check_place", s_Tables_check_place, []⟩,
  ⟨("Tables", some "onward"), "onward", "Tables.onward", s_Tables_onward, []⟩,
  ⟨("Tables", some "slack"), "slack", "Tables.slack", s_Tables_slack, []⟩,
  ⟨("Web", some "__init__"), "__init__", "Web.__init__", s_Web___init__, []⟩,
  ⟨("Web", some "places"), "places", "Web.places", s_Web_places, []⟩,
  ⟨("Web", some "steps"), "steps", "Web.steps", s_Web_steps, []⟩,
  ⟨("Faces", some "__init__"), "__init__", "Faces.__init__", s_Faces___init__, []⟩,
  ⟨("Faces", some "traced"), "traced", "Faces.traced", s_Faces_traced, []⟩,
  ⟨("Faces", some "neighbors"), "neighbors", "Faces.neighbors", s_Faces_neighbors, []⟩,
  ⟨("Faces", some "number_of"), "number_of", "Faces.number_of", s_Faces_number_of, []⟩,
  ⟨("Faces", some "directly_ahead"), "directly_ahead", "Faces.directly_ahead", s_Faces_directly_ahead, []⟩,
  ⟨("Faces", some "__iter__"), "__iter__", "Faces.__iter__", s_Faces___iter__, []⟩,
  ⟨("Faces", some "__len__"), "__len__", "Faces.__len__", s_Faces___len__, []⟩]
def prs : List DefX := [⟨("Tables", none), "total", "Tables.total", s_Tables_total, []⟩, ⟨("Tables", none), "begin_table", "Tables.begin_table", s_Tables_begin_table, []⟩, ⟨("Tables", none), "end_table", "Tables.end_table", s_Tables_end_table, []⟩]
/-- the facts that the walk takes -/
structure Cf (K : PySem.W.Frag) (mg : Str → Option Value) : Prop where
  free : ∀ x ∈ frees, mg x = none
  glo : ∀ x ∈ glos, mg x = some (.ref (He.ga K x)) ∧ PySem.W.keepIn K (.ref (He.ga K x)) = true
  most : ∃ t, mg "MOST" = some (.int 60 t)
  cls : ∀ x ∈ clss, Cls K (He.ga K x) ∧ Mk K (He.ga K x) (He.ma K (He.ga K x) "__init__")
  meth : ∀ p ∈ meths, Meth K (He.ga K p.1) p.2 (He.ma K (He.ga K p.1) p.2)
  noat : ∀ p ∈ noats, NoAttr K (He.ga K p.1) p.2
  dfn : ∀ (i : Nat) (d : DefX), dfs[i]? = some d → ∃ fd, FunD K d.name d.qual (defArgs d.st) (defBody d.st) (defScope d.st) d.dvs [] (He.fAd K d.at_) fd
  costMost : ∃ mc u, ClX.CRead K (He.ga K "Costs") mc ∧ ClX.CVal K (He.ga K "Costs") mc "MOST" (.int 999999) u
  costTy : (PySem.W.findIn K (.ref (He.ga K "Costs")) "__class__" = some (some (.builtin "object.__class__")) ∧ PySem.W.specialIn K (.builtin "object.__class__") "__get__" = some (some (.builtin "getset_descriptor.__get__")) ∧
    PySem.W.takesIn K (.builtin "object.__class__") = some true ∧ PySem.W.mroIn K (He.ga K "Costs") (.type "object") = some true) ∧ PySem.W.kitOne K (.ref (He.ga K "Costs")) (.ref (He.ga K "Costs")) = some true
  prop : ∀ (i : Nat) (d : DefX), prs[i]? = some d → ∃ p g fd, PropOf K (He.ga K d.at_.1) d.name p g ∧ FunD K d.name d.qual (defArgs d.st) (defBody d.st) (defScope d.st) [] [] g fd
section
variable {P : Program} {w : World} {K : PySem.W.Frag} {mg : Str → Option Value} {base : Heap}
variable (c : Cf K mg)
include c
theorem F_is_line : ∃ fd, FunD K "is_line" "is_line" (defArgs s_is_line) (defBody s_is_line) (defScope s_is_line) [] [] (He.ga K "is_line") fd := c.dfn 0 _ rfl
theorem F_is_text : ∃ fd, FunD K "is_text" "is_text" (defArgs s_is_text) (defBody s_is_text) (defScope s_is_text) [] [] (He.ga K "is_text") fd := c.dfn 1 _ rfl
theorem F_check_text : ∃ fd, FunD K "check_text" "check_text" (defArgs s_check_text) (defBody s_check_text) (defScope s_check_text) [] [] (He.ga K "check_text") fd := c.dfn 2 _ rfl
theorem F_check_texts : ∃ fd, FunD K "check_texts" "check_texts" (defArgs s_check_texts) (defBody s_check_texts) (defScope s_check_texts) [] [] (He.ga K "check_texts") fd := c.dfn 3 _ rfl
theorem F_is_cost : ∃ fd, FunD K "is_cost" "is_cost" (defArgs s_is_cost) (defBody s_is_cost) (defScope s_is_cost) [] [] (He.ga K "is_cost") fd := c.dfn 4 _ rfl
theorem F_are_own : ∃ fd, FunD K "are_own" "are_own" (defArgs s_are_own) (defBody s_are_own) (defScope s_are_own) [] [] (He.ga K "are_own") fd := c.dfn 5 _ rfl
theorem F_check_costs : ∃ fd, FunD K "check_costs" "check_costs" (defArgs s_check_costs) (defBody s_check_costs) (defScope s_check_costs) [] [] (He.ga K "check_costs") fd := c.dfn 6 _ rfl
theorem F_own_costs : ∃ fd, FunD K "own_costs" "own_costs" (defArgs s_own_costs) (defBody s_own_costs) (defScope s_own_costs) [] [] (He.ga K "own_costs") fd := c.dfn 7 _ rfl
theorem F_is_integer : ∃ fd, FunD K "is_integer" "is_integer" (defArgs s_is_integer) (defBody s_is_integer) (defScope s_is_integer) [] [] (He.ga K "is_integer") fd := c.dfn 8 _ rfl
theorem F_check_all : ∃ fd, FunD K "check_all" "check_all" (defArgs s_check_all) (defBody s_check_all) (defScope s_check_all) [] [] (He.ga K "check_all") fd := c.dfn 9 _ rfl
theorem F_is_place : ∃ fd, FunD K "is_place" "is_place" (defArgs s_is_place) (defBody s_is_place) (defScope s_is_place) [] [] (He.ga K "is_place") fd := c.dfn 10 _ rfl
theorem F_next_places : ∃ fd, FunD K "next_places" "next_places" (defArgs s_next_places) (defBody s_next_places) (defScope s_next_places) [] [] (He.ga K "next_places") fd := c.dfn 11 _ rfl
theorem F_is_pair_step : ∃ fd, FunD K "is_pair_step" "is_pair_step" (defArgs s_is_pair_step) (defBody s_is_pair_step) (defScope s_is_pair_step) [] [] (He.ga K "is_pair_step") fd := c.dfn 12 _ rfl
theorem F_step_cost : ∃ fd, FunD K "step_cost" "step_cost" (defArgs s_step_cost) (defBody s_step_cost) (defScope s_step_cost) [] [] (He.ga K "step_cost") fd := c.dfn 13 _ rfl
theorem F_costs_from_begin : ∃ fd, FunD K "costs_from_begin" "costs_from_begin" (defArgs s_costs_from_begin) (defBody s_costs_from_begin) (defScope s_costs_from_begin) [] [] (He.ga K "costs_from_begin") fd := c.dfn 14 _ rfl
theorem F_costs_to_end : ∃ fd, FunD K "costs_to_end" "costs_to_end" (defArgs s_costs_to_end) (defBody s_costs_to_end) (defScope s_costs_to_end) [] [] (He.ga K "costs_to_end") fd := c.dfn 15 _ rfl
theorem F_is_place_tuple : ∃ fd, FunD K "is_place_tuple" "is_place_tuple" (defArgs s_is_place_tuple) (defBody s_is_place_tuple) (defScope s_is_place_tuple) [] [] (He.ga K "is_place_tuple") fd := c.dfn 16 _ rfl
theorem F_side_steps : ∃ fd, FunD K "side_steps" "side_steps" (defArgs s_side_steps) (defBody s_side_steps) (defScope s_side_steps) [] [] (He.ga K "side_steps") fd := c.dfn 17 _ rfl
theorem F_numbered_steps : ∃ fd, FunD K "numbered_steps" "numbered_steps" (defArgs s_numbered_steps) (defBody s_numbered_steps) (defScope s_numbered_steps) [] [] (He.ga K "numbered_steps") fd := c.dfn 18 _ rfl
theorem F_face_key : ∃ fd, FunD K "face_key" "face_key" (defArgs s_face_key) (defBody s_face_key) (defScope s_face_key) [] [] (He.ga K "face_key") fd := c.dfn 19 _ rfl
theorem F_is_face_tuple : ∃ fd, FunD K "is_face_tuple" "is_face_tuple" (defArgs s_is_face_tuple) (defBody s_is_face_tuple) (defScope s_is_face_tuple) [] [] (He.ga K "is_face_tuple") fd := c.dfn 20 _ rfl
theorem F__law_pot : ∃ fd, FunD K "_law_pot" "_law_pot" (defArgs s_law_pot) (defBody s_law_pot) (defScope s_law_pot) [] [] (He.ga K "_law_pot") fd := c.dfn 21 _ rfl
theorem F__law_draw : ∃ fd, FunD K "_law_draw" "_law_draw" (defArgs s_law_draw) (defBody s_law_draw) (defScope s_law_draw) [] [] (He.ga K "_law_draw") fd := c.dfn 22 _ rfl
theorem F__law_pick : ∃ fd, FunD K "_law_pick" "_law_pick" (defArgs s_law_pick) (defBody s_law_pick) (defScope s_law_pick) [] [] (He.ga K "_law_pick") fd := c.dfn 23 _ rfl
theorem F__law_texts : ∃ fd, FunD K "_law_texts" "_law_texts" (defArgs s_law_texts) (defBody s_law_texts) (defScope s_law_texts) [] [] (He.ga K "_law_texts") fd := c.dfn 24 _ rfl
theorem F__law_weights : ∃ fd, FunD K "_law_weights" "_law_weights" (defArgs s_law_weights) (defBody s_law_weights) (defScope s_law_weights) [] [] (He.ga K "_law_weights") fd := c.dfn 25 _ rfl
theorem F__law_price : ∃ fd, FunD K "_law_price" "_law_price" (defArgs s_law_price) (defBody s_law_price) (defScope s_law_price) [] [] (He.ga K "_law_price") fd := c.dfn 26 _ rfl
theorem F__law_next : ∃ fd, FunD K "_law_next" "_law_next" (defArgs s_law_next) (defBody s_law_next) (defScope s_law_next) [] [] (He.ga K "_law_next") fd := c.dfn 27 _ rfl
theorem F__law_longer : ∃ fd, FunD K "_law_longer" "_law_longer" (defArgs s_law_longer) (defBody s_law_longer) (defScope s_law_longer) [] [] (He.ga K "_law_longer") fd := c.dfn 28 _ rfl
theorem F__law_ways : ∃ fd, FunD K "_law_ways" "_law_ways" (defArgs s_law_ways) (defBody s_law_ways) (defScope s_law_ways) [] [] (He.ga K "_law_ways") fd := c.dfn 29 _ rfl
theorem F__law_cost : ∃ fd, FunD K "_law_cost" "_law_cost" (defArgs s_law_cost) (defBody s_law_cost) (defScope s_law_cost) [] [] (He.ga K "_law_cost") fd := c.dfn 30 _ rfl
theorem F__law_least : ∃ fd, FunD K "_law_least" "_law_least" (defArgs s_law_least) (defBody s_law_least) (defScope s_law_least) [] [] (He.ga K "_law_least") fd := c.dfn 31 _ rfl
theorem F__law_crossings : ∃ fd, FunD K "_law_crossings" "_law_crossings" (defArgs s_law_crossings) (defBody s_law_crossings) (defScope s_law_crossings) [] [] (He.ga K "_law_crossings") fd := c.dfn 32 _ rfl
theorem F__law_is_above : ∃ fd, FunD K "_law_is_above" "_law_is_above" (defArgs s_law_is_above) (defBody s_law_is_above) (defScope s_law_is_above) [] [] (He.ga K "_law_is_above") fd := c.dfn 33 _ rfl
theorem F__law_stretches : ∃ fd, FunD K "_law_stretches" "_law_stretches" (defArgs s_law_stretches) (defBody s_law_stretches) (defScope s_law_stretches) [] [] (He.ga K "_law_stretches") fd := c.dfn 34 _ rfl
theorem F__law_flips : ∃ fd, FunD K "_law_flips" "_law_flips" (defArgs s_law_flips) (defBody s_law_flips) (defScope s_law_flips) [] [] (He.ga K "_law_flips") fd := c.dfn 35 _ rfl
theorem F__law_passed : ∃ fd, FunD K "_law_passed" "_law_passed" (defArgs s_law_passed) (defBody s_law_passed) (defScope s_law_passed) [] [] (He.ga K "_law_passed") fd := c.dfn 36 _ rfl
theorem F__law_right : ∃ fd, FunD K "_law_right" "_law_right" (defArgs s_law_right) (defBody s_law_right) (defScope s_law_right) [] [] (He.ga K "_law_right") fd := c.dfn 37 _ rfl
theorem F_law : ∃ fd, FunD K "law" "law" (defArgs s_law) (defBody s_law) (defScope s_law) [] [] (He.ga K "law") fd := c.dfn 38 _ rfl
theorem F_Costs___init__ : ∃ fd, FunD K "__init__" "Costs.__init__" (defArgs s_Costs___init__) (defBody s_Costs___init__) (defScope s_Costs___init__) [.int 1, .int 1, .non] [] (He.ma K (He.ga K "Costs") "__init__") fd := c.dfn 39 _ rfl
theorem F_Costs_costs_of : ∃ fd, FunD K "costs_of" "Costs.costs_of" (defArgs s_Costs_costs_of) (defBody s_Costs_costs_of) (defScope s_Costs_costs_of) [] [] (He.ma K (He.ga K "Costs") "costs_of") fd := c.dfn 40 _ rfl
theorem F_Costs_going : ∃ fd, FunD K "going" "Costs.going" (defArgs s_Costs_going) (defBody s_Costs_going) (defScope s_Costs_going) [] [] (He.ma K (He.ga K "Costs") "going") fd := c.dfn 41 _ rfl
theorem F_Costs_coming : ∃ fd, FunD K "coming" "Costs.coming" (defArgs s_Costs_coming) (defBody s_Costs_coming) (defScope s_Costs_coming) [] [] (He.ma K (He.ga K "Costs") "coming") fd := c.dfn 42 _ rfl
theorem F_Tables___init__ : ∃ fd, FunD K "__init__" "Tables.__init__" (defArgs s_Tables___init__) (defBody s_Tables___init__) (defScope s_Tables___init__) [] [] (He.ma K (He.ga K "Tables") "__init__") fd := c.dfn 43 _ rfl
theorem F_Tables_check_place : ∃ fd, FunD K "check_place" "Tables.check_place" (defArgs s_Tables_check_place) (defBody s_Tables_check_place) (defScope s_Tables_check_place) [] [] (He.ma K (He.ga K "Tables") "check_place") fd := c.dfn 44 _ rfl
theorem F_Tables_onward : ∃ fd, FunD K "onward" "Tables.onward" (defArgs s_Tables_onward) (defBody s_Tables_onward) (defScope s_Tables_onward) [] [] (He.ma K (He.ga K "Tables") "onward") fd := c.dfn 45 _ rfl
theorem F_Tables_slack : ∃ fd, FunD K "slack" "Tables.slack" (defArgs s_Tables_slack) (defBody s_Tables_slack) (defScope s_Tables_slack) [] [] (He.ma K (He.ga K "Tables") "slack") fd := c.dfn 46 _ rfl
theorem F_Web___init__ : ∃ fd, FunD K "__init__" "Web.__init__" (defArgs s_Web___init__) (defBody s_Web___init__) (defScope s_Web___init__) [] [] (He.ma K (He.ga K "Web") "__init__") fd := c.dfn 47 _ rfl
theorem F_Web_places : ∃ fd, FunD K "places" "Web.places" (defArgs s_Web_places) (defBody s_Web_places) (defScope s_Web_places) [] [] (He.ma K (He.ga K "Web") "places") fd := c.dfn 48 _ rfl
theorem F_Web_steps : ∃ fd, FunD K "steps" "Web.steps" (defArgs s_Web_steps) (defBody s_Web_steps) (defScope s_Web_steps) [] [] (He.ma K (He.ga K "Web") "steps") fd := c.dfn 49 _ rfl
theorem F_Faces___init__ : ∃ fd, FunD K "__init__" "Faces.__init__" (defArgs s_Faces___init__) (defBody s_Faces___init__) (defScope s_Faces___init__) [] [] (He.ma K (He.ga K "Faces") "__init__") fd := c.dfn 50 _ rfl
theorem F_Faces_traced : ∃ fd, FunD K "traced" "Faces.traced" (defArgs s_Faces_traced) (defBody s_Faces_traced) (defScope s_Faces_traced) [] [] (He.ma K (He.ga K "Faces") "traced") fd := c.dfn 51 _ rfl
theorem F_Faces_neighbors : ∃ fd, FunD K "neighbors" "Faces.neighbors" (defArgs s_Faces_neighbors) (defBody s_Faces_neighbors) (defScope s_Faces_neighbors) [] [] (He.ma K (He.ga K "Faces") "neighbors") fd := c.dfn 52 _ rfl
theorem F_Faces_number_of : ∃ fd, FunD K "number_of" "Faces.number_of" (defArgs s_Faces_number_of) (defBody s_Faces_number_of) (defScope s_Faces_number_of) [] [] (He.ma K (He.ga K "Faces") "number_of") fd := c.dfn 53 _ rfl
theorem F_Faces_directly_ahead : ∃ fd, FunD K "directly_ahead" "Faces.directly_ahead" (defArgs s_Faces_directly_ahead) (defBody s_Faces_directly_ahead) (defScope s_Faces_directly_ahead) [] [] (He.ma K (He.ga K "Faces") "directly_ahead") fd := c.dfn 54 _ rfl
theorem F_Faces___iter__ : ∃ fd, FunD K "__iter__" "Faces.__iter__" (defArgs s_Faces___iter__) (defBody s_Faces___iter__) (defScope s_Faces___iter__) [] [] (He.ma K (He.ga K "Faces") "__iter__") fd := c.dfn 55 _ rfl
theorem F_Faces___len__ : ∃ fd, FunD K "__len__" "Faces.__len__" (defArgs s_Faces___len__) (defBody s_Faces___len__) (defScope s_Faces___len__) [] [] (He.ma K (He.ga K "Faces") "__len__") fd := c.dfn 56 _ rfl
theorem R_Tables_total : ∃ p g fd, PropOf K (He.ga K "Tables") "total" p g ∧ FunD K "total" "Tables.total" (defArgs s_Tables_total) (defBody s_Tables_total) (defScope s_Tables_total) [] [] g fd := c.prop 0 _ rfl
theorem R_Tables_begin_table : ∃ p g fd, PropOf K (He.ga K "Tables") "begin_table" p g ∧ FunD K "begin_table" "Tables.begin_table" (defArgs s_Tables_begin_table) (defBody s_Tables_begin_table) (defScope s_Tables_begin_table) [] [] g fd := c.prop 1 _ rfl
theorem R_Tables_end_table : ∃ p g fd, PropOf K (He.ga K "Tables") "end_table" p g ∧ FunD K "end_table" "Tables.end_table" (defArgs s_Tables_end_table) (defBody s_Tables_end_table) (defScope s_Tables_end_table) [] [] g fd := c.prop 2 _ rfl
end
section
variable {P : Program} {w : World} {K : PySem.W.Frag} {mg : Str → Option Value} {base : Heap}
/-- the def keeps the promise -/
abbrev Kp (P : Program) (w : World) (K : PySem.W.Frag) (mg : Str → Option Value) (base : Heap) (k : Nat) (f : Addr) (sp : Sp) : Prop := FnR P w K mg base CX0 k f sp
theorem kp_of {k : Nat} {f : Addr} {x qual : Str} {params : Arguments} {body : List Stmt} {scope : Scope} {fd : FuncData} {N ps : List Str} {sp : Sp} (F : FunD K x qual params body scope [] [] f fd) (S : FnScope N ps scope) (b : Binds K fd ps [])
    (len : ∀ vs H Q E, sp vs H Q E → vs.length = ps.length)
    (hbody : ∀ (cdv : Value) (A : Around) (outer : List Env) (s : Shared) (H : Hp) (vs : List V) (Q : VK) (E : XK), Room k (A.deeper (envOfC qual scope s.heap.objs.size f cdv)) → sp vs H Q E →
      ∃ t, PSs (cxOf CX0 P w K mg base N qual scope f cdv A outer s H E).nox body t ∧ t { nx := fun _ H' => Q .non H', rt := Q } (start N vs) H) : Kp P w K mg base (k + 1) f sp :=
  ((F.ok S len fun cdv A outer s H vs Q E hr h => let ⟨t, ht, hq⟩ := hbody cdv A outer s H vs Q E hr h; ⟨t, ht.nox, hq⟩).raw b .nil).imp fun vs H Q E h => by rw [List.append_nil]; exact h
theorem bd1 {f : Addr} {x qual a : Str} {params : Arguments} {body : List Stmt} {scope : Scope} {fd : FuncData} (F : FunD K x qual params body scope [] [] f fd)
    (h : ∀ (dV kV doc pm : Value) (an : Option Addr) (cdv ct u : Value), bindArgs (PySem.W.fnOf x qual params body scope dV kV doc pm an cdv ct) ⟨[u], []⟩ = pure [(a, u)]) : Binds K fd [a] [] :=
  F.bindsN fun _ _ _ _ _ _ us hl => match us, hl with | [u], _ => h _ _ _ _ _ _ _ u
end
section
variable {X : Cx} {k j : Nat} {sp : Sp} {x : Str} {e : Expr} {es : List Expr} {t : TA} {p pos : Pos}
def tCal (sp : Sp) (t : TA) : TE := fun σ H Q => t σ H fun vs H1 => sp vs H1 Q E0
/-- f(e, ..) -/
theorem pe_cal (c : Cf X.K X.mg) (F : Kp X.prog X.w X.K X.mg X.base k (He.ga X.K x) sp) (hr : Room j X.A) (ha : PA X (e :: es) t) (hj : k ≤ j := by decide) (hg : Gl X x := by rfl) (hx : x ∈ glos := by decide +kernel) (hdb : (x == ("__debug__" : Str)) = false := by decide) (he : starEach (e :: es) X.env = (false, eval e X.env) :: starEach es X.env := by rfl) (hpl : (backTo pos (starEach es X.env)).any (·.1) = false := by rfl) :
    PE X (.Call (.Name x p) (e :: es) [] pos) (tCal sp t) := by
  refine ⟨fun pins s σ H Q I h => ?_⟩
  refine wpAny_Call_Name_kw (ld_glob I hg (c.glo x hx).1 ?_ hdb)
  refine PySem.W.callWith_K (h₀ := X.base) I.ok.mod.kin (c.glo x hx).2 (thn (ha.run pos pins s σ H _ I h) fun us s1 ⟨vs, H1, I1, r, q⟩ => ⟨I1.kIn, ?_⟩) he hpl
  exact wpAny_call (run_fnR F (hr.mono hj) pass0 I1 r q)
end
end L2.K4
end
section
set_option Elab.async false
set_option linter.all false
set_option maxRecDepth 100000
set_option maxHeartbeats 0
/-! The head: what the top has left. -/
namespace L2.K4
open PySem PySem.Spec PyProof.Rows L2
def toDv : V → He.Dv
  | .int i => .int i
  | _ => .non
def DefX.toD (d : DefX) : He.DefD := ⟨d.at_, d.name, d.qual, defArgs d.st, defBody d.st, defScope d.st, d.dvs.map toDv, []⟩
def fnD : List He.DefD := dfs.map DefX.toD
def prD : List He.DefD := prs.map DefX.toD
def faD : List He.Fa := glos.map .glo ++ (glos.map .keep ++ (frees.map .free ++ ([.int "MOST" 60] ++ (clss.map .cls ++ (clss.map .mkr ++ (meths.map (fun p => .meth p.1 p.2) ++ noats.map fun p => .noat p.1 p.2))))))
/-- a property's object, its getter -/
def prA (K : PySem.W.Frag) (d : He.DefD) : Addr := match PySem.W.findIn K (.ref (He.ga K d.at_.1)) d.name with
  | some (some (.ref p)) => p
  | _ => 0
def prG (K : PySem.W.Frag) (d : He.DefD) : Addr := match PySem.W.recIn K (prA K d) "property" with
  | some (.ref g :: _) => g
  | _ => 0
def isProp (K : PySem.W.Frag) (d : He.DefD) : Bool := He.eqO (PySem.W.findIn K (.ref (He.ga K d.at_.1)) d.name) (some (some (.ref (prA K d)))) && (He.eqO (PySem.W.specialIn K (.ref (prA K d)) "__get__") (some (some (.builtin "property.__get__"))) && (decide (PySem.W.takesIn K (.ref (prA K d)) = some true) &&
  (match PySem.W.recIn K (prA K d) "property" with
  | some (.ref _ :: _) => true
  | _ => false)))
def fnOk (K : PySem.W.Frag) (d : He.DefD) : Bool := PySem.W.keepIn K (.ref (prG K d)) && (match K.lookup (prG K d) with
  | some ⟨_, _, .func f, _⟩ => PySem.W.codeIn K f.code d.qual && (He.dflB K f.defaults [] && He.kwdB K f.kwdefaults [])
  | _ => false)
def fnG (K : PySem.W.Frag) (g : Addr) : He.FnW := match K.lookup g with
  | some ⟨_, _, .func f, _⟩ => some (f.name, f.qualname, f.params, f.body, f.scope, f.globals, f.closure, f.builtins)
  | _ => none
/-- the class Costs, read for MOST, asked by isinstance -/
def exMost (K : PySem.W.Frag) : Bool := PySem.W.readsIn K (He.ga K "Costs") (.type "type") && (He.eqO (PySem.W.specialIn K (.ref (He.ga K "Costs")) "__getattribute__") (some (some (.builtin "type.__getattribute__"))) && (match PySem.W.findCls K (.ref (He.ga K "Costs")) (.type "type") "MOST" with
  | some (.val (.int i _)) => decide (i = 999999)
  | _ => false))
def exTy (K : PySem.W.Frag) : Bool := He.eqO (PySem.W.findIn K (.ref (He.ga K "Costs")) "__class__") (some (some (.builtin "object.__class__"))) && (He.eqO (PySem.W.specialIn K (.builtin "object.__class__") "__get__") (some (some (.builtin "getset_descriptor.__get__"))) && (decide (PySem.W.takesIn K (.builtin "object.__class__") = some true) && (decide (PySem.W.mroIn K (He.ga K "Costs") (.type "object") = some true) &&
  decide (PySem.W.kitOne K (.ref (He.ga K "Costs")) (.ref (He.ga K "Costs")) = some true))))
abbrev AlP : Type := He.AlD × (Bool × List He.FnW)
def obsK (K : PySem.W.Frag) : AlP := (He.obsD faD fnD K, ((exMost K && exTy K) && prD.all fun d => isProp K d && fnOk K d), prD.map fun d => fnG K (prG K d))
def valK : AlP := (He.valD fnD, true, prD.map He.DefD.val)
def as0 : List Addr := [3, 6, 4, 21, 31, 53, 74, 95, 116, 137, 158, 167, 172, 179, 186, 193, 198, 205, 210, 297, 308, 315, 320, 327, 334, 339, 344, 349, 354, 361, 368, 375, 382, 389, 396, 401, 507, 516, 521, 628, 639, 644, 651, 656, 744, 755, 762, 769, 774, 781, 788, 795, 800, 807, 814, 819, 824, 829, 836, 841]
def as1 : List Addr := [848, 853, 858, 863, 868, 0, 20, 30, 52, 73, 94, 115, 136, 157, 166, 171, 178, 185, 192, 197, 204, 209, 296, 307, 314, 319, 326, 333, 338, 343, 348, 353, 360, 367, 374, 381, 388, 395, 400, 506, 515, 520, 627, 638, 643, 650, 655, 743, 754, 761, 768, 773, 780, 787, 794, 799, 806, 813, 818, 823]
def as2 : List Addr := [828, 835, 840, 847, 852, 857, 862, 867, 15, 16, 17, 18, 19, 29, 32, 50, 51, 71, 72, 92, 93, 113, 114, 134, 135, 155, 156, 161, 162, 163, 164, 165, 168, 169, 170, 173, 174, 175, 176, 177, 180, 181, 182, 183, 184, 187, 188, 189, 190, 191, 194, 195, 196, 199, 200, 201, 202, 203, 206, 207]
def as3 : List Addr := [208, 223, 231, 238, 245, 252, 259, 266, 273, 280, 287, 294, 295, 298, 299, 302, 303, 304, 305, 306, 309, 310, 311, 312, 313, 316, 317, 318, 321, 322, 323, 324, 325, 328, 329, 330, 331, 332, 335, 336, 337, 340, 341, 342, 345, 346, 347, 350, 351, 352, 355, 356, 357, 358, 359, 362, 363, 364, 365, 366]
def as4 : List Addr := [369, 370, 371, 372, 373, 376, 377, 378, 379, 380, 383, 384, 385, 386, 387, 390, 391, 392, 393, 394, 397, 398, 399, 415, 424, 434, 443, 449, 455, 462, 469, 476, 483, 490, 497, 504, 505, 508, 509, 512, 513, 514, 517, 518, 519, 533, 541, 549, 557, 564, 569, 576, 583, 590, 597, 604, 611, 618, 625, 626]
def as5 : List Addr := [629, 630, 633, 634, 635, 636, 637, 640, 641, 642, 645, 646, 647, 648, 649, 652, 653, 654, 668, 675, 680, 687, 694, 701, 708, 715, 722, 727, 734, 741, 742, 745, 746, 749, 750, 751, 752, 753, 756, 757, 758, 759, 760, 763, 764, 765, 766, 767, 770, 771, 772, 775, 776, 777, 778, 779, 782, 783, 784, 785]
def as6 : List Addr := [786, 789, 790, 791, 792, 793, 796, 797, 798, 801, 802, 803, 804, 805, 808, 809, 810, 811, 812, 815, 816, 817, 820, 821, 822, 825, 826, 827, 830, 831, 832, 833, 834, 837, 838, 839, 842, 843, 844, 845, 846, 849, 850, 851, 854, 855, 856, 859, 860, 861, 864, 865, 866, 49, 38, 70, 59, 91, 80, 112]
def as7 : List Addr := [101, 133, 122, 154, 143, 222, 218, 230, 237, 244, 251, 258, 265, 272, 279, 286, 293, 414, 422, 423, 432, 433, 442, 448, 454, 461, 468, 475, 482, 489, 496, 503, 532, 540, 548, 556, 563, 568, 575, 582, 589, 596, 603, 610, 617, 624, 667, 674, 679, 686, 693, 700, 707, 714, 721, 726, 733, 740, 44, 45]
def as8 : List Addr := [46, 47, 48, 65, 66, 67, 68, 69, 86, 87, 88, 89, 90, 107, 108, 109, 110, 111, 128, 129, 130, 131, 132, 149, 150, 151, 152, 153, 219, 220, 221, 229, 232, 233, 234, 235, 236, 239, 240, 241, 242, 243, 246, 247, 248, 249, 250, 253, 254, 255, 256, 257, 260, 261, 262, 263, 264, 267, 268, 269]
def as9 : List Addr := [270, 271, 274, 275, 276, 277, 278, 281, 282, 283, 284, 285, 288, 289, 290, 291, 292, 409, 410, 411, 412, 413, 421, 425, 431, 435, 441, 447, 453, 456, 457, 458, 459, 460, 463, 464, 465, 466, 467, 470, 471, 472, 473, 474, 477, 478, 479, 480, 481, 484, 485, 486, 487, 488, 491, 492, 493, 494, 495, 498]
def as10 : List Addr := [499, 500, 501, 502, 529, 530, 531, 539, 547, 555, 558, 559, 560, 561, 562, 565, 566, 567, 570, 571, 572, 573, 574, 577, 578, 579, 580, 581, 584, 585, 586, 587, 588, 591, 592, 593, 594, 595, 598, 599, 600, 601, 602, 605, 606, 607, 608, 609, 612, 613, 614, 615, 616, 619, 620, 621, 622, 623, 664, 665]
def as11 : List Addr := [666, 669, 670, 671, 672, 673, 676, 677, 678, 681, 682, 683, 684, 685, 688, 689, 690, 691, 692, 695, 696, 697, 698, 699, 702, 703, 704, 705, 706, 709, 710, 711, 712, 713, 716, 717, 718, 719, 720, 723, 724, 725, 728, 729, 730, 731, 732, 735, 736, 737, 738, 739, 224, 225, 226, 227, 228, 416, 417, 418]
def as12 : List Addr := [419, 420, 426, 427, 428, 429, 430, 436, 437, 438, 439, 440, 444, 445, 446, 450, 451, 452, 534, 535, 536, 537, 538, 542, 543, 544, 545, 546, 550, 551, 552, 553, 554]
/-- the addresses that the top fills: what the names reach -/
def asL : List Addr := as0 ++ (as1 ++ (as2 ++ (as3 ++ (as4 ++ (as5 ++ (as6 ++ (as7 ++ (as8 ++ (as9 ++ (as10 ++ (as11 ++ (as12 ++ [cStatics]))))))))))))
def obsP (g : Addr → Option Obj) : AlP := obsK (He.frG g asL)
def hk : PySem.W.Hook where
  α := AlP
  obs := fun s => obsP s.heap.get?
  val := fun _ => valK
  says := fun _ h => ∃ K : PySem.W.Frag, K.In h ∧ obsK K = valK
  of := fun _ _ e => ⟨_, He.frG_in, e⟩
  keeps := fun _ _ _ ⟨K, hK, c⟩ k => ⟨K, PySem.W.Frag.In.keeps hK k, c⟩
def ob (s : PySem.W.SharedT) : AlP := obsP (HandSHeadRun.getT s)
theorem ob_eq (s : PySem.W.SharedT) : ob s = hk.obs s.abs := by
  have e : HandSHeadRun.getT s = s.abs.heap.get? := funext (HandSHeadRun.getT_eq s)
  unfold ob
  rw [e]; rfl
def lo0 : List PySem.Str := [("_wall" : PySem.Str), ("InputError" : PySem.Str), ("InvalidText" : PySem.Str), ("InvalidCosts" : PySem.Str), ("InvalidDiff" : PySem.Str), ("InvalidPlace" : PySem.Str), ("InvalidStep" : PySem.Str), ("InvalidFace" : PySem.Str), ("MOST" : PySem.Str), ("is_line" : PySem.Str), ("is_text" : PySem.Str), ("check_text" : PySem.Str), ("check_texts" : PySem.Str), ("is_cost" : PySem.Str), ("are_own" : PySem.Str), ("check_costs" : PySem.Str), ("own_costs" : PySem.Str), ("Costs" : PySem.Str), ("is_integer" : PySem.Str), ("is_pair" : PySem.Str), ("has_form" : PySem.Str), ("is_diff" : PySem.Str), ("check_diff" : PySem.Str), ("kept_lines" : PySem.Str), ("gone_lines" : PySem.Str), ("come_lines" : PySem.Str), ("cost_of" : PySem.Str), ("check_all" : PySem.Str), ("is_place" : PySem.Str), ("next_places" : PySem.Str), ("is_pair_step" : PySem.Str), ("step_cost" : PySem.Str), ("costs_from_begin" : PySem.Str), ("costs_to_end" : PySem.Str), ("Tables" : PySem.Str)]
def lo1 : List PySem.Str := [("is_place_tuple" : PySem.Str), ("is_step_tuple" : PySem.Str), ("Web" : PySem.Str), ("side_steps" : PySem.Str), ("numbered_steps" : PySem.Str), ("face_key" : PySem.Str), ("is_face_tuple" : PySem.Str), ("Faces" : PySem.Str), ("_law_pot" : PySem.Str), ("_law_draw" : PySem.Str), ("_law_pick" : PySem.Str), ("_law_texts" : PySem.Str), ("_law_weights" : PySem.Str), ("_law_price" : PySem.Str), ("_law_next" : PySem.Str), ("_law_longer" : PySem.Str), ("_law_ways" : PySem.Str), ("_law_cost" : PySem.Str), ("_law_least" : PySem.Str), ("_law_after" : PySem.Str), ("_law_steps" : PySem.Str), ("_law_crossings" : PySem.Str), ("_law_is_above" : PySem.Str), ("_law_stretches" : PySem.Str), ("_law_flips" : PySem.Str), ("_law_passed" : PySem.Str), ("_law_right" : PySem.Str)]
def lo : List PySem.Str := lo0 ++ lo1
abbrev R : PySem.W.OpenRow := PySem.W.OpenLaw.row PySem.Challenge.rw_alldiffs_k34_whole_faces_are_flips
theorem run (w : World) : HandSHeadRun.RunEq R (PySem.W.view R.prog [70]) hk ob 40000 lo w := by
  intro os
  kernel_rfl
end L2.K4
end
section
set_option Elab.async false
set_option linter.all false
set_option maxRecDepth 100000
set_option maxHeartbeats 4000000
/-! The checks. -/
namespace L2.K4
open PySem PySem.Spec PyProof.Rows L2

/-- the texts' lines -/
def LN : List Str := ["a", "b", "x", "", "a b"]
def LOk (ls : List Str) : Prop := ls.length ≤ 4 ∧ ∀ z ∈ ls, z ∈ LN
theorem ty_tup {K : PySem.W.Frag} {H : Hp} {a : Addr} {xs : List V} (h : SqT K H a xs) : TyX K H (.ref a) (.type "tuple") := by
  rcases h with (h | ⟨o, h⟩) | ⟨o, its, n, h1, h2, _⟩
  · exact .base (.tup h)
  · exact .fTuple h
  · exact .kTuple h1 h2
theorem ty_lst {K : PySem.W.Frag} {H : Hp} {a : Addr} {xs : List V} (h : SqL K H a xs) : TyX K H (.ref a) (.type "list") := by
  rcases h with (h | ⟨o, h⟩) | ⟨o, its, n, h1, h2, _⟩
  · exact .base (.lst h)
  · exact .base (.frz h)
  · exact .kList h1 h2
theorem str_at {ls : List Str} {i : Nat} {x : V} (h : (ls.map V.str)[i]? = some x) : ∃ z, z ∈ ls ∧ ls[i]? = some z ∧ x = V.str z := by
  rw [List.getElem?_map] at h
  cases e : ls[i]? with
  | none => rw [e] at h; cases h
  | some z => rw [e] at h; exact ⟨z, List.mem_of_getElem? e, rfl, (Option.some.inj h).symm⟩
section
variable {P : Program} {w : World} {K : PySem.W.Frag} {mg : Str → Option Value} {base : Heap}
/-! ### is_line -/
def spLine : Sp := fun vs H Q _ => ∃ z, vs = [.str z] ∧ z ∈ LN ∧ Q (.bl true) H
theorem ok_is_line (c : Cf K mg) : Kp P w K mg base 1 (He.ga K "is_line") spLine := by
  obtain ⟨fd, F⟩ := F_is_line c
  refine kp_of F (N := ["value"]) (ps := ["value"]) ⟨rfl, rfl, rfl, by decide +kernel, rfl, by decide +kernel, by decide +kernel⟩ (F.bindsN fun _ _ _ _ _ _ us hl => match us, hl with | [_], _ => rfl) (fun vs H Q E h => ?_) (fun cdv A outer s H vs Q E hr h => ?_)
  · obtain ⟨z, rfl, _⟩ := h; rfl
  · obtain ⟨z, rfl, hz, k⟩ := h
    refine ⟨_, pss_one (ps_ret (pe_and (pe_callB call_isi (by rfl) (c.free "isinstance" (by decide +kernel)) (by decide +kernel) (pa_cons (pv 0) (pa_cons (pe_bltn (v := .ty "str") (by rfl) (c.free "str" (by decide +kernel)) (by decide +kernel) rfl) pa_nil))) (pe_one (pe_cmpR op_notIn_str pe_str (pv 0) rfl)))), ?_⟩
    refine ⟨_, rfl, _, _, _, _, _, rfl, .ty _, .base (.str z), kit_ty (r := true) (by decide +kernel), true, rfl, ?_⟩
    have e : (!(!(Builtin.Str.occurrences z "\n" 0 z.length 1).isEmpty)) = true := by
      have all : ∀ z ∈ LN, (!(!(Builtin.Str.occurrences z "\n" 0 z.length 1).isEmpty)) = true := by decide +kernel
      exact all z hz
    refine ⟨_, rfl, _, _, rfl, rfl, ?_⟩
    rw [e]; exact k
/-! ### is_text, check_text, check_texts -/
def spText (K : PySem.W.Frag) (r : V) : Sp := fun vs H Q _ => ∃ a ls, vs = [.ref a] ∧ SqL K H a (ls.map V.str) ∧ LOk ls ∧ ∀ H', Ex H H' → Q r H'
theorem ok_is_text (c : Cf K mg) : Kp P w K mg base 2 (He.ga K "is_text") (spText K (.bl true)) := by
  obtain ⟨fd, F⟩ := F_is_text c
  obtain ⟨tM, gM⟩ := c.most
  have nd : (["value", "line"] : List Str).Nodup := by decide +kernel
  refine kp_of F (N := ["value", "line"]) (ps := ["value"]) ⟨rfl, rfl, rfl, nd, rfl, by decide +kernel, by decide +kernel⟩ (F.bindsN fun _ _ _ _ _ _ us hl => match us, hl with | [_], _ => rfl) (fun vs H Q E h => ?_) (fun cdv A outer s H vs Q E hr h => ?_)
  · obtain ⟨z, ls, rfl, _⟩ := h; rfl
  · obtain ⟨a, ls, rfl, hS, ⟨hn, hz⟩, k⟩ := h
    refine ⟨_, pss_one (ps_ret (pe_and (pe_callB call_isiT (by rfl) (c.free "isinstance" (by decide +kernel)) (by decide +kernel) (pa_cons (pv 0) (pa_cons (pe_tup (pa_cons (pe_bltn (v := .ty "list") (by rfl) (c.free "list" (by decide +kernel)) (by decide +kernel) rfl) (pa_cons (pe_bltn (v := .ty "tuple") (by rfl) (c.free "tuple" (by decide +kernel)) (by decide +kernel) rfl) pa_nil))) pa_nil)))
      (pe_and (pe_cmpR op_le (pe_callB call_len_seq (by rfl) (c.free "len" (by decide +kernel)) PySem.boot_len (pa_cons (pv 0) pa_nil)) (pe_glob (v := .int 60) rfl gM ⟨_, rfl⟩) (nomark _))
      (pe_one (pe_callB (cr_all rfl) (by rfl) (c.free "all" (by decide +kernel)) (by decide +kernel) (pa_cons (pe_lc (own := [("line", 1)]) (g := gName 1) (tt := tYes) rfl nd (pi_list (pv 0)) (blkOk_by (N := ["value", "line"]) (sc := defScope s_is_text) (by decide +kernel)) (fun _ _ _ _ _ => pg_name (i := 1) nd rfl (Or.inl rfl)) (fun _ _ _ _ _ => pts_nil)
        (fun _ _ _ _ _ => pe_cal c (ok_is_line c) hr (pa_cons (pv 1) pa_nil))) pa_nil)))))), ?_⟩
    refine ⟨_, rfl, by show 2 ≤ sizeLine; decide, fun t ht => ?_⟩
    have e1 := Ex.laid (o := .tup [.ty "list", .ty "tuple"]) ht
    refine ⟨_, t, _, _, _, true, rfl, upd_same, .cons (.ty _) (.cons (.ty _) .nil), ty_lst (exl e1 hS), kitAny_cons (kit_ty (r := true) (by decide +kernel)) (fun z => by cases z) (fun _ => rfl), true, rfl, ?_⟩
    refine ⟨_, rfl, a, _, rfl, .inl (exl e1 hS), ?_⟩
    refine ⟨_, _, rfl, rfl, true, ?_, ?_⟩
    · exact congrArg V.bl (decide_eq_true (by rw [List.length_map]; omega))
    · refine ⟨_, rfl, a, rfl, ⟨_, exl e1 hS⟩, ?_⟩
      intro D hD
      refine lcG (n := (ls.map V.str).length) (Y := fun i x _ => (ls.map V.str)[i]? = some x) hD (fun _ => some (V.bl true)) IsV IsV.mono (by rw [List.length_map]; exact Nat.lt_of_le_of_lt hn (by decide)) (fun H' e => sw_list (exl (e1.trans e) hS)) (fun i x H1 zs hi e2 hx hDl Q2 q2 => ?_) fun H2 ys e2 h2 hpp => ?_
      · obtain ⟨z, hz', _, rfl⟩ := str_at hx
        exact ⟨rfl, _, rfl, z, rfl, hz z hz', q2 (some (.bl true)) H1 Ex.refl rfl⟩
      · rw [IsV.all hpp, made_const] at h2
        refine ⟨D, List.replicate (ls.map V.str).length true, rfl, .inl (.inl (by rw [h2, List.map_replicate])), ?_⟩
        have : (List.replicate (ls.map V.str).length true).all id = true := by simp
        rw [this]
        exact k H2 (e1.trans e2)
theorem ok_check_text (c : Cf K mg) : Kp P w K mg base 3 (He.ga K "check_text") (spText K .non) := by
  obtain ⟨fd, F⟩ := F_check_text c
  refine kp_of F (N := ["value"]) (ps := ["value"]) ⟨rfl, rfl, rfl, by decide +kernel, rfl, by decide +kernel, by decide +kernel⟩ (F.bindsN fun _ _ _ _ _ _ us hl => match us, hl with | [_], _ => rfl) (fun vs H Q E h => ?_) (fun cdv A outer s H vs Q E hr h => ?_)
  · obtain ⟨z, ls, rfl, _⟩ := h; rfl
  · obtain ⟨a, ls, rfl, hS, hl, k⟩ := h
    refine ⟨_, pss_one (ps_if (pt_not (pt_val (pe_cal c (ok_is_text c) hr (pa_cons (pv 0) pa_nil)))) (pss_one ps_never) pss_nil), ?_⟩
    exact ⟨_, rfl, a, ls, rfl, hS, hl, fun H' e => ⟨true, rfl, iteF (k H' e)⟩⟩
def spTexts (K : PySem.W.Frag) : Sp := fun vs H Q _ => ∃ a b ls ms, vs = [.ref a, .ref b] ∧ SqL K H a (ls.map V.str) ∧ LOk ls ∧ SqL K H b (ms.map V.str) ∧ LOk ms ∧ ∀ H', Ex H H' → Q .non H'
theorem ok_check_texts (c : Cf K mg) : Kp P w K mg base 4 (He.ga K "check_texts") (spTexts K) := by
  obtain ⟨fd, F⟩ := F_check_texts c
  obtain ⟨oc, od, dV, kV, doc, pm, an, cdv, ct, osl, rfl, lk, hcd, hD, _⟩ := F.ex
  have nd : (["values", "value"] : List Str).Nodup := by decide +kernel
  refine FnR.imp (StX.fn_star (ps := []) (N := ["values", "value"]) (pv := "values") (k := 3) (CX := CX0) (sp := fun vs H Q _ => ∃ p a b ls ms, vs = [.ref p] ∧ H p = some (.tup [.ref a, .ref b]) ∧ SqL K H a (ls.map V.str) ∧ LOk ls ∧ SqL K H b (ms.map V.str) ∧ LOk ms ∧ ∀ H', Ex H H' → Q .non H') lk hcd ⟨rfl, rfl, rfl, nd, rfl, by decide +kernel, by decide +kernel⟩ StX.cxUp_none (fun us rest hl => ?_)
    (fun A outer s H vs Q E hr h => ?_)) fun vs H Q E h => ?_
  · rcases hD with ⟨_, rfl⟩ | ⟨e, _⟩
    · match us, hl with | [], _ => cases rest <;> rfl
    · exact absurd rfl e
  · obtain ⟨p, a, b, ls, ms, rfl, hp, h1, h2, h3, h4, k⟩ := h
    refine ⟨_, PSs.nox (pss_one (ps_for PassesOwn.never rfl (pi_tup (pv 0)) (pg_name (i := 1) nd rfl (Or.inl rfl)) (pss_one (ps_expr (pe_cal c (ok_check_text c) hr (pa_cons (pv 1) pa_nil)))))), ?_⟩
    refine ⟨_, rfl, p, rfl, ⟨_, .inl (.inl hp)⟩, ?_⟩
    refine forG (n := 2) (Y := fun i x _ => [V.ref a, V.ref b][i]? = some x) (fun i σ' H' => Ex H H' ∧ σ'.length = 2 ∧ σ'[0]? = some (some (.ref p))) ⟨Ex.refl, rfl, rfl⟩ (fun i σ' H' _ q => sw_tup (.inl (.inl (q.1 _ _ hp)))) (fun i x σ' H' H'' hi q e hx => ?_) fun σ' H' q => k H' q.1
    obtain ⟨q1, q2, q3⟩ := q
    have q4 := q1.trans e
    have set1 : (σ'.set 1 (some x))[1]? = some (some x) := List.getElem?_set_self (by omega)
    have done : ∀ H2, Ex H'' H2 → Ex H H2 ∧ (σ'.set 1 (some x)).length = 2 ∧ (σ'.set 1 (some x))[0]? = some (some (.ref p)) := fun H2 e2 => ⟨q4.trans e2, by rw [List.length_set]; exact q2, by rw [List.getElem?_set_ne (by decide)]; exact q3⟩
    rcases i with _ | _ | i
    · cases hx; exact ⟨_, set1, a, ls, rfl, exl q4 h1, h2, fun H2 e2 => done H2 e2⟩
    · cases hx; exact ⟨_, set1, b, ms, rfl, exl q4 h3, h4, fun H2 e2 => done H2 e2⟩
    · omega
  · obtain ⟨a, b, ls, ms, rfl, h1, h2, h3, h4, k⟩ := h
    refine ⟨[], [.ref a, .ref b], rfl, rfl, by show 2 ≤ sizeLine; decide, fun p hp => ?_⟩
    have e := Ex.laid (o := .tup [.ref a, .ref b]) hp
    exact ⟨p, a, b, ls, ms, rfl, upd_same, exl e h1, h2, exl e h3, h4, fun H' e2 => k H' (e.trans e2)⟩
/-! ### is_cost, are_own, check_costs -/
def spCost : Sp := fun vs H Q _ => ∃ i : Int, vs = [.int i] ∧ 1 ≤ i ∧ i ≤ 999999 ∧ Q (.bl true) H
theorem ok_is_cost (c : Cf K mg) : Kp P w K mg base 1 (He.ga K "is_cost") spCost := by
  obtain ⟨fd, F⟩ := F_is_cost c
  obtain ⟨mc, u, rc, vc⟩ := c.costMost
  refine kp_of F (N := ["value"]) (ps := ["value"]) ⟨rfl, rfl, rfl, by decide +kernel, rfl, by decide +kernel, by decide +kernel⟩ (F.bindsN fun _ _ _ _ _ _ us hl => match us, hl with | [_], _ => rfl) (fun vs H Q E h => ?_) (fun cdv A outer s H vs Q E hr h => ?_)
  · obtain ⟨i, rfl, _⟩ := h; rfl
  · obtain ⟨i, rfl, h1, h2, k⟩ := h
    have isi : ∀ {n : Str} {X : Cx}, True := fun {n X} => trivial
    refine ⟨_, pss_one (ps_ret (pe_and (pe_callB call_isi (by rfl) (c.free "isinstance" (by decide +kernel)) (by decide +kernel) (pa_cons (pv 0) (pa_cons (pe_bltn (v := .ty "int") (by rfl) (c.free "int" (by decide +kernel)) (by decide +kernel) rfl) pa_nil)))
      (pe_and (pe_not (pe_callB call_isi (by rfl) (c.free "isinstance" (by decide +kernel)) (by decide +kernel) (pa_cons (pv 0) (pa_cons (pe_bltn (v := .ty "bool") (by rfl) (c.free "bool" (by decide +kernel)) (by decide +kernel) rfl) pa_nil))))
      (pe_one (pe_chain op_le op_le pe_int (pv 0) (ClX.pe_cval (pe_glob (v := .ref (He.ga K "Costs")) rfl (c.glo "Costs" (by decide +kernel)).1 rfl))))))), ?_⟩
    refine ⟨_, rfl, _, _, _, _, _, rfl, .ty _, .base (.int i), kit_ty (r := true) (by decide +kernel), true, rfl, ?_⟩
    refine ⟨_, rfl, _, _, _, _, _, rfl, .ty _, .base (.int i), kit_ty (r := false) (by decide +kernel), false, rfl, true, rfl, ?_⟩
    refine ⟨_, rfl, _, _, rfl, rfl, true, congrArg V.bl (decide_eq_true h1), ?_⟩
    refine ⟨_, mc, _, u, rfl, rc, vc, _, _, rfl, rfl, ?_⟩
    show Q (.bl (decide (i ≤ 999999))) H
    rw [decide_eq_true h2]; exact k
end
end L2.K4
end
section
/-! The lattice of the ways of a plane net, told by the crossings of the rows (plain Lean, no program). -/
namespace K34

/-- a net: its places V, its COME steps C r j : (r, j) to (r, j + 1), its other steps X r c : (r, c / 2) to (r + 1, (c + 1) / 2) -/
structure Net where
  m : Nat
  n : Nat
  V : Nat → Nat → Prop
  C : Nat → Nat → Prop
  X : Nat → Nat → Prop
  cV : ∀ {r j}, C r j → V r j ∧ V r (j + 1)
  xV : ∀ {r c}, X r c → V r (c / 2) ∧ V (r + 1) ((c + 1) / 2)
  vb : ∀ {i j}, V i j → i ≤ m ∧ j ≤ n
  out : ∀ {i j}, V i j → (i = m ∧ j = n) ∨ X i (2 * j) ∨ X i (2 * j + 1) ∨ C i j
  inn : ∀ {i j}, V i j → (i = 0 ∧ j = 0) ∨ (∃ k c, i = k + 1 ∧ (c + 1) / 2 = j ∧ X k c) ∨ (∃ k, j = k + 1 ∧ C i k)
  v0 : V 0 0

def A (i0 j0 : Nat) (c : Nat → Nat) (r : Nat) : Nat := if r = i0 then j0 else (c (r - 1) + 1) / 2
def B (i1 j1 : Nat) (c : Nat → Nat) (r : Nat) : Nat := if r = i1 then j1 else c r / 2

theorem A_at (i0 j0 : Nat) (c : Nat → Nat) : A i0 j0 c i0 = j0 := by simp [A]
theorem A_gt {i0 j0 : Nat} {c : Nat → Nat} {r : Nat} (h : i0 < r) : A i0 j0 c r = (c (r - 1) + 1) / 2 := by
  unfold A; rw [if_neg (by omega)]
theorem B_at (i1 j1 : Nat) (c : Nat → Nat) : B i1 j1 c i1 = j1 := by simp [B]
theorem B_lt {i1 j1 : Nat} {c : Nat → Nat} {r : Nat} (h : r < i1) : B i1 j1 c r = c r / 2 := by
  unfold B; rw [if_neg (by omega)]

variable (N : Net)

/-- the crossings c lead from (i0, j0) to (i1, j1) by steps of the net -/
structure Vs (i0 j0 i1 j1 : Nat) (c : Nat → Nat) : Prop where
  le : i0 ≤ i1
  ab : ∀ r, i0 ≤ r → r ≤ i1 → A i0 j0 c r ≤ B i1 j1 c r
  co : ∀ r, i0 ≤ r → r ≤ i1 → ∀ j, A i0 j0 c r ≤ j → j < B i1 j1 c r → N.C r j
  cr : ∀ r, i0 ≤ r → r < i1 → N.X r (c r)

variable {N}

theorem Vs.congr {i0 j0 i1 j1 : Nat} {c d : Nat → Nat} (v : Vs N i0 j0 i1 j1 c) (e : ∀ r, i0 ≤ r → r < i1 → c r = d r) : Vs N i0 j0 i1 j1 d := by
  have ea : ∀ r, i0 ≤ r → r ≤ i1 → A i0 j0 d r = A i0 j0 c r := fun r h1 h2 => by
    unfold A
    split
    · rfl
    · rw [e (r - 1) (by omega) (by omega)]
  have eb : ∀ r, i0 ≤ r → r ≤ i1 → B i1 j1 d r = B i1 j1 c r := fun r h1 h2 => by
    unfold B
    split
    · rfl
    · rw [e r h1 (by omega)]
  refine ⟨v.le, fun r h1 h2 => ?_, fun r h1 h2 j h3 h4 => ?_, fun r h1 h2 => ?_⟩
  · rw [ea r h1 h2, eb r h1 h2]; exact v.ab r h1 h2
  · rw [ea r h1 h2] at h3; rw [eb r h1 h2] at h4; exact v.co r h1 h2 j h3 h4
  · rw [← e r h1 h2]; exact v.cr r h1 h2

theorem half_mono {a b : Nat} (h : a ≤ b) : a / 2 ≤ b / 2 := by omega
theorem half_mono1 {a b : Nat} (h : a ≤ b) : (a + 1) / 2 ≤ (b + 1) / 2 := by omega

theorem A_min (i0 j0 : Nat) (c d : Nat → Nat) (r : Nat) : A i0 j0 (fun r => min (c r) (d r)) r = min (A i0 j0 c r) (A i0 j0 d r) := by
  unfold A; split <;> ((try dsimp only); omega)
theorem A_max (i0 j0 : Nat) (c d : Nat → Nat) (r : Nat) : A i0 j0 (fun r => max (c r) (d r)) r = max (A i0 j0 c r) (A i0 j0 d r) := by
  unfold A; split <;> ((try dsimp only); omega)
theorem B_min (i0 j0 : Nat) (c d : Nat → Nat) (r : Nat) : B i0 j0 (fun r => min (c r) (d r)) r = min (B i0 j0 c r) (B i0 j0 d r) := by
  unfold B; split <;> ((try dsimp only); omega)
theorem B_max (i0 j0 : Nat) (c d : Nat → Nat) (r : Nat) : B i0 j0 (fun r => max (c r) (d r)) r = max (B i0 j0 c r) (B i0 j0 d r) := by
  unfold B; split <;> ((try dsimp only); omega)

theorem Vs.min {i0 j0 i1 j1 : Nat} {c d : Nat → Nat} (v : Vs N i0 j0 i1 j1 c) (u : Vs N i0 j0 i1 j1 d) : Vs N i0 j0 i1 j1 (fun r => Min.min (c r) (d r)) := by
  refine ⟨v.le, fun r h1 h2 => ?_, fun r h1 h2 j h3 h4 => ?_, fun r h1 h2 => ?_⟩
  · rw [A_min, B_min]
    have := v.ab r h1 h2
    have := u.ab r h1 h2
    omega
  · rw [A_min] at h3
    rw [B_min] at h4
    by_cases h : A i0 j0 c r ≤ j
    · exact v.co r h1 h2 j h (by omega)
    · exact u.co r h1 h2 j (by omega) (by omega)
  · show N.X r (Min.min (c r) (d r))
    by_cases h : c r ≤ d r
    · rw [Nat.min_eq_left h]; exact v.cr r h1 h2
    · rw [Nat.min_eq_right (by omega)]; exact u.cr r h1 h2

theorem Vs.max {i0 j0 i1 j1 : Nat} {c d : Nat → Nat} (v : Vs N i0 j0 i1 j1 c) (u : Vs N i0 j0 i1 j1 d) : Vs N i0 j0 i1 j1 (fun r => Max.max (c r) (d r)) := by
  refine ⟨v.le, fun r h1 h2 => ?_, fun r h1 h2 j h3 h4 => ?_, fun r h1 h2 => ?_⟩
  · rw [A_max, B_max]
    have := v.ab r h1 h2
    have := u.ab r h1 h2
    omega
  · rw [A_max] at h3
    rw [B_max] at h4
    by_cases h : j < B i1 j1 c r
    · exact v.co r h1 h2 j (by omega) h
    · exact u.co r h1 h2 j (by omega) (by omega)
  · show N.X r (Max.max (c r) (d r))
    by_cases h : c r ≤ d r
    · rw [Nat.max_eq_right h]; exact u.cr r h1 h2
    · rw [Nat.max_eq_left (by omega)]; exact v.cr r h1 h2

def glue (i : Nat) (c d : Nat → Nat) : Nat → Nat := fun r => if r < i then c r else d r
theorem glue_lt {i : Nat} {c d : Nat → Nat} {r : Nat} (h : r < i) : glue i c d r = c r := by unfold glue; rw [if_pos h]
theorem glue_ge {i : Nat} {c d : Nat → Nat} {r : Nat} (h : i ≤ r) : glue i c d r = d r := by unfold glue; rw [if_neg (by omega)]

theorem Vs.glue {i0 j0 i1 j1 i2 j2 : Nat} {c d : Nat → Nat} (v : Vs N i0 j0 i1 j1 c) (u : Vs N i1 j1 i2 j2 d) : Vs N i0 j0 i2 j2 (glue i1 c d) := by
  have l1 := v.le
  have l2 := u.le
  have eA : ∀ r, i0 ≤ r → r ≤ i1 → A i0 j0 (K34.glue i1 c d) r = A i0 j0 c r := fun r h1 h2 => by
    unfold A
    split
    · rfl
    · rw [glue_lt (by omega)]
  have eA' : ∀ r, i1 < r → A i0 j0 (K34.glue i1 c d) r = A i1 j1 d r := fun r h1 => by
    rw [A_gt (by omega), A_gt h1, glue_ge (by omega)]
  have eB : ∀ r, r < i1 → B i2 j2 (K34.glue i1 c d) r = B i1 j1 c r := fun r h1 => by
    rw [B_lt (by omega), B_lt h1, glue_lt h1]
  have eB' : ∀ r, i1 ≤ r → B i2 j2 (K34.glue i1 c d) r = B i2 j2 d r := fun r h1 => by
    unfold B
    split
    · rfl
    · rw [glue_ge h1]
  have e1 := v.ab i1 l1 (Nat.le_refl _)
  rw [B_at] at e1
  have e2 := u.ab i1 (Nat.le_refl _) l2
  rw [A_at] at e2
  refine ⟨by omega, fun r h1 h2 => ?_, fun r h1 h2 j h3 h4 => ?_, fun r h1 h2 => ?_⟩
  · rcases Nat.lt_trichotomy r i1 with h | h | h
    · rw [eA r h1 (by omega), eB r h]; exact v.ab r h1 (by omega)
    · subst h
      rw [eA r h1 (by omega), eB' r (Nat.le_refl _)]; omega
    · rw [eA' r h, eB' r (by omega)]; exact u.ab r (by omega) h2
  · rcases Nat.lt_trichotomy r i1 with h | h | h
    · rw [eA r h1 (by omega)] at h3; rw [eB r h] at h4; exact v.co r h1 (by omega) j h3 h4
    · subst h
      rw [eA r h1 (by omega)] at h3
      rw [eB' r (Nat.le_refl _)] at h4
      by_cases hj : j < j1
      · exact v.co r h1 (Nat.le_refl _) j h3 (by rw [B_at]; exact hj)
      · exact u.co r (Nat.le_refl _) h2 j (by rw [A_at]; omega) h4
    · rw [eA' r h] at h3; rw [eB' r (by omega)] at h4; exact u.co r (by omega) h2 j h3 h4
  · by_cases h : r < i1
    · rw [glue_lt h]; exact v.cr r h1 h
    · rw [glue_ge (by omega)]; exact u.cr r (by omega) h2

theorem Vs.cut {i0 j0 i1 j1 i2 j2 : Nat} {c : Nat → Nat} (v : Vs N i0 j0 i2 j2 c) (h1 : i0 ≤ i1) (h2 : i1 ≤ i2) (h3 : A i0 j0 c i1 ≤ j1) (h4 : j1 ≤ B i2 j2 c i1) :
    Vs N i0 j0 i1 j1 c ∧ Vs N i1 j1 i2 j2 c := by
  refine ⟨⟨h1, fun r a b => ?_, fun r a b j p q => ?_, fun r a b => v.cr r a (by omega)⟩, ⟨h2, fun r a b => ?_, fun r a b j p q => ?_, fun r a b => v.cr r (by omega) b⟩⟩
  · by_cases e : r = i1
    · subst e; rw [B_at]; exact h3
    · rw [B_lt (by omega)]; have := v.ab r a (by omega); rw [B_lt (by omega)] at this; exact this
  · by_cases e : r = i1
    · subst e; rw [B_at] at q; exact v.co r a (by omega) j p (by omega)
    · rw [B_lt (by omega)] at q; exact v.co r a (by omega) j p (by rw [B_lt (by omega)]; exact q)
  · by_cases e : r = i1
    · subst e; rw [A_at]; exact h4
    · rw [A_gt (by omega)]; have := v.ab r (by omega) b; rw [A_gt (by omega)] at this; exact this
  · by_cases e : r = i1
    · subst e; rw [A_at] at p; exact v.co r (by omega) b j (by omega) q
    · rw [A_gt (by omega)] at p; exact v.co r (by omega) b j (by rw [A_gt (by omega)]; exact p) q

theorem Vs.nil {i j : Nat} (c : Nat → Nat) : Vs N i j i j c := by
  refine ⟨Nat.le_refl _, fun r h1 h2 => ?_, fun r h1 h2 k h3 h4 => ?_, fun r h1 h2 => by omega⟩
  · have e : r = i := by omega
    subst e; rw [A_at, B_at]; exact Nat.le_refl _
  · have e : r = i := by omega
    subst e; rw [A_at] at h3; rw [B_at] at h4; omega
/-- one COME ahead -/
theorem Vs.come {i0 j0 i1 j1 : Nat} {c : Nat → Nat} (h : N.C i0 j0) (v : Vs N i0 (j0 + 1) i1 j1 c) : Vs N i0 j0 i1 j1 c := by
  refine ⟨v.le, fun r h1 h2 => ?_, fun r h1 h2 k h3 h4 => ?_, v.cr⟩
  · by_cases e : r = i0
    · subst e; rw [A_at]; have := v.ab r h1 h2; rw [A_at] at this; omega
    · rw [A_gt (by omega)]; have := v.ab r h1 h2; rw [A_gt (by omega)] at this; exact this
  · by_cases e : r = i0
    · subst e
      rw [A_at] at h3
      by_cases ek : k = j0
      · subst ek; exact h
      · exact v.co r h1 h2 k (by rw [A_at]; omega) h4
    · rw [A_gt (by omega)] at h3; exact v.co r h1 h2 k (by rw [A_gt (by omega)]; exact h3) h4
/-- one crossing ahead -/
theorem Vs.cross {i0 x i1 j1 : Nat} {c : Nat → Nat} (h : N.X i0 x) (v : Vs N (i0 + 1) ((x + 1) / 2) i1 j1 c) : Vs N i0 (x / 2) i1 j1 (fun r => if r = i0 then x else c r) := by
  have hle := v.le
  refine ⟨by omega, fun r h1 h2 => ?_, fun r h1 h2 k h3 h4 => ?_, fun r h1 h2 => ?_⟩
  · by_cases e : r = i0
    · subst e; rw [A_at, B_lt (by omega)]; simp
    · have hv := v.ab r (by omega) h2
      by_cases e1 : r = i0 + 1
      · subst e1
        rw [A_at] at hv
        rw [A_gt (by omega)]
        have eB : B i1 j1 (fun r => if r = i0 then x else c r) (i0 + 1) = B i1 j1 c (i0 + 1) := by unfold B; simp
        rw [eB]; simpa using hv
      · rw [A_gt (by omega)] at hv
        rw [A_gt (by omega)]
        have eB : B i1 j1 (fun r => if r = i0 then x else c r) r = B i1 j1 c r := by unfold B; simp [e]
        rw [eB, if_neg (by omega)]; exact hv
  · by_cases e : r = i0
    · subst e; rw [A_at] at h3; rw [B_lt (by omega)] at h4; simp at h4; omega
    · have eB : B i1 j1 (fun r => if r = i0 then x else c r) r = B i1 j1 c r := by unfold B; simp [e]
      rw [eB] at h4
      rw [A_gt (by omega)] at h3
      by_cases e1 : r = i0 + 1
      · subst e1
        have h3' : (x + 1) / 2 ≤ k := by simpa using h3
        exact v.co _ (by omega) h2 k (by rw [A_at]; exact h3') h4
      · rw [if_neg (by omega)] at h3
        exact v.co r (by omega) h2 k (by rw [A_gt (by omega)]; exact h3) h4
  · by_cases e : r = i0
    · subst e; simpa using h
    · show N.X r (if r = i0 then x else c r)
      rw [if_neg e]; exact v.cr r (by omega) h2


theorem Vs.step1 {i j : Nat} (h : N.C i j) : Vs N i j i (j + 1) (fun _ => 0) := Vs.come h (Vs.nil _)
theorem Vs.step2 {i x : Nat} (h : N.X i x) : Vs N i (x / 2) (i + 1) ((x + 1) / 2) (fun r => if r = i then x else 0) := Vs.cross h (Vs.nil _)

/-- a place of the net is reached -/
theorem exist_to : ∀ k i j, i + j ≤ k → N.V i j → ∃ c, Vs N 0 0 i j c := by
  intro k
  induction k with
  | zero =>
    intro i j e h
    obtain rfl : i = 0 := by omega
    obtain rfl : j = 0 := by omega
    exact ⟨fun _ => 0, Vs.nil _⟩
  | succ k ih =>
    intro i j e h
    rcases N.inn h with ⟨rfl, rfl⟩ | ⟨i', x, rfl, hx, hX⟩ | ⟨j', rfl, hC⟩
    · exact ⟨fun _ => 0, Vs.nil _⟩
    · obtain ⟨c, v⟩ := ih i' (x / 2) (by omega) (N.xV hX).1
      subst hx
      exact ⟨_, v.glue (Vs.step2 hX)⟩
    · obtain ⟨c, v⟩ := ih i j' (by omega) (N.cV hC).1
      exact ⟨_, v.glue (Vs.step1 hC)⟩

/-- the way that takes the last steps -/
theorem exist_last : ∀ k i j, (N.m - i) + (N.n - j) ≤ k → N.V i j → ∃ c, Vs N i j N.m N.n c ∧ ∀ r, i ≤ r → r < N.m → ¬ N.C r (c r / 2) ∧ (c r % 2 = 0 → ¬ N.X r (c r + 1)) := by
  intro k
  induction k with
  | zero =>
    intro i j e h
    have hb := N.vb h
    obtain rfl : i = N.m := by omega
    obtain rfl : j = N.n := by omega
    exact ⟨fun _ => 0, Vs.nil _, fun r h1 h2 => by omega⟩
  | succ k ih =>
    intro i j e h
    have hb := N.vb h
    by_cases hC : N.C i j
    · have hb' := N.vb (N.cV hC).2
      obtain ⟨c, v, w⟩ := ih i (j + 1) (by omega) (N.cV hC).2
      exact ⟨c, v.come hC, w⟩
    · have go : ∀ x, x / 2 = j → N.X i x → (x % 2 = 0 → ¬ N.X i (x + 1)) → ∃ c, Vs N i j N.m N.n c ∧ ∀ r, i ≤ r → r < N.m → ¬ N.C r (c r / 2) ∧ (c r % 2 = 0 → ¬ N.X r (c r + 1)) := by
        intro x hx hX hn
        have hb' := N.vb (N.xV hX).2
        obtain ⟨c, v, w⟩ := ih (i + 1) ((x + 1) / 2) (by omega) (N.xV hX).2
        subst hx
        refine ⟨_, Vs.cross hX v, fun r h1 h2 => ?_⟩
        by_cases er : r = i
        · subst er
          simp only [if_pos]
          exact ⟨hC, hn⟩
        · simp only [if_neg er]
          exact w r (by omega) h2
      by_cases hX : N.X i (2 * j + 1)
      · exact go (2 * j + 1) (by omega) hX (fun z => by omega)
      · by_cases hY : N.X i (2 * j)
        · exact go (2 * j) (by omega) hY (fun _ => hX)
        · rcases N.out h with ⟨rfl, rfl⟩ | q | q | q
          · exact ⟨fun _ => 0, Vs.nil _, fun r h1 h2 => by omega⟩
          · exact absurd q hY
          · exact absurd q hX
          · exact absurd q hC

/-- the way that takes the first steps -/
theorem exist_first : ∀ k i j, (N.m - i) + (N.n - j) ≤ k → N.V i j → ∃ c, Vs N i j N.m N.n c ∧ ∀ r, i ≤ r → r < N.m → ∀ q, A i j c r ≤ q / 2 → q < c r → ¬ N.X r q := by
  intro k
  induction k with
  | zero =>
    intro i j e h
    have hb := N.vb h
    obtain rfl : i = N.m := by omega
    obtain rfl : j = N.n := by omega
    exact ⟨fun _ => 0, Vs.nil _, fun r h1 h2 => by omega⟩
  | succ k ih =>
    intro i j e h
    have hb := N.vb h
    have go : ∀ x, x / 2 = j → N.X i x → (∀ q, j ≤ q / 2 → q < x → ¬ N.X i q) → ∃ c, Vs N i j N.m N.n c ∧ ∀ r, i ≤ r → r < N.m → ∀ q, A i j c r ≤ q / 2 → q < c r → ¬ N.X r q := by
      intro x hx hX hn
      have hb' := N.vb (N.xV hX).2
      obtain ⟨c, v, w⟩ := ih (i + 1) ((x + 1) / 2) (by omega) (N.xV hX).2
      subst hx
      refine ⟨_, Vs.cross hX v, fun r h1 h2 q h3 h4 => ?_⟩
      by_cases er : r = i
      · subst er
        rw [A_at] at h3
        simp only [if_pos] at h4
        exact hn q h3 h4
      · rw [A_gt (by omega)] at h3
        rw [if_neg er] at h4
        refine w r (by omega) h2 q ?_ h4
        by_cases e1 : r = i + 1
        · subst e1
          rw [A_at]
          simpa using h3
        · rw [A_gt (by omega)]
          rw [if_neg (by omega)] at h3
          exact h3
    by_cases hY : N.X i (2 * j)
    · exact go (2 * j) (by omega) hY (fun q h1 h2 => by omega)
    · by_cases hX : N.X i (2 * j + 1)
      · refine go (2 * j + 1) (by omega) hX (fun q h1 h2 => ?_)
        obtain rfl : q = 2 * j := by omega
        exact hY
      · rcases N.out h with ⟨rfl, rfl⟩ | q | q | hC
        · exact ⟨fun _ => 0, Vs.nil _, fun r h1 h2 => by omega⟩
        · exact absurd q hY
        · exact absurd q hX
        · have hb' := N.vb (N.cV hC).2
          obtain ⟨c, v, w⟩ := ih i (j + 1) (by omega) (N.cV hC).2
          refine ⟨c, v.come hC, fun r h1 h2 q h3 h4 => ?_⟩
          by_cases er : r = i
          · subst er
            rw [A_at] at h3
            by_cases eq : j + 1 ≤ q / 2
            · exact w r h1 h2 q (by rw [A_at]; exact eq) h4
            · by_cases e0 : q = 2 * j
              · subst e0; exact hY
              · obtain rfl : q = 2 * j + 1 := by omega
                exact hX
          · rw [A_gt (by omega)] at h3
            exact w r h1 h2 q (by rw [A_gt (by omega)]; exact h3) h4

/-- a face: its begin, its end, its sides' crossings -/
structure IsF (N : Net) (i0 j0 i1 j1 : Nat) (u l : Nat → Nat) : Prop where
  lt : i0 < i1
  vu : Vs N i0 j0 i1 j1 u
  vl : Vs N i0 j0 i1 j1 l
  b0 : u i0 / 2 = j0
  c0 : u i0 < l i0
  e1 : (l (i1 - 1) + 1) / 2 = j1
  dis : ∀ r, i0 < r → r < i1 → u r / 2 < (l (r - 1) + 1) / 2
  f0 : ∀ q, u i0 < q → q < l i0 → ¬ N.X i0 q
  ul : ∀ r, i0 < r → r < i1 → ¬ N.C r (u r / 2) ∧ (u r % 2 = 0 → ¬ N.X r (u r + 1))
  lf : ∀ r, i0 < r → r < i1 → ∀ q, (l (r - 1) + 1) / 2 ≤ q / 2 → q < l r → ¬ N.X r q

theorem IsF.lu {i0 j0 i1 j1 : Nat} {u l : Nat → Nat} (f : IsF N i0 j0 i1 j1 u l) : ∀ r, i0 ≤ r → r < i1 → u r < l r := by
  intro r h1 h2
  by_cases e : r = i0
  · subst e; exact f.c0
  · have h := f.dis r (by omega) h2
    have k := f.vl.ab r h1 (by omega)
    rw [A_gt (by omega), B_lt h2] at k
    omega

/-- nothing lies between the sides -/
theorem IsF.none {i0 j0 i1 j1 : Nat} {u l c : Nat → Nat} (f : IsF N i0 j0 i1 j1 u l) (v : Vs N i0 j0 i1 j1 c) (h1 : ∀ r, i0 ≤ r → r < i1 → u r ≤ c r) (h2 : ∀ r, i0 ≤ r → r < i1 → c r ≤ l r) :
    (∀ r, i0 ≤ r → r < i1 → c r = u r) ∨ (∀ r, i0 ≤ r → r < i1 → c r = l r) := by
  have lt := f.lt
  have hX := v.cr i0 (Nat.le_refl _) lt
  have a1 := h1 i0 (Nat.le_refl _) lt
  have a2 := h2 i0 (Nat.le_refl _) lt
  have h0 : c i0 = u i0 ∨ c i0 = l i0 := by
    by_cases e1 : c i0 = u i0
    · exact .inl e1
    · by_cases e2 : c i0 = l i0
      · exact .inr e2
      · exact absurd hX (f.f0 _ (by omega) (by omega))
  rcases h0 with h0 | h0
  · refine .inl ?_
    have key : ∀ k r, r = i0 + k → r < i1 → c r = u r := by
      intro k
      induction k with
      | zero => intro r e _; obtain rfl : r = i0 := by omega
                exact h0
      | succ k ih =>
        intro r e hr
        have ep := ih (r - 1) (by omega) (by omega)
        have g1 := h1 r (by omega) hr
        obtain ⟨n1, n2⟩ := f.ul r (by omega) hr
        have hB := f.vu.ab r (by omega) (by omega)
        rw [A_gt (by omega), B_lt hr] at hB
        by_cases hlt : u r / 2 < c r / 2
        · refine absurd (v.co r (by omega) (by omega) (u r / 2) ?_ (by rw [B_lt hr]; exact hlt)) n1
          rw [A_gt (by omega), ep]; exact hB
        · by_cases he : c r = u r
          · exact he
          · have e1 : c r = u r + 1 := by omega
            have := v.cr r (by omega) hr
            rw [e1] at this
            exact absurd this (n2 (by omega))
    exact fun r h3 h4 => key (r - i0) r (by omega) h4
  · refine .inr ?_
    have key : ∀ k r, r = i0 + k → r < i1 → c r = l r := by
      intro k
      induction k with
      | zero => intro r e _; obtain rfl : r = i0 := by omega
                exact h0
      | succ k ih =>
        intro r e hr
        have ep := ih (r - 1) (by omega) (by omega)
        have g2 := h2 r (by omega) hr
        have hA := v.ab r (by omega) (by omega)
        rw [A_gt (by omega), B_lt hr, ep] at hA
        by_cases he : c r = l r
        · exact he
        · exact absurd (v.cr r (by omega) hr) (f.lf r (by omega) hr _ hA (by omega))
    exact fun r h3 h4 => key (r - i0) r (by omega) h4

/-- the ways through a face -/
theorem IsF.thru {i0 j0 i1 j1 : Nat} {u l : Nat → Nat} (f : IsF N i0 j0 i1 j1 u l) : ∃ c d : Nat → Nat, Vs N 0 0 N.m N.n (glue i1 (glue i0 c u) d) ∧ Vs N 0 0 N.m N.n (glue i1 (glue i0 c l) d) := by
  have hV0 : N.V i0 j0 := by
    have h := f.vu.cr i0 (Nat.le_refl _) f.lt
    have := (N.xV h).1
    rw [f.b0] at this
    exact this
  have hV1 : N.V i1 j1 := by
    have hlt := f.lt
    have h := f.vl.cr (i1 - 1) (by omega) (by omega)
    have := (N.xV h).2
    rw [f.e1] at this
    have e : i1 - 1 + 1 = i1 := by omega
    rw [e] at this
    exact this
  obtain ⟨c, vc⟩ := exist_to _ i0 j0 (Nat.le_refl _) hV0
  obtain ⟨d, vd, _⟩ := exist_last _ i1 j1 (Nat.le_refl _) hV1
  exact ⟨c, d, (vc.glue f.vu).glue vd, (vc.glue f.vl).glue vd⟩

theorem IsF.im {i0 j0 i1 j1 : Nat} {u l : Nat → Nat} (f : IsF N i0 j0 i1 j1 u l) : i1 ≤ N.m := by
  have hlt := f.lt
  have h := N.vb (N.xV (f.vl.cr (i1 - 1) (by omega) (by omega))).2
  omega

/-- a way between the two ways through a face is one of them, on the face -/
theorem IsF.between {i0 j0 i1 j1 : Nat} {u l c d z : Nat → Nat} (f : IsF N i0 j0 i1 j1 u l) (vu : Vs N 0 0 N.m N.n (glue i1 (glue i0 c u) d)) (vl : Vs N 0 0 N.m N.n (glue i1 (glue i0 c l) d)) (vz : Vs N 0 0 N.m N.n z)
    (h1 : ∀ r, r < N.m → glue i1 (glue i0 c u) d r ≤ z r) (h2 : ∀ r, r < N.m → z r ≤ glue i1 (glue i0 c l) d r) :
    (∀ r, i0 ≤ r → r < i1 → z r = u r) ∨ (∀ r, i0 ≤ r → r < i1 → z r = l r) := by
  have lt := f.lt
  have im := f.im
  have gu : ∀ r, i0 ≤ r → r < i1 → glue i1 (glue i0 c u) d r = u r := fun r a b => by rw [glue_lt b, glue_ge a]
  have gl : ∀ r, i0 ≤ r → r < i1 → glue i1 (glue i0 c l) d r = l r := fun r a b => by rw [glue_lt b, glue_ge a]
  -- the begin is on z
  have ul0 := vl.ab i0 (by omega) (by omega)
  have z0 : A 0 0 z i0 ≤ A 0 0 (glue i1 (glue i0 c l) d) i0 := by
    unfold A
    split
    · exact Nat.le_refl _
    · exact half_mono1 (h2 (i0 - 1) (by omega))
  have e0 : A 0 0 (glue i1 (glue i0 c l) d) i0 ≤ j0 := by
    have q := vu.ab i0 (by omega) (by omega)
    have e : A 0 0 (glue i1 (glue i0 c u) d) i0 = A 0 0 (glue i1 (glue i0 c l) d) i0 := by
      unfold A
      split
      · rfl
      · rw [glue_lt (by omega), glue_lt (by omega), glue_lt (by omega), glue_lt (by omega)]
    rw [← e]
    rw [B_lt (by omega), gu i0 (Nat.le_refl _) lt, f.b0] at q
    exact q
  have b0 : j0 ≤ B N.m N.n z i0 := by
    have q := h1 i0 (by omega)
    rw [gu i0 (Nat.le_refl _) lt] at q
    rw [B_lt (by omega), ← f.b0]
    exact half_mono q
  obtain ⟨_, v1⟩ := vz.cut (i1 := i0) (j1 := j0) (by omega) (by omega) (by omega) b0
  -- and the end
  have a1 : A i0 j0 z i1 ≤ j1 := by
    rw [A_gt lt]
    have q := h2 (i1 - 1) (by omega)
    rw [gl (i1 - 1) (by omega) (by omega)] at q
    rw [← f.e1]
    exact half_mono1 q
  have b1 : j1 ≤ B N.m N.n z i1 := by
    have q := vl.ab i1 (by omega) im
    rw [A_gt (by omega), gl (i1 - 1) (by omega) (by omega), f.e1] at q
    have e : B N.m N.n (glue i1 (glue i0 c l) d) i1 = B N.m N.n (glue i1 (glue i0 c u) d) i1 := by
      unfold B
      split
      · rfl
      · rw [glue_ge (Nat.le_refl _), glue_ge (Nat.le_refl _)]
    rw [e] at q
    refine Nat.le_trans q ?_
    unfold B
    split
    · exact Nat.le_refl _
    · exact half_mono (h1 i1 (by omega))
  obtain ⟨v2, _⟩ := v1.cut (i1 := i1) (j1 := j1) (by omega) im a1 b1
  refine f.none v2 (fun r a b => ?_) (fun r a b => ?_)
  · rw [← gu r a b]; exact h1 r (by omega)
  · rw [← gl r a b]; exact h2 r (by omega)

/-- a way passes a face above or below -/
theorem IsF.side {i0 j0 i1 j1 : Nat} {u l w : Nat → Nat} (f : IsF N i0 j0 i1 j1 u l) (vw : Vs N 0 0 N.m N.n w) :
    (∀ r, i0 ≤ r → r < i1 → w r ≤ u r) ∨ (∀ r, i0 ≤ r → r < i1 → l r ≤ w r) := by
  have lt := f.lt
  have im := f.im
  obtain ⟨c, d, vu, vl⟩ := f.thru
  have gu : ∀ r, i0 ≤ r → r < i1 → glue i1 (glue i0 c u) d r = u r := fun r a b => by rw [glue_lt b, glue_ge a]
  have gl : ∀ r, i0 ≤ r → r < i1 → glue i1 (glue i0 c l) d r = l r := fun r a b => by rw [glue_lt b, glue_ge a]
  have ule : ∀ r, glue i1 (glue i0 c u) d r ≤ glue i1 (glue i0 c l) d r := fun r => by
    by_cases h1 : r < i1
    · by_cases h0 : i0 ≤ r
      · rw [gu r h0 h1, gl r h0 h1]; exact Nat.le_of_lt (f.lu r h0 h1)
      · rw [glue_lt h1, glue_lt h1, glue_lt (by omega), glue_lt (by omega)]; exact Nat.le_refl _
    · rw [glue_ge (by omega), glue_ge (by omega)]; exact Nat.le_refl _
  have vz := vu.max (vw.min vl)
  rcases f.between vu vl vz (fun r _ => by (try dsimp only); omega) (fun r _ => by have := ule r; (try dsimp only); omega) with h | h
  · refine .inl fun r a b => ?_
    have q := h r a b
    (try dsimp only at q)
    rw [gu r a b, gl r a b] at q
    have := f.lu r a b
    omega
  · refine .inr fun r a b => ?_
    have q := h r a b
    (try dsimp only at q)
    rw [gu r a b, gl r a b] at q
    have := f.lu r a b
    omega

/-- between the two ways through a face stands no third one -/
theorem IsF.cover {i0 j0 i1 j1 : Nat} {u l c d z : Nat → Nat} (f : IsF N i0 j0 i1 j1 u l) (vu : Vs N 0 0 N.m N.n (glue i1 (glue i0 c u) d)) (vl : Vs N 0 0 N.m N.n (glue i1 (glue i0 c l) d)) (vz : Vs N 0 0 N.m N.n z)
    (h1 : ∀ r, r < N.m → glue i1 (glue i0 c u) d r ≤ z r) (h2 : ∀ r, r < N.m → z r ≤ glue i1 (glue i0 c l) d r) :
    (∀ r, r < N.m → z r = glue i1 (glue i0 c u) d r) ∨ (∀ r, r < N.m → z r = glue i1 (glue i0 c l) d r) := by
  have out : ∀ r, r < N.m → ¬ (i0 ≤ r ∧ r < i1) → z r = glue i1 (glue i0 c u) d r ∧ z r = glue i1 (glue i0 c l) d r := fun r hr h => by
    have q1 := h1 r hr
    have q2 := h2 r hr
    have e : glue i1 (glue i0 c u) d r = glue i1 (glue i0 c l) d r := by
      by_cases a : r < i1
      · rw [glue_lt a, glue_lt a, glue_lt (by omega), glue_lt (by omega)]
      · rw [glue_ge (by omega), glue_ge (by omega)]
    omega
  rcases f.between vu vl vz h1 h2 with h | h
  · refine .inl fun r hr => ?_
    by_cases a : i0 ≤ r ∧ r < i1
    · rw [h r a.1 a.2, glue_lt a.2, glue_ge a.1]
    · exact (out r hr a).1
  · refine .inr fun r hr => ?_
    by_cases a : i0 ≤ r ∧ r < i1
    · rw [h r a.1 a.2, glue_lt a.2, glue_ge a.1]
    · exact (out r hr a).2

/-- a step that the lower side of g and the upper side of f share -/
def Shares (i0 j0 i1 j1 : Nat) (u : Nat → Nat) (k0 l0 k1 l1 : Nat) (l : Nat → Nat) : Prop :=
  (∃ r, i0 ≤ r ∧ r < i1 ∧ k0 ≤ r ∧ r < k1 ∧ u r = l r) ∨
  ∃ r j, i0 ≤ r ∧ r ≤ i1 ∧ k0 ≤ r ∧ r ≤ k1 ∧ A i0 j0 u r ≤ j ∧ j < B i1 j1 u r ∧ A k0 l0 l r ≤ j ∧ j < B k1 l1 l r

/-- what lies below f lies below what is directly ahead of f -/
theorem IsF.ahead {i0 j0 i1 j1 k0 l0 k1 l1 : Nat} {u l u' l' w : Nat → Nat} (f : IsF N i0 j0 i1 j1 u l) (g : IsF N k0 l0 k1 l1 u' l') (vw : Vs N 0 0 N.m N.n w)
    (s : Shares i0 j0 i1 j1 u k0 l0 k1 l1 l') (h : ∀ r, i0 ≤ r → r < i1 → l r ≤ w r) : ∀ r, k0 ≤ r → r < k1 → l' r ≤ w r := by
  have ltf := f.lt
  have ltg := g.lt
  have imf := f.im
  have img := g.im
  rcases g.side vw with no | yes
  · exfalso
    rcases s with ⟨r, a1, a2, b1, b2, e⟩ | ⟨r, j, a1, a2, b1, b2, p1, p2, q1, q2⟩
    · have := no r b1 b2
      have := h r a1 a2
      have := f.lu r a1 a2
      have := g.lu r b1 b2
      omega
    · -- a COME
      have n0 : r ≠ i0 := by
        rintro rfl
        rw [A_at] at p1
        rw [B_lt (by omega), f.b0] at p2
        omega
      have n1 : r ≠ k1 := by
        rintro rfl
        rw [A_gt (by omega), g.e1] at q1
        rw [B_at] at q2
        omega
      have wr := vw.ab r (by omega) (by omega)
      rw [A_gt (by omega), B_lt (by omega)] at wr
      have hw := half_mono1 (h (r - 1) (by omega) (by omega))
      have hn := no r b1 (by omega)
      have hj : j + 1 ≤ (l (r - 1) + 1) / 2 := by
        by_cases e : r = i1
        · subst e; rw [f.e1]; rw [B_at] at p2; omega
        · have := f.dis r (by omega) (by omega)
          rw [B_lt (by omega)] at p2
          omega
      have hu : u' r / 2 ≤ j := by
        by_cases e : r = k0
        · subst e; rw [g.b0]; rw [A_at] at q1; exact q1
        · have := g.dis r (by omega) (by omega)
          rw [A_gt (by omega)] at q1
          omega
      omega
  · exact yes

/-- at a place, two steps that follow one another begin a face -/
theorem exist_face {i j x : Nat} (hj : x / 2 = j) (hx : N.X i x) (hy : (x % 2 = 0 ∧ N.X i (x + 1)) ∨ (N.C i j ∧ (x % 2 = 0 → ¬ N.X i (x + 1)))) :
    ∃ i1 j1 u l, IsF N i j i1 j1 u l ∧ u i = x ∧ (x % 2 = 0 ∧ N.X i (x + 1) → l i = x + 1) ∧ (¬ (x % 2 = 0 ∧ N.X i (x + 1)) → 2 * j + 2 ≤ l i) := by
  subst hj
  have hb1 := N.vb (N.xV hx).2
  obtain ⟨cu, vcu, hcu⟩ := exist_last _ (i + 1) ((x + 1) / 2) (Nat.le_refl _) (N.xV hx).2
  have vu := Vs.cross hx vcu
  -- the lower way
  have low : ∃ l, Vs N i (x / 2) N.m N.n l ∧ ((x % 2 = 0 ∧ N.X i (x + 1) → l i = x + 1) ∧ (¬ (x % 2 = 0 ∧ N.X i (x + 1)) → 2 * (x / 2) + 2 ≤ l i)) ∧ (∀ q, x < q → q < l i → ¬ N.X i q) ∧
      (∀ r, i < r → r < N.m → ∀ q, (l (r - 1) + 1) / 2 ≤ q / 2 → q < l r → ¬ N.X r q) := by
    by_cases hp : x % 2 = 0 ∧ N.X i (x + 1)
    · obtain ⟨cl, vcl, hcl⟩ := exist_first _ (i + 1) ((x + 1 + 1) / 2) (Nat.le_refl _) (N.xV hp.2).2
      have v := Vs.cross hp.2 vcl
      have e : (x + 1) / 2 = x / 2 := by omega
      rw [e] at v
      refine ⟨_, v, ⟨fun _ => by simp, fun h => absurd hp h⟩, fun q h1 h2 => ?_, fun r h1 h2 q h3 h4 => ?_⟩
      · simp at h2; omega
      · rw [if_neg (by omega)] at h4
        refine hcl r (by omega) h2 q ?_ h4
        by_cases e1 : r = i + 1
        · subst e1; rw [A_at]; simpa using h3
        · rw [A_gt (by omega)]; rw [if_neg (by omega)] at h3; exact h3
    · rcases hy with hy | hy
      · exact absurd hy hp
      · obtain ⟨cl, vcl, hcl⟩ := exist_first _ i (x / 2 + 1) (Nat.le_refl _) (N.cV hy.1).2
        have hi : i < N.m := by omega
        have q0 := vcl.ab i (Nat.le_refl _) (by omega)
        rw [A_at, B_lt hi] at q0
        refine ⟨cl, vcl.come hy.1, ⟨fun h => absurd h hp, fun _ => by omega⟩, fun q h1 h2 => ?_, fun r h1 h2 q h3 h4 => ?_⟩
        · by_cases e : x / 2 + 1 ≤ q / 2
          · exact hcl i (Nat.le_refl _) hi q (by rw [A_at]; exact e) h2
          · have e1 : q = x + 1 := by omega
            subst e1
            exact hy.2 (by omega)
        · exact hcl r (by omega) h2 q (by rw [A_gt h1]; exact h3) h4
  obtain ⟨l, vl, hl0, hl1, hl2⟩ := low
  have hm : i + 1 ≤ N.m := hb1.1
  let u : Nat → Nat := fun r => if r = i then x else cu r
  have hu0 : u i = x := by show (if i = i then x else cu i) = x; simp
  have hur : ∀ r, i < r → u r = cu r := fun r h => by show (if r = i then x else cu r) = cu r; rw [if_neg (by omega)]
  have vu' : Vs N i (x / 2) N.m N.n u := vu
  have hc0 : u i < l i := by
    rw [hu0]
    by_cases hp : x % 2 = 0 ∧ N.X i (x + 1)
    · have := hl0.1 hp; omega
    · have := hl0.2 hp; omega
  -- the first row in which the upper way reaches the lower one
  have ex : ∃ k, i < k ∧ k ≤ N.m ∧ (l (k - 1) + 1) / 2 ≤ B N.m N.n u k ∧ ∀ r, i < r → r < k → u r / 2 < (l (r - 1) + 1) / 2 := by
    have H : ∀ t, ∀ k, k = i + 1 + t → k ≤ N.m → (∃ k, i < k ∧ k ≤ N.m ∧ (l (k - 1) + 1) / 2 ≤ B N.m N.n u k ∧ ∀ r, i < r → r < k → u r / 2 < (l (r - 1) + 1) / 2) ∨ ∀ r, i < r → r ≤ k → B N.m N.n u r < (l (r - 1) + 1) / 2 := by
      intro t
      induction t with
      | zero =>
        intro k e hk
        by_cases h : (l (k - 1) + 1) / 2 ≤ B N.m N.n u k
        · exact .inl ⟨k, by omega, hk, h, fun r h1 h2 => by omega⟩
        · refine .inr fun r h1 h2 => ?_
          obtain rfl : r = k := by omega
          omega
      | succ t ih =>
        intro k e hk
        rcases ih (k - 1) (by omega) (by omega) with h | h
        · exact .inl h
        · by_cases h' : (l (k - 1) + 1) / 2 ≤ B N.m N.n u k
          · refine .inl ⟨k, by omega, hk, h', fun r h1 h2 => ?_⟩
            have := h r h1 (by omega)
            rw [B_lt (by omega)] at this
            exact this
          · refine .inr fun r h1 h2 => ?_
            by_cases er : r = k
            · subst er; omega
            · exact h r h1 (by omega)
    rcases H (N.m - (i + 1)) N.m (by omega) (Nat.le_refl _) with h | h
    · exact h
    · exfalso
      have := h N.m (by omega) (Nat.le_refl _)
      rw [B_at] at this
      have := (vl.ab N.m (by omega) (Nat.le_refl _))
      rw [A_gt (by omega), B_at] at this
      omega
  obtain ⟨i1, h1, h2, h3, h4⟩ := ex
  -- u stays above l
  have lu : ∀ t r, r = i + t → r < i1 → u r < l r := by
    intro t
    cases t with
    | zero => intro r e _; obtain rfl : r = i := by omega
              exact hc0
    | succ t =>
      intro r e hr
      have a := h4 r (by omega) hr
      have b := vl.ab r (by omega) (by omega)
      rw [A_gt (by omega), B_lt (by omega)] at b
      omega
  have hlast := lu (i1 - 1 - i) (i1 - 1) (by omega) (by omega)
  obtain ⟨vu1, _⟩ := vu'.cut (i1 := i1) (j1 := (l (i1 - 1) + 1) / 2) (by omega) h2 (by rw [A_gt h1]; exact half_mono1 (Nat.le_of_lt hlast)) h3
  obtain ⟨vl1, _⟩ := vl.cut (i1 := i1) (j1 := (l (i1 - 1) + 1) / 2) (by omega) h2 (by rw [A_gt h1]; exact Nat.le_refl _) (by
    have := vl.ab i1 (by omega) h2
    rw [A_gt h1] at this
    exact this)
  refine ⟨i1, _, u, l, ⟨h1, vu1, vl1, by rw [hu0], hc0, rfl, h4, fun q a b => ?_, fun r a b => ?_, fun r a b q c d => ?_⟩, hu0, hl0⟩
  · rw [hu0] at a; exact hl1 q a b
  · rw [hur r a]
    exact hcu r (by omega) (by omega)
  · exact hl2 r a (by omega) q c d

/-- where one way lies above another one, and no third one between, they differ by a face -/
theorem cover_face {w w' : Nat → Nat} (vw : Vs N 0 0 N.m N.n w) (vw' : Vs N 0 0 N.m N.n w') (le : ∀ r, r < N.m → w r ≤ w' r) (hne : ∃ r, r < N.m ∧ w r ≠ w' r)
    (cov : ∀ z, Vs N 0 0 N.m N.n z → (∀ r, r < N.m → w r ≤ z r) → (∀ r, r < N.m → z r ≤ w' r) → (∀ r, r < N.m → z r = w r) ∨ (∀ r, r < N.m → z r = w' r)) :
    ∃ i0 j0 x, x / 2 = j0 ∧ N.X i0 x ∧ ((x % 2 = 0 ∧ N.X i0 (x + 1)) ∨ (N.C i0 j0 ∧ (x % 2 = 0 → ¬ N.X i0 (x + 1)))) ∧
      ∀ i1 j1 u l, IsF N i0 j0 i1 j1 u l → u i0 = x →
        (∀ r, i0 ≤ r → r < i1 → w r = u r ∧ w' r = l r) ∧ (∀ r, r < N.m → ¬ (i0 ≤ r ∧ r < i1) → w r = w' r) ∧ A 0 0 w i0 ≤ j0 ∧ j1 ≤ B N.m N.n w i1 ∧ j1 ≤ B N.m N.n w' i1 := by
  -- the first row in which they differ
  have first : ∃ r, r < N.m ∧ w r ≠ w' r ∧ ∀ q, q < r → w q = w' q := by
    obtain ⟨r, hr, hn⟩ := hne
    have H : ∀ k, k ≤ N.m → (∃ r, r < N.m ∧ w r ≠ w' r ∧ ∀ q, q < r → w q = w' q) ∨ ∀ q, q < k → w q = w' q := by
      intro k
      induction k with
      | zero => intro _; exact .inr fun q h => by omega
      | succ k ih =>
        intro hk
        rcases ih (by omega) with h | h
        · exact .inl h
        · by_cases e : w k = w' k
          · refine .inr fun q hq => ?_
            by_cases eq : q = k
            · subst eq; exact e
            · exact h q (by omega)
          · exact .inl ⟨k, by omega, e, h⟩
    rcases H N.m (Nat.le_refl _) with h | h
    · exact h
    · exact absurd (h r hr) hn
  obtain ⟨i0, hi, hd, hq⟩ := first
  have hlt : w i0 < w' i0 := by have := le i0 hi; omega
  have hX := vw.cr i0 (by omega) hi
  have hX' := vw'.cr i0 (by omega) hi
  have eA : A 0 0 w i0 = A 0 0 w' i0 := by
    unfold A
    split
    · rfl
    · rw [hq (i0 - 1) (by omega)]
  have ha := vw.ab i0 (by omega) (by omega)
  rw [B_lt hi] at ha
  have hC' : w i0 / 2 < w' i0 / 2 → N.C i0 (w i0 / 2) := fun h => vw'.co i0 (by omega) (by omega) _ (by rw [← eA]; exact ha) (by rw [B_lt hi]; exact h)
  refine ⟨i0, w i0 / 2, w i0, rfl, hX, ?_, ?_⟩
  · by_cases h : w i0 / 2 < w' i0 / 2
    · by_cases hp : w i0 % 2 = 0 ∧ N.X i0 (w i0 + 1)
      · exact .inl hp
      · exact .inr ⟨hC' h, fun a b => hp ⟨a, b⟩⟩
    · have e : w' i0 = w i0 + 1 := by omega
      rw [e] at hX'
      exact .inl ⟨by omega, hX'⟩
  · intro i1 j1 u l f hu0
    have lt := f.lt
    have im := f.im
    obtain ⟨c, d, vu, vl⟩ := f.thru
    have gu : ∀ r, i0 ≤ r → r < i1 → glue i1 (glue i0 c u) d r = u r := fun r a b => by rw [glue_lt b, glue_ge a]
    have gl : ∀ r, i0 ≤ r → r < i1 → glue i1 (glue i0 c l) d r = l r := fun r a b => by rw [glue_lt b, glue_ge a]
    have hl0 : l i0 ≤ w' i0 := by
      rcases Nat.lt_or_ge (w' i0) (l i0) with h | h
      · exact absurd hX' (f.f0 _ (by omega) h)
      · exact h
    have sw : ∀ r, i0 ≤ r → r < i1 → w r ≤ u r := by
      rcases f.side vw with h | h
      · exact h
      · have := h i0 (Nat.le_refl _) lt
        have := f.c0
        omega
    have sw' : ∀ r, i0 ≤ r → r < i1 → l r ≤ w' r := by
      rcases f.side vw' with h | h
      · have := h i0 (Nat.le_refl _) lt
        omega
      · exact h
    -- z = min w' (max w l̂) is w'
    have Z1 : ∀ r, r < N.m → Min.min (w' r) (Max.max (w r) (glue i1 (glue i0 c l) d r)) = w' r := by
      rcases cov _ (vw'.min (vw.max vl)) (fun r hr => by have := le r hr; (try dsimp only); omega) (fun r _ => by (try dsimp only); omega) with h | h
      · exfalso
        have q := h i0 hi
        (try dsimp only at q)
        rw [gl i0 (Nat.le_refl _) lt] at q
        have := f.c0
        omega
      · exact h
    have Z2 : ∀ r, r < N.m → Min.min (w' r) (Max.max (w r) (glue i1 (glue i0 c u) d r)) = w r := by
      rcases cov _ (vw'.min (vw.max vu)) (fun r hr => by have := le r hr; (try dsimp only); omega) (fun r _ => by (try dsimp only); omega) with h | h
      · exact h
      · exfalso
        have q := h i0 hi
        (try dsimp only at q)
        rw [gu i0 (Nat.le_refl _) lt] at q
        omega
    have on : ∀ r, i0 ≤ r → r < i1 → w r = u r ∧ w' r = l r := fun r a b => by
      have q1 := Z1 r (by omega)
      have q2 := Z2 r (by omega)
      rw [gl r a b] at q1
      rw [gu r a b] at q2
      have := sw r a b
      have := sw' r a b
      have := f.lu r a b
      omega
    have ew' : A 0 0 w' i1 = j1 := by
      rw [A_gt (by omega), (on (i1 - 1) (by omega) (by omega)).2, f.e1]
    have bw' : j1 ≤ B N.m N.n w' i1 := by
      rw [← ew']
      exact vw'.ab i1 (by omega) im
    have aw : A 0 0 w i1 ≤ j1 := by
      rw [← ew']
      unfold A
      split
      · omega
      · exact half_mono1 (le (i1 - 1) (by omega))
    have bw : j1 ≤ B N.m N.n w i1 := by
      rcases Nat.lt_or_ge (B N.m N.n w i1) j1 with h | h
      · exfalso
        by_cases e : i1 = N.m
        · subst e
          rw [B_at] at h bw'
          omega
        · rw [B_lt (by omega)] at h bw'
          have q2 := Z2 i1 (by omega)
          have q := vu.ab i1 (by omega) im
          -- the way through u reaches the end
          have hb : j1 ≤ B N.m N.n (glue i1 (glue i0 c u) d) i1 := by
            have q' := vl.ab i1 (by omega) im
            rw [A_gt (by omega), gl (i1 - 1) (by omega) (by omega), f.e1] at q'
            have e' : B N.m N.n (glue i1 (glue i0 c l) d) i1 = B N.m N.n (glue i1 (glue i0 c u) d) i1 := by
              unfold B
              split
              · rfl
              · rw [glue_ge (Nat.le_refl _), glue_ge (Nat.le_refl _)]
            rw [← e']
            exact q'
          rw [B_lt (by omega)] at hb
          omega
      · exact h
    refine ⟨on, ?_, by rw [← eA] at *; exact ha, bw, bw'⟩
    -- behind the face
    obtain ⟨p1, _⟩ := vw'.cut (i1 := i1) (j1 := j1) (by omega) im (by rw [ew']; exact Nat.le_refl _) bw'
    obtain ⟨_, p2⟩ := vw.cut (i1 := i1) (j1 := j1) (by omega) im aw bw
    intro r hr hout
    by_cases hr0 : r < i0
    · exact hq r hr0
    · have hge : i1 ≤ r := by omega
      rcases cov _ (p1.glue p2) (fun r hr => by
        by_cases a : r < i1
        · rw [glue_lt a]; exact le r hr
        · rw [glue_ge (by omega)]; exact Nat.le_refl _) (fun r hr => by
        by_cases a : r < i1
        · rw [glue_lt a]; exact Nat.le_refl _
        · rw [glue_ge (by omega)]; exact le r hr) with h | h
      · exfalso
        have := h i0 hi
        rw [glue_lt (by omega)] at this
        omega
      · have := h r hr
        rw [glue_ge hge] at this
        exact this
end K34
end
section
/-! Ways as lists of places. -/
namespace K34

abbrev Pl := Nat × Nat
abbrev Wy := List Pl
abbrev Fc := Wy × Wy

def steps {α : Type} (w : List α) : List (α × α) := w.zip w.tail
theorem steps_cons {α : Type} (p q : α) (t : List α) : steps (p :: q :: t) = (p, q) :: steps (q :: t) := rfl
theorem steps_one {α : Type} (p : α) : steps [p] = [] := rfl
theorem steps_nil {α : Type} : steps ([] : List α) = [] := rfl
theorem steps_append {α : Type} (a b : List α) (p q : α) : steps (a ++ p :: q :: b) = steps (a ++ [p]) ++ (p, q) :: steps (q :: b) := by
  induction a with
  | nil => rfl
  | cons x a ih =>
    cases a with
    | nil => rfl
    | cons y a =>
      show (x, y) :: steps (y :: a ++ p :: q :: b) = (x, y) :: steps (y :: a ++ [p]) ++ _
      rw [ih]; rfl

/-- what a step crosses: nothing, or twice the place in new, 1 more for a pair -/
def cr1 (s : Pl × Pl) : Option Nat := if s.1.1 < s.2.1 then some (2 * s.1.2 + if s.1.2 < s.2.2 then 1 else 0) else none
def crs (w : Wy) : List Nat := (steps w).filterMap cr1
theorem crs_cons (p q : Pl) (t : Wy) : crs (p :: q :: t) = (match cr1 (p, q) with | some x => [x] | none => []) ++ crs (q :: t) := by
  unfold crs
  rw [steps_cons, List.filterMap_cons]
  cases cr1 (p, q) <;> rfl

variable (N : Net)
/-- a step of the net -/
def Net.E (p q : Pl) : Prop := (q = (p.1, p.2 + 1) ∧ N.C p.1 p.2) ∨ (q = (p.1 + 1, p.2) ∧ N.X p.1 (2 * p.2)) ∨ (q = (p.1 + 1, p.2 + 1) ∧ N.X p.1 (2 * p.2 + 1))
inductive Ch : Pl → Pl → Wy → Prop
  | nil (p) : Ch p p [p]
  | cons {p p' q w} : N.E p p' → Ch p' q w → Ch p q (p :: w)
variable {N}

def row (i a b : Nat) : Wy := (List.range' a (b + 1 - a)).map fun j => (i, j)
theorem row_cons {i a b : Nat} (h : a ≤ b) : row i a b = (i, a) :: row i (a + 1) b := by
  unfold row
  have e : b + 1 - a = (b + 1 - (a + 1)) + 1 := by omega
  rw [e, List.range'_succ, List.map_cons]
theorem row_one (i a : Nat) : row i a a = [(i, a)] := by
  rw [row_cons (Nat.le_refl _)]
  unfold row
  rw [show a + 1 - (a + 1) = 0 by omega]; rfl
theorem mem_row {i a b : Nat} {p : Pl} : p ∈ row i a b ↔ p.1 = i ∧ a ≤ p.2 ∧ p.2 ≤ b := by
  unfold row
  simp only [List.mem_map, List.mem_range'_1]
  constructor
  · rintro ⟨j, h, rfl⟩; exact ⟨rfl, h.1, by show j ≤ b; omega⟩
  · rintro ⟨rfl, h1, h2⟩; exact ⟨p.2, ⟨h1, by omega⟩, rfl⟩

def pthK : Nat → Nat → Nat → Nat → (Nat → Nat) → Wy
  | 0, i, a, b, _ => row i a b
  | k + 1, i, a, b, c => row i a (c i / 2) ++ pthK k (i + 1) ((c i + 1) / 2) b c
def pth (i0 j0 i1 j1 : Nat) (c : Nat → Nat) : Wy := pthK (i1 - i0) i0 j0 j1 c

theorem pthK_congr {c d : Nat → Nat} : ∀ (k i a b : Nat), (∀ r, i ≤ r → r < i + k → c r = d r) → pthK k i a b c = pthK k i a b d := by
  intro k
  induction k with
  | zero => intro i a b _; rfl
  | succ k ih =>
    intro i a b h
    show row i a (c i / 2) ++ _ = row i a (d i / 2) ++ _
    rw [h i (Nat.le_refl _) (by omega), ih (i + 1) _ b fun r h1 h2 => h r (by omega) (by omega)]
theorem pth_congr {i0 j0 i1 j1 : Nat} {c d : Nat → Nat} (h : ∀ r, i0 ≤ r → r < i1 → c r = d r) : pth i0 j0 i1 j1 c = pth i0 j0 i1 j1 d :=
  pthK_congr _ _ _ _ fun r h1 h2 => h r h1 (by omega)
theorem pth_zero (i j0 j1 : Nat) (c : Nat → Nat) : pth i j0 i j1 c = row i j0 j1 := by
  unfold pth; rw [Nat.sub_self]; rfl
theorem pth_succ {i0 j0 i1 j1 : Nat} {c : Nat → Nat} (h : i0 < i1) : pth i0 j0 i1 j1 c = row i0 j0 (c i0 / 2) ++ pth (i0 + 1) ((c i0 + 1) / 2) i1 j1 c := by
  unfold pth
  have e : i1 - i0 = (i1 - (i0 + 1)) + 1 := by omega
  rw [e]; rfl
/-- the rows of a way, from the first one -/
theorem Vs.rest {i0 j0 i1 j1 : Nat} {c : Nat → Nat} (v : Vs N i0 j0 i1 j1 c) (h : i0 < i1) :
    j0 ≤ c i0 / 2 ∧ (∀ j, j0 ≤ j → j < c i0 / 2 → N.C i0 j) ∧ N.X i0 (c i0) ∧ Vs N (i0 + 1) ((c i0 + 1) / 2) i1 j1 c := by
  have a := v.ab i0 (Nat.le_refl _) v.le
  rw [A_at, B_lt h] at a
  refine ⟨a, fun j h1 h2 => v.co i0 (Nat.le_refl _) v.le j (by rw [A_at]; exact h1) (by rw [B_lt h]; exact h2), v.cr i0 (Nat.le_refl _) h, ?_⟩
  have b := v.ab (i0 + 1) (by omega) (by omega)
  have e : A i0 j0 c (i0 + 1) = (c i0 + 1) / 2 := by rw [A_gt (by omega)]; rfl
  rw [e] at b
  exact (v.cut (i1 := i0 + 1) (j1 := (c i0 + 1) / 2) (by omega) (by omega) (by rw [e]; exact Nat.le_refl _) b).2
theorem Vs.base {i j0 j1 : Nat} {c : Nat → Nat} (v : Vs N i j0 i j1 c) : j0 ≤ j1 ∧ ∀ j, j0 ≤ j → j < j1 → N.C i j := by
  have a := v.ab i (Nat.le_refl _) (Nat.le_refl _)
  rw [A_at, B_at] at a
  exact ⟨a, fun j h1 h2 => v.co i (Nat.le_refl _) (Nat.le_refl _) j (by rw [A_at]; exact h1) (by rw [B_at]; exact h2)⟩

/-- the path begins and ends where it should -/
theorem pth_head {i0 j0 i1 j1 : Nat} {c : Nat → Nat} (v : Vs N i0 j0 i1 j1 c) : ∃ t, pth i0 j0 i1 j1 c = (i0, j0) :: t := by
  rcases Nat.lt_or_ge i0 i1 with h | h
  · rw [pth_succ h, row_cons (v.rest h).1]; exact ⟨_, rfl⟩
  · have e : i1 = i0 := by have := v.le; omega
    subst e
    rw [pth_zero, row_cons v.base.1]; exact ⟨_, rfl⟩
theorem row_last {i a b : Nat} (h : a ≤ b) : ∃ t, row i a b = t ++ [(i, b)] := by
  unfold row
  have e : b + 1 - a = (b - a) + 1 := by omega
  rw [e, List.range'_concat, List.map_append]
  refine ⟨(List.range' a (b - a)).map fun j => (i, j), ?_⟩
  have e2 : a + 1 * (b - a) = b := by omega
  rw [e2]; rfl
theorem pth_last : ∀ k {i0 j0 i1 j1 : Nat} {c : Nat → Nat}, i1 = i0 + k → Vs N i0 j0 i1 j1 c → ∃ t, pth i0 j0 i1 j1 c = t ++ [(i1, j1)] := by
  intro k
  induction k with
  | zero =>
    intro i0 j0 i1 j1 c e v
    obtain rfl : i1 = i0 := by omega
    rw [pth_zero]; exact row_last v.base.1
  | succ k ih =>
    intro i0 j0 i1 j1 c e v
    obtain ⟨t, ht⟩ := ih (by omega) (v.rest (by omega)).2.2.2
    rw [pth_succ (by omega), ht]
    exact ⟨_, (List.append_assoc _ _ _).symm⟩

theorem mem_pth : ∀ k {i0 j0 i1 j1 : Nat} {c : Nat → Nat}, i1 = i0 + k → Vs N i0 j0 i1 j1 c → ∀ r j, (r, j) ∈ pth i0 j0 i1 j1 c ↔ i0 ≤ r ∧ r ≤ i1 ∧ A i0 j0 c r ≤ j ∧ j ≤ B i1 j1 c r := by
  intro k
  induction k with
  | zero =>
    intro i0 j0 i1 j1 c e v r j
    obtain rfl : i1 = i0 := by omega
    rw [pth_zero, mem_row]
    constructor
    · rintro ⟨h, h1, h2⟩
      dsimp only at h h1 h2
      subst h
      rw [A_at, B_at]; omega
    · rintro ⟨h1, h2, h3, h4⟩
      have e : r = i1 := by omega
      subst e
      rw [A_at] at h3; rw [B_at] at h4
      exact ⟨rfl, h3, h4⟩
  | succ k ih =>
    intro i0 j0 i1 j1 c e v r j
    obtain ⟨h1, h2, h3, h4⟩ := v.rest (by omega)
    rw [pth_succ (by omega), List.mem_append, mem_row, ih (by omega) h4 r j]
    by_cases er : r = i0
    · subst er
      rw [A_at, B_lt (by omega)]
      constructor
      · rintro (⟨_, p, q⟩ | ⟨p, _⟩)
        · exact ⟨Nat.le_refl _, by omega, p, q⟩
        · omega
      · rintro ⟨_, _, p, q⟩
        exact .inl ⟨rfl, p, q⟩
    · have eA : i0 < r → A (i0 + 1) ((c i0 + 1) / 2) c r = A i0 j0 c r := fun hr => by
        rw [A_gt (r := r) hr]
        unfold A
        split
        · rename_i hh; subst hh; rfl
        · rfl
      constructor
      · rintro (⟨p, _⟩ | ⟨p, q, a, b⟩)
        · exact absurd p er
        · rw [eA (by omega)] at a
          exact ⟨by omega, q, a, b⟩
      · rintro ⟨p, q, a, b⟩
        exact .inr ⟨by omega, q, by rw [eA (by omega)]; exact a, b⟩

theorem steps_row {i a b : Nat} {p q : Pl} : (p, q) ∈ steps (row i a b) ↔ ∃ j, a ≤ j ∧ j < b ∧ p = (i, j) ∧ q = (i, j + 1) := by
  have H : ∀ k a, b + 1 - a = k → ((p, q) ∈ steps (row i a b) ↔ ∃ j, a ≤ j ∧ j < b ∧ p = (i, j) ∧ q = (i, j + 1)) := by
    intro k
    induction k with
    | zero =>
      intro a e
      unfold row
      rw [e]
      simp only [List.range'_zero, List.map_nil, steps_nil, List.not_mem_nil, false_iff]
      rintro ⟨j, h1, h2, _⟩; omega
    | succ k ih =>
      intro a e
      rw [row_cons (by omega)]
      by_cases h : a = b
      · subst h
        unfold row
        rw [show a + 1 - (a + 1) = 0 by omega]
        simp only [List.range'_zero, List.map_nil, steps_one, List.not_mem_nil, false_iff]
        rintro ⟨j, h1, h2, _⟩; omega
      · have ih' := ih (a + 1) (by omega)
        rw [row_cons (by omega)] at ih' ⊢
        rw [steps_cons, List.mem_cons, ih', Prod.mk.injEq]
        constructor
        · rintro (⟨rfl, rfl⟩ | ⟨j, h1, h2, h3⟩)
          · exact ⟨a, Nat.le_refl _, by omega, rfl, rfl⟩
          · exact ⟨j, by omega, h2, h3⟩
        · rintro ⟨j, h1, h2, h3, h4⟩
          by_cases ej : j = a
          · subst ej; exact .inl ⟨h3, h4⟩
          · exact .inr ⟨j, by omega, h2, h3, h4⟩
  exact H _ a rfl

theorem steps_app2 {α : Type} {a b : List α} {x y : α} (t1 t2 : List α) (ha : a = t1 ++ [x]) (hb : b = y :: t2) : steps (a ++ b) = steps a ++ (x, y) :: steps b := by
  subst ha hb
  rw [List.append_assoc]
  exact steps_append t1 t2 x y

theorem steps_pth : ∀ k {i0 j0 i1 j1 : Nat} {c : Nat → Nat}, i1 = i0 + k → Vs N i0 j0 i1 j1 c → ∀ p q : Pl, (p, q) ∈ steps (pth i0 j0 i1 j1 c) ↔
    (∃ r, i0 ≤ r ∧ r < i1 ∧ p = (r, c r / 2) ∧ q = (r + 1, (c r + 1) / 2)) ∨ (∃ r j, i0 ≤ r ∧ r ≤ i1 ∧ A i0 j0 c r ≤ j ∧ j < B i1 j1 c r ∧ p = (r, j) ∧ q = (r, j + 1)) := by
  intro k
  induction k with
  | zero =>
    intro i0 j0 i1 j1 c e v p q
    obtain rfl : i1 = i0 := by omega
    rw [pth_zero, steps_row]
    constructor
    · rintro ⟨j, h1, h2, h3, h4⟩
      exact .inr ⟨i1, j, Nat.le_refl _, Nat.le_refl _, by rw [A_at]; exact h1, by rw [B_at]; exact h2, h3, h4⟩
    · rintro (⟨r, h1, h2, _⟩ | ⟨r, j, h1, h2, h3, h4, h5, h6⟩)
      · omega
      · have e : r = i1 := by omega
        subst e
        rw [A_at] at h3; rw [B_at] at h4
        exact ⟨j, h3, h4, h5, h6⟩
  | succ k ih =>
    intro i0 j0 i1 j1 c e v p q
    obtain ⟨h1, h2, h3, h4⟩ := v.rest (by omega)
    obtain ⟨t1, ht1⟩ := row_last (i := i0) h1
    obtain ⟨t2, ht2⟩ := pth_head h4
    rw [pth_succ (by omega), steps_app2 t1 t2 ht1 ht2, List.mem_append, List.mem_cons, steps_row, ih (by omega) h4, Prod.mk.injEq]
    have eA : ∀ r, i0 < r → A (i0 + 1) ((c i0 + 1) / 2) c r = A i0 j0 c r := fun r hr => by
      rw [A_gt (r := r) hr]
      unfold A
      split
      · rename_i hh; subst hh; rfl
      · rfl
    constructor
    · rintro (⟨j, a1, a2, a3, a4⟩ | ⟨a1, a2⟩ | ⟨r, a1, a2, a3, a4⟩ | ⟨r, j, a1, a2, a3, a4, a5, a6⟩)
      · exact .inr ⟨i0, j, Nat.le_refl _, by omega, by rw [A_at]; exact a1, by rw [B_lt (by omega)]; exact a2, a3, a4⟩
      · exact .inl ⟨i0, Nat.le_refl _, by omega, a1, a2⟩
      · exact .inl ⟨r, by omega, a2, a3, a4⟩
      · exact .inr ⟨r, j, by omega, a2, by rw [← eA r (by omega)]; exact a3, a4, a5, a6⟩
    · rintro (⟨r, a1, a2, a3, a4⟩ | ⟨r, j, a1, a2, a3, a4, a5, a6⟩)
      · by_cases er : r = i0
        · subst er; exact .inr (.inl ⟨a3, a4⟩)
        · exact .inr (.inr (.inl ⟨r, by omega, a2, a3, a4⟩))
      · by_cases er : r = i0
        · subst er
          rw [A_at] at a3; rw [B_lt (by omega)] at a4
          exact .inl ⟨j, a3, a4, a5, a6⟩
        · exact .inr (.inr (.inr ⟨r, j, by omega, a2, by rw [eA r (by omega)]; exact a3, a4, a5, a6⟩))

theorem crs_row (i a b : Nat) : crs (row i a b) = [] := by
  unfold crs
  rw [List.filterMap_eq_nil_iff]
  rintro ⟨p, q⟩ h
  obtain ⟨j, _, _, rfl, rfl⟩ := steps_row.mp h
  simp [cr1]
theorem crs_app2 {a b : Wy} {x y : Pl} (t1 t2 : Wy) (ha : a = t1 ++ [x]) (hb : b = y :: t2) : crs (a ++ b) = crs a ++ ((cr1 (x, y)).toList ++ crs b) := by
  unfold crs
  rw [steps_app2 t1 t2 ha hb, List.filterMap_append, List.filterMap_cons]
  cases cr1 (x, y) <;> rfl
theorem cr1_cross (i c : Nat) : cr1 ((i, c / 2), (i + 1, (c + 1) / 2)) = some c := by
  unfold cr1
  dsimp only
  rw [if_pos (by omega)]
  split <;> (congr 1; omega)
theorem crs_pth : ∀ k {i0 j0 i1 j1 : Nat} {c : Nat → Nat}, i1 = i0 + k → Vs N i0 j0 i1 j1 c → crs (pth i0 j0 i1 j1 c) = (List.range' i0 (i1 - i0)).map c := by
  intro k
  induction k with
  | zero =>
    intro i0 j0 i1 j1 c e v
    obtain rfl : i1 = i0 := by omega
    rw [pth_zero, crs_row, Nat.sub_self]; rfl
  | succ k ih =>
    intro i0 j0 i1 j1 c e v
    obtain ⟨h1, h2, h3, h4⟩ := v.rest (by omega)
    obtain ⟨t1, ht1⟩ := row_last (i := i0) h1
    obtain ⟨t2, ht2⟩ := pth_head h4
    rw [pth_succ (by omega), crs_app2 t1 t2 ht1 ht2, crs_row, cr1_cross, ih (by omega) h4]
    have e : i1 - i0 = (i1 - (i0 + 1)) + 1 := by omega
    rw [e, List.range'_succ]; rfl

/-- a way of the net is the path of some crossings -/
theorem Ch.vs {p q : Pl} {w : Wy} (h : Ch N p q w) : ∃ c, Vs N p.1 p.2 q.1 q.2 c ∧ w = pth p.1 p.2 q.1 q.2 c := by
  induction h with
  | nil p => exact ⟨fun _ => 0, Vs.nil _, by rw [pth_zero, row_one]⟩
  | @cons p p' q w e h ih =>
    obtain ⟨c, v, rfl⟩ := ih
    obtain ⟨i, j⟩ := p
    rcases e with ⟨rfl, hC⟩ | ⟨rfl, hX⟩ | ⟨rfl, hX⟩
    · refine ⟨c, v.come hC, ?_⟩
      have hle := v.le
      dsimp only at hle v ⊢
      rcases Nat.lt_or_ge i q.1 with hh | hh
      · have r := (v.rest hh).1
        rw [pth_succ hh, pth_succ hh, row_cons (show j ≤ c i / 2 by omega)]; rfl
      · have e : q.1 = i := by omega
        rw [e] at v ⊢
        rw [pth_zero, pth_zero, row_cons (show j ≤ q.2 by have := v.base.1; omega)]
    · have hle := v.le
      dsimp only at hX hle v ⊢
      have e2 : (2 * j + 1) / 2 = j := by omega
      have e3 : 2 * j / 2 = j := by omega
      have v' : Vs N (i + 1) ((2 * j + 1) / 2) q.1 q.2 c := by rw [e2]; exact v
      have v2 := Vs.cross hX v'
      rw [e3] at v2
      refine ⟨_, v2, ?_⟩
      rw [pth_succ (show i < q.1 by omega)]
      simp only [if_pos]
      rw [e2, e3, row_one]
      show _ :: _ = _ :: _
      congr 1
      exact pth_congr fun r h1 h2 => by rw [if_neg (by omega)]
    · have hle := v.le
      dsimp only at hX hle v ⊢
      have e2 : (2 * j + 1 + 1) / 2 = j + 1 := by omega
      have e3 : (2 * j + 1) / 2 = j := by omega
      have v' : Vs N (i + 1) ((2 * j + 1 + 1) / 2) q.1 q.2 c := by rw [e2]; exact v
      have v2 := Vs.cross hX v'
      rw [e3] at v2
      refine ⟨_, v2, ?_⟩
      rw [pth_succ (show i < q.1 by omega)]
      simp only [if_pos]
      rw [e2, e3, row_one]
      show _ :: _ = _ :: _
      congr 1
      exact pth_congr fun r h1 h2 => by rw [if_neg (by omega)]

theorem Ch.app {p q r : Pl} {w t : Wy} (h : Ch N p q w) (k : Ch N q r (q :: t)) : Ch N p r (w ++ t) := by
  induction h with
  | nil p => exact k
  | cons e _ ih => exact .cons e (ih k)
theorem Ch.link {p q q' r : Pl} {w t : Wy} (h : Ch N p q w) (e : N.E q q') (k : Ch N q' r t) : Ch N p r (w ++ t) := h.app (.cons e k)
theorem ch_row {i : Nat} : ∀ k {a b : Nat}, b = a + k → (∀ j, a ≤ j → j < b → N.C i j) → Ch N (i, a) (i, b) (row i a b) := by
  intro k
  induction k with
  | zero => intro a b e _; obtain rfl : b = a := by omega
            rw [row_one]; exact .nil _
  | succ k ih =>
    intro a b e h
    rw [row_cons (by omega)]
    exact .cons (.inl ⟨rfl, h a (Nat.le_refl _) (by omega)⟩) (ih (by omega) fun j h1 h2 => h j (by omega) h2)
theorem X_E {i c : Nat} (h : N.X i c) : N.E (i, c / 2) (i + 1, (c + 1) / 2) := by
  rcases Nat.mod_two_eq_zero_or_one c with e | e
  · refine .inr (.inl ⟨?_, ?_⟩)
    · show (i + 1, (c + 1) / 2) = (i + 1, c / 2); congr 1; omega
    · show N.X i (2 * (c / 2)); rw [show 2 * (c / 2) = c by omega]; exact h
  · refine .inr (.inr ⟨?_, ?_⟩)
    · show (i + 1, (c + 1) / 2) = (i + 1, c / 2 + 1); congr 1; omega
    · show N.X i (2 * (c / 2) + 1); rw [show 2 * (c / 2) + 1 = c by omega]; exact h
theorem ch_pth : ∀ k {i0 j0 i1 j1 : Nat} {c : Nat → Nat}, i1 = i0 + k → Vs N i0 j0 i1 j1 c → Ch N (i0, j0) (i1, j1) (pth i0 j0 i1 j1 c) := by
  intro k
  induction k with
  | zero =>
    intro i0 j0 i1 j1 c e v
    obtain rfl : i1 = i0 := by omega
    rw [pth_zero]
    exact ch_row (j1 - j0) (by have := v.base.1; omega) v.base.2
  | succ k ih =>
    intro i0 j0 i1 j1 c e v
    obtain ⟨h1, h2, h3, h4⟩ := v.rest (by omega)
    rw [pth_succ (by omega)]
    exact (ch_row (c i0 / 2 - j0) (by omega) h2).link (X_E h3) (ih (by omega) h4)
theorem Vs.ch {i0 j0 i1 j1 : Nat} {c : Nat → Nat} (v : Vs N i0 j0 i1 j1 c) : Ch N (i0, j0) (i1, j1) (pth i0 j0 i1 j1 c) := ch_pth (i1 - i0) (by have := v.le; omega) v
/-- a path through a place -/
theorem pth_cut : ∀ k {i0 j0 i1 j1 i2 j2 : Nat} {c : Nat → Nat}, i1 = i0 + k → Vs N i0 j0 i1 j1 c → Vs N i1 j1 i2 j2 c → ∃ t, pth i1 j1 i2 j2 c = (i1, j1) :: t ∧ pth i0 j0 i2 j2 c = pth i0 j0 i1 j1 c ++ t := by
  intro k
  induction k with
  | zero =>
    intro i0 j0 i1 j1 i2 j2 c e v u
    obtain rfl : i1 = i0 := by omega
    obtain ⟨t, ht⟩ := pth_head u
    refine ⟨t, ht, ?_⟩
    rw [pth_zero]
    have key : ∀ n a, j1 = a + n → a ≤ j1 → pth i1 a i2 j2 c = row i1 a j1 ++ t := by
      intro n
      induction n with
      | zero => intro a e _; obtain rfl : a = j1 := by omega
                rw [row_one, ht]; rfl
      | succ n ih =>
        intro a e h
        rw [row_cons (by omega)]
        have := ih (a + 1) (by omega) (by omega)
        show _ = (i1, a) :: (row i1 (a + 1) j1 ++ t)
        rw [← this]
        have hle := u.le
        rcases Nat.lt_or_ge i1 i2 with hh | hh
        · have r := (u.rest hh).1
          rw [pth_succ hh, pth_succ hh, row_cons (show a ≤ c i1 / 2 by omega)]; rfl
        · have e : i2 = i1 := by omega
          subst e
          rw [pth_zero, pth_zero, row_cons (show a ≤ j2 by have := u.base.1; omega)]
    exact key (j1 - j0) j0 (by have := v.base.1; omega) v.base.1
  | succ k ih =>
    intro i0 j0 i1 j1 i2 j2 c e v u
    obtain ⟨h1, h2, h3, h4⟩ := v.rest (by omega)
    obtain ⟨t, ht, hp⟩ := ih (by omega) h4 u
    refine ⟨t, ht, ?_⟩
    have := u.le
    rw [pth_succ (show i0 < i2 by omega), pth_succ (show i0 < i1 by omega), hp, List.append_assoc]
end K34
end
section
/-! The faces of a web and the flips of its ways. -/
namespace K34

def cand (p : Pl) : List Pl := [(p.1 + 1, p.2), (p.1 + 1, p.2 + 1), (p.1, p.2 + 1)]

structure Web where
  m : Nat
  n : Nat
  v : Pl → Bool
  e : Pl → Pl → Bool
  ev : ∀ {p q}, q ∈ cand p → e p q = true → v p = true ∧ v q = true
  vb : ∀ {p}, v p = true → p.1 ≤ m ∧ p.2 ≤ n
  out : ∀ {p}, v p = true → p = (m, n) ∨ ∃ q ∈ cand p, e p q = true
  inn : ∀ {q}, v q = true → q = (0, 0) ∨ ∃ p, q ∈ cand p ∧ e p q = true
  v0 : v (0, 0) = true

def Web.wst (W : Web) (p : Pl) : List Pl := (cand p).filter (W.e p)

theorem cand_cross (r c : Nat) : (r + 1, (c + 1) / 2) ∈ cand (r, c / 2) := by
  unfold cand
  rcases Nat.mod_two_eq_zero_or_one c with h | h
  · have : (c + 1) / 2 = c / 2 := by omega
    rw [this]; simp
  · have : (c + 1) / 2 = c / 2 + 1 := by omega
    rw [this]; simp
theorem cand_come (r j : Nat) : (r, j + 1) ∈ cand (r, j) := by simp [cand]

def Web.net (W : Web) : Net where
  m := W.m
  n := W.n
  V := fun i j => W.v (i, j) = true
  C := fun r j => W.e (r, j) (r, j + 1) = true
  X := fun r c => W.e (r, c / 2) (r + 1, (c + 1) / 2) = true
  cV := fun {r j} h => W.ev (cand_come r j) h
  xV := fun {r c} h => W.ev (cand_cross r c) h
  vb := fun h => W.vb h
  out := fun {i j} h => by
    rcases W.out h with h | ⟨q, hq, he⟩
    · simp at h; exact .inl h
    · simp only [cand, List.mem_cons, List.not_mem_nil, or_false] at hq
      rcases hq with rfl | rfl | rfl
      · refine .inr (.inl ?_)
        rw [show 2 * j / 2 = j by omega, show (2 * j + 1) / 2 = j by omega]; exact he
      · refine .inr (.inr (.inl ?_))
        rw [show (2 * j + 1) / 2 = j by omega, show (2 * j + 1 + 1) / 2 = j + 1 by omega]; exact he
      · exact .inr (.inr (.inr he))
  inn := fun {i j} h => by
    rcases W.inn h with h | ⟨p, hq, he⟩
    · simp at h; exact .inl h
    · obtain ⟨a, b⟩ := p
      simp only [cand, List.mem_cons, List.not_mem_nil, or_false, Prod.mk.injEq] at hq
      rcases hq with ⟨rfl, rfl⟩ | ⟨rfl, rfl⟩ | ⟨rfl, rfl⟩
      · refine .inr (.inl ⟨a, 2 * j, rfl, by omega, ?_⟩)
        rw [show 2 * j / 2 = j by omega, show (2 * j + 1) / 2 = j by omega]; exact he
      · refine .inr (.inl ⟨a, 2 * b + 1, rfl, by omega, ?_⟩)
        rw [show (2 * b + 1) / 2 = b by omega, show (2 * b + 1 + 1) / 2 = b + 1 by omega]; exact he
      · exact .inr (.inr ⟨b, rfl, he⟩)
  v0 := W.v0

theorem Web.netX0 {W : Web} {i j : Nat} : W.net.X i (2 * j) ↔ W.e (i, j) (i + 1, j) = true := by
  show W.e (i, 2 * j / 2) (i + 1, (2 * j + 1) / 2) = true ↔ _
  rw [show 2 * j / 2 = j by omega, show (2 * j + 1) / 2 = j by omega]
theorem Web.netX1 {W : Web} {i j : Nat} : W.net.X i (2 * j + 1) ↔ W.e (i, j) (i + 1, j + 1) = true := by
  show W.e (i, (2 * j + 1) / 2) (i + 1, (2 * j + 1 + 1) / 2) = true ↔ _
  rw [show (2 * j + 1) / 2 = j by omega, show (2 * j + 1 + 1) / 2 = j + 1 by omega]
theorem Web.netE {W : Web} {p q : Pl} : W.net.E p q ↔ q ∈ cand p ∧ W.e p q = true := by
  obtain ⟨i, j⟩ := p
  unfold Net.E
  rw [Web.netX0, Web.netX1]
  simp only [cand, List.mem_cons, List.not_mem_nil, or_false]
  constructor
  · rintro (⟨rfl, h⟩ | ⟨rfl, h⟩ | ⟨rfl, h⟩)
    · exact ⟨.inr (.inr rfl), h⟩
    · exact ⟨.inl rfl, h⟩
    · exact ⟨.inr (.inl rfl), h⟩
  · rintro ⟨rfl | rfl | rfl, h⟩
    · exact .inr (.inl ⟨rfl, h⟩)
    · exact .inr (.inr ⟨rfl, h⟩)
    · exact .inl ⟨rfl, h⟩

/-- the steps of a place, by which of the three there are -/
theorem Web.wst_eq (W : Web) (i j : Nat) : W.wst (i, j) =
    (if W.e (i, j) (i + 1, j) = true then [(i + 1, j)] else []) ++ ((if W.e (i, j) (i + 1, j + 1) = true then [(i + 1, j + 1)] else []) ++ (if W.e (i, j) (i, j + 1) = true then [(i, j + 1)] else [])) := by
  unfold Web.wst cand
  simp only [List.filter_cons, List.filter_nil]
  cases W.e (i, j) (i + 1, j) <;> cases W.e (i, j) (i + 1, j + 1) <;> cases W.e (i, j) (i, j + 1) <;> rfl

theorem Web.last_come {W : Web} {r j : Nat} (h : W.net.C r j) : (W.wst (r, j)).getLast? = some (r, j + 1) := by
  have h' : W.e (r, j) (r, j + 1) = true := h
  rw [W.wst_eq, if_pos h']
  simp
theorem Web.last_cross {W : Web} {r c : Nat} (h : W.net.X r c) (h1 : ¬ W.net.C r (c / 2)) (h2 : c % 2 = 0 → ¬ W.net.X r (c + 1)) : (W.wst (r, c / 2)).getLast? = some (r + 1, (c + 1) / 2) := by
  have h1' : ¬ W.e (r, c / 2) (r, c / 2 + 1) = true := h1
  rw [W.wst_eq, if_neg h1']
  rcases Nat.mod_two_eq_zero_or_one c with e | e
  · have e1 : c = 2 * (c / 2) := by omega
    have e2 : (c + 1) / 2 = c / 2 := by omega
    have h' := h
    rw [e1] at h'
    have hx := Web.netX0.mp h'
    have h2' := h2 e
    rw [show c + 1 = 2 * (c / 2) + 1 by omega] at h2'
    have hy := fun z => h2' (Web.netX1.mpr z)
    rw [if_pos hx, if_neg hy, e2]; rfl
  · have e1 : c = 2 * (c / 2) + 1 := by omega
    have e2 : (c + 1) / 2 = c / 2 + 1 := by omega
    have h' := h
    rw [e1] at h'
    have hx := Web.netX1.mp h'
    rw [if_pos hx, e2]
    simp
theorem Web.first_cross {W : Web} {r c : Nat} (h : W.net.X r c) (h2 : c % 2 = 1 → ¬ W.net.X r (c - 1)) : (W.wst (r, c / 2)).head? = some (r + 1, (c + 1) / 2) := by
  rw [W.wst_eq]
  rcases Nat.mod_two_eq_zero_or_one c with e | e
  · have e1 : c = 2 * (c / 2) := by omega
    have e2 : (c + 1) / 2 = c / 2 := by omega
    have h' := h
    rw [e1] at h'
    have hx := Web.netX0.mp h'
    rw [if_pos hx, e2]; rfl
  · have e1 : c = 2 * (c / 2) + 1 := by omega
    have e2 : (c + 1) / 2 = c / 2 + 1 := by omega
    have h' := h
    rw [e1] at h'
    have hx := Web.netX1.mp h'
    have h2' := h2 e
    rw [show c - 1 = 2 * (c / 2) by omega] at h2'
    have hy := fun z => h2' (Web.netX0.mpr z)
    rw [if_neg hy, if_pos hx, e2]; rfl
theorem Web.first_come {W : Web} {r j : Nat} (h : W.net.C r j) (h0 : ¬ W.net.X r (2 * j)) (h1 : ¬ W.net.X r (2 * j + 1)) : (W.wst (r, j)).head? = some (r, j + 1) := by
  have h' : W.e (r, j) (r, j + 1) = true := h
  rw [W.wst_eq, if_neg (fun z => h0 (Web.netX0.mpr z)), if_neg (fun z => h1 (Web.netX1.mpr z)), if_pos h']; rfl

/-- what the tracing of a face wants to know of its two sides -/
structure TR (W : Web) (b x y : Pl) (U L : Wy) : Prop where
  hu : ∃ t, U = b :: x :: t
  hl : ∃ t, L = b :: y :: t
  su : ∀ p q, (p, q) ∈ steps U.tail → W.v p = true ∧ (W.wst p).getLast? = some q
  sl : ∀ p q, (p, q) ∈ steps L.tail → W.v p = true ∧ (W.wst p).head? = some q
  en : U.getLast? = L.getLast?
  dj : ∀ p, p ∈ U.tail → p ∈ L.tail → U.getLast? = some p
  iu : ∀ p q, (p, q) ∈ steps U → p.1 + p.2 < q.1 + q.2
  il : ∀ p q, (p, q) ∈ steps L → p.1 + p.2 < q.1 + q.2

theorem IsF.V1 {N : Net} {i0 j0 i1 j1 : Nat} {u l : Nat → Nat} (f : IsF N i0 j0 i1 j1 u l) : j1 ≤ N.n := by
  have hlt := f.lt
  have h := N.vb (N.xV (f.vl.cr (i1 - 1) (by omega) (by omega))).2
  rw [f.e1] at h
  exact h.2

theorem IsF.tr {W : Web} {i0 j0 i1 j1 x : Nat} {u l : Nat → Nat} (f : IsF W.net i0 j0 i1 j1 u l) (hu : u i0 = x) :
    TR W (i0, j0) (i0 + 1, (x + 1) / 2) (if l i0 / 2 = j0 then (i0 + 1, (l i0 + 1) / 2) else (i0, j0 + 1)) (pth i0 j0 i1 j1 u) (pth i0 j0 i1 j1 l) := by
  have lt := f.lt
  obtain ⟨a1, a2, a3, a4⟩ := f.vu.rest lt
  obtain ⟨b1, b2, b3, b4⟩ := f.vl.rest lt
  have eU : pth i0 j0 i1 j1 u = (i0, j0) :: pth (i0 + 1) ((u i0 + 1) / 2) i1 j1 u := by
    rw [pth_succ lt, f.b0, row_one]; rfl
  obtain ⟨tU, hU⟩ := pth_head a4
  have ku : i1 = (i0 + 1) + (i1 - (i0 + 1)) := by omega
  have kk : i1 = i0 + (i1 - i0) := by omega
  have inc : ∀ {c : Nat → Nat}, Vs W.net i0 j0 i1 j1 c → ∀ p q, (p, q) ∈ steps (pth i0 j0 i1 j1 c) → p.1 + p.2 < q.1 + q.2 := by
    intro c v p q h
    rcases (steps_pth _ kk v p q).mp h with ⟨r, _, _, rfl, rfl⟩ | ⟨r, j, _, _, _, _, rfl, rfl⟩
    · show r + c r / 2 < r + 1 + (c r + 1) / 2; omega
    · show r + j < r + (j + 1); omega
  obtain ⟨sU, hsU⟩ := pth_last _ kk f.vu
  obtain ⟨sL, hsL⟩ := pth_last _ kk f.vl
  refine ⟨⟨tU, ?_⟩, ?_, ?_, ?_, ?_, ?_, inc f.vu, inc f.vl⟩
  · rw [eU, hU, hu]
  · by_cases h : l i0 / 2 = j0
    · rw [if_pos h, pth_succ lt, h, row_one]
      obtain ⟨t, ht⟩ := pth_head b4
      exact ⟨t, by rw [ht]; rfl⟩
    · rw [if_neg h, pth_succ lt, row_cons b1, row_cons (show j0 + 1 ≤ l i0 / 2 by omega)]
      exact ⟨_, rfl⟩
  · -- the upper side takes last steps
    intro p q h
    rw [eU] at h
    rcases (steps_pth _ ku a4 p q).mp h with ⟨r, h1, h2, rfl, rfl⟩ | ⟨r, j, h1, h2, h3, h4, rfl, rfl⟩
    · obtain ⟨n1, n2⟩ := f.ul r (by omega) h2
      have hX := f.vu.cr r (by omega) h2
      exact ⟨(W.net.xV hX).1, Web.last_cross hX n1 n2⟩
    · have hC := a4.co r h1 h2 j h3 h4
      exact ⟨(W.net.cV hC).1, Web.last_come hC⟩
  · -- the lower side takes first steps
    have key : ∀ p q, (p, q) ∈ steps (pth i0 j0 i1 j1 l) → p ≠ (i0, j0) → W.v p = true ∧ (W.wst p).head? = some q := by
      intro p q h hne
      rcases (steps_pth _ kk f.vl p q).mp h with ⟨r, h1, h2, rfl, rfl⟩ | ⟨r, j, h1, h2, h3, h4, rfl, rfl⟩
      · have hX := f.vl.cr r h1 h2
        refine ⟨(W.net.xV hX).1, Web.first_cross hX fun hodd => ?_⟩
        have hab := f.vl.ab r h1 (by omega)
        rw [B_lt h2] at hab
        by_cases er : r = i0
        · subst er
          refine f.f0 _ ?_ (by omega)
          have : l r / 2 ≠ j0 := fun z => hne (by rw [z])
          have := f.b0
          omega
        · rw [A_gt (by omega)] at hab
          exact f.lf r (by omega) h2 _ (by omega) (by omega)
      · have hC := f.vl.co r h1 h2 j h3 h4
        have n1 : r < i1 := by
          rcases Nat.lt_or_ge r i1 with z | z
          · exact z
          · have e : r = i1 := by omega
            subst e
            rw [A_gt lt, f.e1] at h3
            rw [B_at] at h4
            omega
        rw [B_lt n1] at h4
        refine ⟨(W.net.cV hC).1, ?_⟩
        by_cases er : r = i0
        · subst er
          rw [A_at] at h3
          have hj : j ≠ j0 := fun z => hne (by rw [z])
          have := f.b0
          exact Web.first_come hC (f.f0 _ (by omega) (by omega)) (f.f0 _ (by omega) (by omega))
        · rw [A_gt (by omega)] at h3
          exact Web.first_come hC (f.lf r (by omega) n1 _ (by omega) (by omega)) (f.lf r (by omega) n1 _ (by omega) (by omega))
    intro p q h
    obtain ⟨t, ht⟩ := pth_head f.vl
    rw [ht] at h
    have hin : (p, q) ∈ steps (pth i0 j0 i1 j1 l) := by
      rw [ht]
      cases t with
      | nil => exact absurd h List.not_mem_nil
      | cons z t => exact List.mem_cons_of_mem _ h
    refine key p q hin ?_
    rintro rfl
    -- the begin does not come again
    have hp : ((i0, j0) : Pl) ∈ t := by
      have := (List.of_mem_zip (show ((i0, j0), q) ∈ t.zip t.tail from h)).1
      exact this
    have nodup : ∀ (w : Wy) (a : Pl), (∀ p q, (p, q) ∈ steps (a :: w) → p.1 + p.2 < q.1 + q.2) → ∀ z ∈ w, a.1 + a.2 < z.1 + z.2 := by
      intro w
      induction w with
      | nil => intro a _ z hz; cases hz
      | cons y w ih =>
        intro a hs z hz
        have h1 := hs a y (by rw [steps_cons]; exact List.mem_cons_self)
        rcases List.mem_cons.mp hz with rfl | hz
        · exact h1
        · have := ih y (fun p q hpq => hs p q (by rw [steps_cons]; exact List.mem_cons_of_mem _ hpq)) z hz
          omega
    have := nodup t (i0, j0) (by rw [← ht]; exact inc f.vl) _ hp
    omega
  · rw [hsU, hsL]; simp
  · -- what the sides share
    intro p hp hq
    rw [hsU]
    rw [eU] at hp
    obtain ⟨r, j⟩ := p
    obtain ⟨h1, h2, h3, h4⟩ := (mem_pth _ ku a4 r j).mp hp
    have hq' : (r, j) ∈ pth i0 j0 i1 j1 l := List.mem_of_mem_tail hq
    obtain ⟨g1, g2, g3, g4⟩ := (mem_pth _ kk f.vl r j).mp hq'
    have er : r = i1 := by
      rcases Nat.lt_or_ge r i1 with z | z
      · have := f.dis r (by omega) z
        rw [B_lt z] at h4
        rw [A_gt (by omega)] at g3
        omega
      · omega
    subst er
    rw [A_gt lt, f.e1] at g3
    rw [B_at] at g4
    have ej : j = j1 := by omega
    subst ej
    simp

/-- a face of the web: it begins at b with the steps x and y -/
structure FaceOf (W : Web) (b x y : Pl) (f : Fc) : Prop where
  ex : ∃ i1 j1 u l, IsF W.net b.1 b.2 i1 j1 u l ∧ f = (pth b.1 b.2 i1 j1 u, pth b.1 b.2 i1 j1 l) ∧ x = (b.1 + 1, (u b.1 + 1) / 2)
  tr : TR W b x y f.1 f.2

theorem Web.face_ex {W : Web} {b x y : Pl} (h : (x, y) ∈ steps (W.wst b)) : ∃ f, FaceOf W b x y f := by
  obtain ⟨i, j⟩ := b
  rw [W.wst_eq] at h
  -- which steps there are
  have cases3 : (W.e (i, j) (i + 1, j) = true ∧ W.e (i, j) (i + 1, j + 1) = true ∧ x = (i + 1, j) ∧ y = (i + 1, j + 1)) ∨
      (W.e (i, j) (i + 1, j) = true ∧ ¬ W.e (i, j) (i + 1, j + 1) = true ∧ W.e (i, j) (i, j + 1) = true ∧ x = (i + 1, j) ∧ y = (i, j + 1)) ∨
      (W.e (i, j) (i + 1, j + 1) = true ∧ W.e (i, j) (i, j + 1) = true ∧ x = (i + 1, j + 1) ∧ y = (i, j + 1)) := by
    by_cases h1 : W.e (i, j) (i + 1, j) = true <;> by_cases h2 : W.e (i, j) (i + 1, j + 1) = true <;> by_cases h3 : W.e (i, j) (i, j + 1) = true <;> simp [h1, h2, h3, steps] at h ⊢ <;> simp [h]
  rcases cases3 with ⟨h1, h2, rfl, rfl⟩ | ⟨h1, h2, h3, rfl, rfl⟩ | ⟨h2, h3, rfl, rfl⟩
  · have hx := Web.netX0.mpr h1
    have hy := Web.netX1.mpr h2
    obtain ⟨i1, j1, u, l, f, hu, hl, _⟩ := exist_face (N := W.net) (i := i) (j := j) (x := 2 * j) (by omega) hx (.inl ⟨by omega, hy⟩)
    have hl' := hl ⟨by omega, hy⟩
    have t := f.tr hu
    rw [hl', show (2 * j + 1) / 2 = j by omega, if_pos rfl, show (2 * j + 1 + 1) / 2 = j + 1 by omega] at t
    exact ⟨_, ⟨i1, j1, u, l, f, rfl, by rw [hu]; show _ = (i + 1, (2 * j + 1) / 2); rw [show (2 * j + 1) / 2 = j by omega]⟩, t⟩
  · have hx := Web.netX0.mpr h1
    have hy : ¬ W.net.X i (2 * j + 1) := fun z => h2 (Web.netX1.mp z)
    obtain ⟨i1, j1, u, l, f, hu, _, hl⟩ := exist_face (N := W.net) (i := i) (j := j) (x := 2 * j) (by omega) hx (.inr ⟨h3, fun _ => hy⟩)
    have hl' := hl fun z => hy z.2
    have t := f.tr hu
    rw [if_neg (by omega), show (2 * j + 1) / 2 = j by omega] at t
    exact ⟨_, ⟨i1, j1, u, l, f, rfl, by rw [hu]; show _ = (i + 1, (2 * j + 1) / 2); rw [show (2 * j + 1) / 2 = j by omega]⟩, t⟩
  · have hx := Web.netX1.mpr h2
    obtain ⟨i1, j1, u, l, f, hu, _, hl⟩ := exist_face (N := W.net) (i := i) (j := j) (x := 2 * j + 1) (by omega) hx (.inr ⟨h3, fun z => by omega⟩)
    have hl' := hl fun z => by omega
    have t := f.tr hu
    rw [if_neg (by omega), show (2 * j + 1 + 1) / 2 = j + 1 by omega] at t
    exact ⟨_, ⟨i1, j1, u, l, f, rfl, by rw [hu]; show _ = (i + 1, (2 * j + 1 + 1) / 2); rw [show (2 * j + 1 + 1) / 2 = j + 1 by omega]⟩, t⟩

/-! ### what the law asks -/
def isAbove (a b : List Nat) : Bool := decide (a ≠ b) && (a.zip b).all fun z => decide (z.1 ≤ z.2)
def cp {α : Type} [DecidableEq α] : List α → List α → Nat
  | a :: as, b :: bs => if a = b then cp as bs + 1 else 0
  | _, _ => 0
def cut1 (a b : Nat) (w : Wy) : Wy := (w.drop a).take (w.length - b - a)
def str (w w' : Wy) : Fc := (cut1 (cp w.tail w'.tail) (cp w.reverse.tail w'.reverse.tail) w, cut1 (cp w.tail w'.tail) (cp w.reverse.tail w'.reverse.tail) w')
def passed (w : Wy) (f : Fc) : Bool := ((crs f.2).zip (((crs w).drop ((f.2.head?.getD (0, 0)).1)).take (crs f.2).length)).all fun z => decide (z.1 ≤ z.2)

theorem cp_app {α : Type} [DecidableEq α] (s a b : List α) : cp (s ++ a) (s ++ b) = s.length + cp a b := by
  induction s with
  | nil => simp
  | cons x s ih =>
    show (if x = x then cp (s ++ a) (s ++ b) + 1 else 0) = _
    rw [if_pos rfl, ih, List.length_cons]; omega
theorem cp_ne {α : Type} [DecidableEq α] {x y : α} (h : x ≠ y) (a b : List α) : cp (x :: a) (y :: b) = 0 := by
  show (if x = y then _ else 0) = 0
  rw [if_neg h]
theorem tail_app {α : Type} (pre : List α) (b x : α) (t : List α) : (pre ++ b :: x :: t).tail = (pre ++ [b]).tail ++ x :: t := by
  cases pre with
  | nil => rfl
  | cons p pre => simp
/-- two ways that part at b and meet again at e -/
structure Parts (w w' : Wy) (U L : Wy) : Prop where
  ex : ∃ pre post b x y t s, U = b :: x :: t ∧ L = b :: y :: s ∧ x ≠ y ∧ w = pre ++ (U ++ post) ∧ w' = pre ++ (L ++ post) ∧
    ∃ e x' y' t' s', U = t' ++ [x', e] ∧ L = s' ++ [y', e] ∧ x' ≠ y'
theorem Parts.cps {w w' U L : Wy} (h : Parts w w' U L) : ∃ pre post : Wy, w = pre ++ (U ++ post) ∧ w' = pre ++ (L ++ post) ∧ cp w.tail w'.tail = pre.length ∧ cp w.reverse.tail w'.reverse.tail = post.length ∧
    cp w.tail w'.tail < w.tail.length ∧ cp w.tail w'.tail < w'.tail.length ∧ cp w.reverse.tail w'.reverse.tail < w.reverse.tail.length ∧ cp w.reverse.tail w'.reverse.tail < w'.reverse.tail.length := by
  obtain ⟨pre, post, b, x, y, t, s, hU, hL, hxy, hw, hw', e, x', y', t', s', hU', hL', hxy'⟩ := h.ex
  have e1 : w.tail = (pre ++ [b]).tail ++ x :: (t ++ post) := by
    rw [hw, hU]; exact tail_app pre b x _
  have e2 : w'.tail = (pre ++ [b]).tail ++ y :: (s ++ post) := by
    rw [hw', hL]; exact tail_app pre b y _
  have e3 : w.reverse.tail = (post.reverse ++ [e]).tail ++ x' :: (t'.reverse ++ pre.reverse) := by
    rw [hw, hU']
    simp only [List.reverse_append, List.reverse_cons, List.nil_append, List.append_assoc, List.cons_append]
    exact tail_app _ _ _ _
  have e4 : w'.reverse.tail = (post.reverse ++ [e]).tail ++ y' :: (s'.reverse ++ pre.reverse) := by
    rw [hw', hL']
    simp only [List.reverse_append, List.reverse_cons, List.nil_append, List.append_assoc, List.cons_append]
    exact tail_app _ _ _ _
  have l1 : ((pre ++ [b]).tail).length = pre.length := by simp
  have l2 : ((post.reverse ++ [e]).tail).length = post.length := by simp
  have c1 : cp w.tail w'.tail = pre.length := by rw [e1, e2, cp_app, cp_ne hxy, l1]; rfl
  have c2 : cp w.reverse.tail w'.reverse.tail = post.length := by rw [e3, e4, cp_app, cp_ne hxy', l2]; rfl
  refine ⟨pre, post, hw, hw', c1, c2, ?_, ?_, ?_, ?_⟩
  · rw [c1, e1, List.length_append, l1, List.length_cons]; omega
  · rw [c1, e2, List.length_append, l1, List.length_cons]; omega
  · rw [c2, e3, List.length_append, l2, List.length_cons]; omega
  · rw [c2, e4, List.length_append, l2, List.length_cons]; omega
theorem cut1_mid (pre U post : Wy) : cut1 pre.length post.length (pre ++ (U ++ post)) = U := by
  unfold cut1
  rw [List.drop_left, List.length_append, List.length_append]
  rw [show pre.length + (U.length + post.length) - post.length - pre.length = U.length by omega, List.take_left]
theorem Parts.str {w w' U L : Wy} (h : Parts w w' U L) : str w w' = (U, L) := by
  obtain ⟨pre, post, hw, hw', c1, c2, _⟩ := h.cps
  unfold K34.str
  rw [c1, c2, hw, hw', cut1_mid, cut1_mid]

theorem isAbove_iff {m : Nat} {c d : Nat → Nat} : isAbove ((List.range' 0 m).map c) ((List.range' 0 m).map d) = true ↔ (∃ r, r < m ∧ c r ≠ d r) ∧ ∀ r, r < m → c r ≤ d r := by
  unfold isAbove
  rw [Bool.and_eq_true, decide_eq_true_eq, List.all_eq_true]
  have h1 : (List.range' 0 m).map c ≠ (List.range' 0 m).map d ↔ ∃ r, r < m ∧ c r ≠ d r := by
    constructor
    · intro h
      refine Classical.byContradiction fun hn => h (List.map_congr_left fun r hr => ?_)
      refine Classical.byContradiction fun hc => hn ⟨r, ?_, hc⟩
      have := List.mem_range'_1.mp hr
      omega
    · rintro ⟨r, hr, hne⟩ h
      exact hne (List.map_inj_left.mp h r (List.mem_range'_1.mpr ⟨by omega, by omega⟩))
  have h2 : (∀ z ∈ ((List.range' 0 m).map c).zip ((List.range' 0 m).map d), decide (z.1 ≤ z.2) = true) ↔ ∀ r, r < m → c r ≤ d r := by
    have ez : ((List.range' 0 m).map c).zip ((List.range' 0 m).map d) = (List.range' 0 m).map fun r => (c r, d r) := by
      rw [List.zip_map', ]
    rw [ez]
    constructor
    · intro h r hr
      have := h (c r, d r) (List.mem_map.mpr ⟨r, List.mem_range'_1.mpr ⟨by omega, by omega⟩, rfl⟩)
      exact of_decide_eq_true this
    · intro h z hz
      obtain ⟨r, hr, rfl⟩ := List.mem_map.mp hz
      exact decide_eq_true (h r (by have := List.mem_range'_1.mp hr; omega))
  rw [h1, h2]

section main
variable {W : Web} {Ls : List Wy}

theorem way_vs (hL : ∀ w, w ∈ Ls ↔ Ch W.net (0, 0) (W.m, W.n) w) {w : Wy} (h : w ∈ Ls) : ∃ c, Vs W.net 0 0 W.m W.n c ∧ w = pth 0 0 W.m W.n c ∧ crs w = (List.range' 0 W.m).map c := by
  obtain ⟨c, v, e⟩ := ((hL w).mp h).vs
  refine ⟨c, v, e, ?_⟩
  rw [e, crs_pth W.m (by omega) v]; rfl
theorem vs_way (hL : ∀ w, w ∈ Ls ↔ Ch W.net (0, 0) (W.m, W.n) w) {c : Nat → Nat} (v : Vs W.net 0 0 W.m W.n c) : pth 0 0 W.m W.n c ∈ Ls ∧ crs (pth 0 0 W.m W.n c) = (List.range' 0 W.m).map c := by
  refine ⟨(hL _).mpr v.ch, ?_⟩
  rw [crs_pth W.m (by omega) v]; rfl

/-- f is told by a flip of the ways Ls -/
def IsFlip (Ls : List Wy) (f : Fc) : Prop := ∃ w ∈ Ls, ∃ w' ∈ Ls, isAbove (crs w) (crs w') = true ∧ (∀ z ∈ Ls, ¬ (isAbove (crs w) (crs z) = true ∧ isAbove (crs z) (crs w') = true)) ∧ f = str w w'

/-- two ways that are the sides of a face there, and alike elsewhere, part and meet at the face -/
theorem parts_of {i0 j0 i1 j1 : Nat} {u l c d : Nat → Nat} (f : IsF W.net i0 j0 i1 j1 u l) (vc : Vs W.net 0 0 W.m W.n c) (vd : Vs W.net 0 0 W.m W.n d)
    (hin : ∀ r, i0 ≤ r → r < i1 → c r = u r ∧ d r = l r) (hout : ∀ r, r < W.m → ¬ (i0 ≤ r ∧ r < i1) → c r = d r) (ha : A 0 0 c i0 ≤ j0) (hb : j1 ≤ B W.m W.n c i1) (hb' : j1 ≤ B W.m W.n d i1) :
    Parts (pth 0 0 W.m W.n c) (pth 0 0 W.m W.n d) (pth i0 j0 i1 j1 u) (pth i0 j0 i1 j1 l) := by
  have lt := f.lt
  have im : i1 ≤ W.m := f.im
  have b0 : j0 ≤ B W.m W.n c i0 := by
    rw [B_lt (by omega), (hin i0 (Nat.le_refl _) lt).1, f.b0]; exact Nat.le_refl _
  have b0' : j0 ≤ B W.m W.n d i0 := by
    rw [B_lt (by omega), (hin i0 (Nat.le_refl _) lt).2]
    have := f.c0
    have := f.b0
    omega
  have ha' : A 0 0 d i0 ≤ j0 := by
    have e : A 0 0 d i0 = A 0 0 c i0 := by
      unfold A
      split
      · rfl
      · rw [hout (i0 - 1) (by omega) (by omega)]
    rw [e]; exact ha
  obtain ⟨c1, c2⟩ := vc.cut (i1 := i0) (j1 := j0) (by omega) (by omega) ha b0
  obtain ⟨d1, d2⟩ := vd.cut (i1 := i0) (j1 := j0) (by omega) (by omega) ha' b0'
  have la := f.lu (i1 - 1) (by omega) (by omega)
  have e1 := f.e1
  obtain ⟨c3, c4⟩ := c2.cut (i1 := i1) (j1 := j1) (by omega) im (by rw [A_gt lt, (hin (i1 - 1) (by omega) (by omega)).1]; omega) hb
  obtain ⟨d3, d4⟩ := d2.cut (i1 := i1) (j1 := j1) (by omega) im (by rw [A_gt lt, (hin (i1 - 1) (by omega) (by omega)).2]; omega) hb'
  obtain ⟨t1, g1, p1⟩ := pth_cut i0 (by omega) c1 c2
  obtain ⟨t2, q2, p2⟩ := pth_cut (i1 - i0) (by omega) c3 c4
  obtain ⟨s1, g2, r1⟩ := pth_cut i0 (by omega) d1 d2
  obtain ⟨s2, z2, r2⟩ := pth_cut (i1 - i0) (by omega) d3 d4
  have eu : pth i0 j0 i1 j1 c = pth i0 j0 i1 j1 u := pth_congr fun r a b => (hin r a b).1
  have el : pth i0 j0 i1 j1 d = pth i0 j0 i1 j1 l := pth_congr fun r a b => (hin r a b).2
  have eo : pth i1 j1 W.m W.n c = pth i1 j1 W.m W.n d := pth_congr fun r a b => hout r b (by omega)
  have et : t2 = s2 := by
    rw [eo, z2] at q2
    exact (List.cons.inj q2).2.symm
  subst et
  obtain ⟨pre, hpre⟩ := pth_last i0 (by omega) c1
  obtain ⟨pre', hpre'⟩ := pth_last i0 (by omega) d1
  have epre : pre = pre' := by
    have e : pth 0 0 i0 j0 c = pth 0 0 i0 j0 d := pth_congr fun r a b => hout r (by omega) (by omega)
    rw [hpre, hpre'] at e
    exact (List.append_inj_left' e rfl)
  subst epre
  obtain ⟨tu, htu⟩ := pth_head f.vu
  obtain ⟨tl, htl⟩ := pth_head f.vl
  have T := f.tr rfl
  obtain ⟨xu, hxu⟩ := T.hu
  obtain ⟨xl, hxl⟩ := T.hl
  have hw : pth 0 0 W.m W.n c = pre ++ (pth i0 j0 i1 j1 u ++ t2) := by
    rw [p1, hpre]
    rw [g1, eu, htu] at p2
    have : t1 = tu ++ t2 := (List.cons.inj p2).2
    rw [this, htu]; simp
  have hw' : pth 0 0 W.m W.n d = pre ++ (pth i0 j0 i1 j1 l ++ t2) := by
    rw [r1, hpre']
    rw [g2, el, htl] at r2
    have : s1 = tl ++ t2 := (List.cons.inj r2).2
    rw [this, htl]; simp
  -- the places ahead of the end
  have kk : i1 = i0 + (i1 - i0) := by omega
  obtain ⟨su, hsu⟩ := pth_last _ kk f.vu
  obtain ⟨sl, hsl⟩ := pth_last _ kk f.vl
  have lastU : ∃ t' x', pth i0 j0 i1 j1 u = t' ++ [x', (i1, j1)] := by
    rcases List.eq_nil_or_concat su with e | ⟨t', x', e⟩
    · rw [e, hxu] at hsu; simp at hsu
    · exact ⟨t', x', by rw [hsu, e]; simp⟩
  have lastL : ∃ t' x', pth i0 j0 i1 j1 l = t' ++ [x', (i1, j1)] := by
    rcases List.eq_nil_or_concat sl with e | ⟨t', x', e⟩
    · rw [e, hxl] at hsl; simp at hsl
    · exact ⟨t', x', by rw [hsl, e]; simp⟩
  obtain ⟨tu', xu', hU'⟩ := lastU
  obtain ⟨tl', xl', hL'⟩ := lastL
  refine ⟨⟨pre, t2, (i0, j0), _, _, xu, xl, hxu, hxl, ?_, hw, hw', (i1, j1), xu', xl', tu', tl', hU', hL', ?_⟩⟩
  · -- the first steps differ
    intro e
    by_cases h : l i0 / 2 = j0
    · rw [if_pos h] at e
      have e2 := congrArg Prod.snd e
      have := f.c0
      have := f.b0
      dsimp only at e2
      omega
    · rw [if_neg h] at e
      have e2 := congrArg Prod.fst e
      dsimp only at e2
      omega
  · -- the last steps differ
    rintro rfl
    have m1 : (xu', ((i1, j1) : Pl)) ∈ steps (pth i0 j0 i1 j1 u) := by
      rw [hU', show tu' ++ [xu', (i1, j1)] = tu' ++ xu' :: (i1, j1) :: [] by rfl, steps_append]; simp
    have m2 : (xu', ((i1, j1) : Pl)) ∈ steps (pth i0 j0 i1 j1 l) := by
      rw [hL', show tl' ++ [xu', (i1, j1)] = tl' ++ xu' :: (i1, j1) :: [] by rfl, steps_append]; simp
    rcases (steps_pth _ kk f.vl _ _).mp m2 with ⟨r, h1, h2, h3, h4⟩ | ⟨r, j, h1, h2, h3, h4, h5, h6⟩
    · have er := congrArg Prod.fst h4
      dsimp only at er
      rcases (steps_pth _ kk f.vu _ _).mp m1 with ⟨q, g1, g2, g3, g4⟩ | ⟨q, j, g1, g2, g3, g4, g5, g6⟩
      · have eq := congrArg Prod.fst g4
        dsimp only at eq
        have e : q = r := by omega
        subst e
        have a1 := congrArg Prod.snd h3
        have a2 := congrArg Prod.snd g3
        have a3 := congrArg Prod.snd h4
        have a4 := congrArg Prod.snd g4
        dsimp only at a1 a2 a3 a4
        have := f.lu q g1 g2
        omega
      · have a1 := congrArg Prod.fst h3
        have a2 := congrArg Prod.fst g5
        have a3 := congrArg Prod.fst g6
        dsimp only at a1 a2 a3
        omega
    · have a3 := congrArg Prod.fst h6
      have a4 := congrArg Prod.snd h6
      dsimp only at a3 a4
      have e : r = i1 := by omega
      subst e
      rw [A_gt lt, f.e1] at h3
      omega

/-- the flips are just the faces -/
theorem flip_parts (hL : ∀ w, w ∈ Ls ↔ Ch W.net (0, 0) (W.m, W.n) w) {w w' : Wy} (hw : w ∈ Ls) (hw' : w' ∈ Ls) (hab : isAbove (crs w) (crs w') = true) (hcov : ∀ z ∈ Ls, ¬ (isAbove (crs w) (crs z) = true ∧ isAbove (crs z) (crs w') = true))
    (face : Pl → Pl → Pl → Fc) (hf : ∀ b x y, (x, y) ∈ steps (W.wst b) → FaceOf W b x y (face b x y)) :
    ∃ b x y U L, W.v b = true ∧ (x, y) ∈ steps (W.wst b) ∧ Parts w w' U L ∧ (U, L) = face b x y := by
  obtain ⟨c, vc, rfl, ec⟩ := way_vs hL hw
  obtain ⟨d, vd, rfl, ed⟩ := way_vs hL hw'
  rw [ec, ed] at hab
  obtain ⟨hne, hle⟩ := isAbove_iff.mp hab
  obtain ⟨i0, j0, x, hj, hx, hy, hall⟩ := cover_face vc vd hle hne (fun z vz h1 h2 => by
    obtain ⟨hz, ez⟩ := vs_way hL vz
    refine Classical.byContradiction fun hn => ?_
    refine hcov _ hz ?_
    rw [ec, ed, ez, isAbove_iff, isAbove_iff]
    refine ⟨⟨?_, h1⟩, ⟨?_, h2⟩⟩
    · refine Classical.byContradiction fun hq => hn (.inl fun r hr => ?_)
      refine Classical.byContradiction fun hc => hq ⟨r, hr, fun e => hc e.symm⟩
    · refine Classical.byContradiction fun hq => hn (.inr fun r hr => ?_)
      exact Classical.byContradiction fun hc => hq ⟨r, hr, hc⟩)
  -- the two steps
  have hst : ∃ X Y, (X, Y) ∈ steps (W.wst (i0, j0)) ∧ X = (i0 + 1, (x + 1) / 2) := by
    subst hj
    rw [W.wst_eq]
    rcases Nat.mod_two_eq_zero_or_one x with e | e
    · have e2 : (x + 1) / 2 = x / 2 := by omega
      have h1 : W.e (i0, x / 2) (i0 + 1, x / 2) = true := by
        have hx' : W.e (i0, x / 2) (i0 + 1, (x + 1) / 2) = true := hx
        rw [e2] at hx'
        exact hx'
      rw [if_pos h1, e2]
      by_cases h2 : W.e (i0, x / 2) (i0 + 1, x / 2 + 1) = true
      · rw [if_pos h2]
        exact ⟨_, _, List.mem_cons_self, rfl⟩
      · rw [if_neg h2]
        rcases hy with ⟨_, hp⟩ | ⟨hC, _⟩
        · exfalso
          have hp' : W.e (i0, (x + 1) / 2) (i0 + 1, (x + 1 + 1) / 2) = true := hp
          rw [e2, show (x + 1 + 1) / 2 = x / 2 + 1 by omega] at hp'
          exact h2 hp'
        · have hC' : W.e (i0, x / 2) (i0, x / 2 + 1) = true := hC
          rw [if_pos hC']
          exact ⟨_, _, List.mem_cons_self, rfl⟩
    · have e2 : (x + 1) / 2 = x / 2 + 1 := by omega
      have h2 : W.e (i0, x / 2) (i0 + 1, x / 2 + 1) = true := by
        have hx' : W.e (i0, x / 2) (i0 + 1, (x + 1) / 2) = true := hx
        rw [e2] at hx'
        exact hx'
      have hC' : W.e (i0, x / 2) (i0, x / 2 + 1) = true := by
        rcases hy with ⟨z, _⟩ | ⟨hC, _⟩
        · omega
        · exact hC
      rw [if_pos h2, if_pos hC', e2]
      by_cases h1 : W.e (i0, x / 2) (i0 + 1, x / 2) = true
      · rw [if_pos h1]
        exact ⟨_, _, List.mem_cons_of_mem _ List.mem_cons_self, rfl⟩
      · rw [if_neg h1]
        exact ⟨_, _, List.mem_cons_self, rfl⟩
  obtain ⟨X, Y, hXY, hX⟩ := hst
  have F := hf _ _ _ hXY
  obtain ⟨i1, j1, u, l, I, e, ex⟩ := F.ex
  have hu : u i0 = x := by
    have e3 := hX.symm.trans ex
    have e4 := congrArg Prod.snd e3
    dsimp only at e4
    have := I.b0
    dsimp only at this
    omega
  obtain ⟨hin, hout, ha, hb, hb'⟩ := hall i1 j1 u l I hu
  refine ⟨(i0, j0), X, Y, _, _, ?_, hXY, parts_of I vc vd hin hout ha hb hb', e.symm⟩
  · have := (W.net.xV hx).1
    rw [hj] at this
    exact this
theorem flip_face (hL : ∀ w, w ∈ Ls ↔ Ch W.net (0, 0) (W.m, W.n) w) {f : Fc} (h : IsFlip Ls f) (face : Pl → Pl → Pl → Fc) (hf : ∀ b x y, (x, y) ∈ steps (W.wst b) → FaceOf W b x y (face b x y)) :
    ∃ b x y, W.v b = true ∧ (x, y) ∈ steps (W.wst b) ∧ f = face b x y := by
  obtain ⟨w, hw, w', hw', hab, hcov, rfl⟩ := h
  obtain ⟨b, x, y, U, L, h1, h2, h3, h4⟩ := flip_parts hL hw hw' hab hcov face hf
  exact ⟨b, x, y, h1, h2, by rw [h3.str, h4]⟩
theorem face_flip (hL : ∀ w, w ∈ Ls ↔ Ch W.net (0, 0) (W.m, W.n) w) {b x y : Pl} {f : Fc} (F : FaceOf W b x y f) : IsFlip Ls f := by
  obtain ⟨i1, j1, u, l, I, rfl, _⟩ := F.ex
  have im : i1 ≤ W.m := I.im
  have lt := I.lt
  obtain ⟨c, d, vu, vl⟩ := I.thru
  obtain ⟨mu, eu⟩ := vs_way hL vu
  obtain ⟨ml, el⟩ := vs_way hL vl
  have hin : ∀ r, b.1 ≤ r → r < i1 → glue i1 (glue b.1 c u) d r = u r ∧ glue i1 (glue b.1 c l) d r = l r := fun r h1 h2 => by
    rw [glue_lt h2, glue_ge h1, glue_lt h2, glue_ge h1]; exact ⟨rfl, rfl⟩
  have hout : ∀ r, r < W.m → ¬ (b.1 ≤ r ∧ r < i1) → glue i1 (glue b.1 c u) d r = glue i1 (glue b.1 c l) d r := fun r _ h => by
    by_cases h1 : r < i1
    · rw [glue_lt h1, glue_lt h1, glue_lt (by omega), glue_lt (by omega)]
    · rw [glue_ge (by omega), glue_ge (by omega)]
  have hle : ∀ r, r < W.m → glue i1 (glue b.1 c u) d r ≤ glue i1 (glue b.1 c l) d r := fun r hr => by
    by_cases h : b.1 ≤ r ∧ r < i1
    · rw [(hin r h.1 h.2).1, (hin r h.1 h.2).2]; exact Nat.le_of_lt (I.lu r h.1 h.2)
    · rw [hout r hr h]; exact Nat.le_refl _
  have hlt : glue i1 (glue b.1 c u) d b.1 ≠ glue i1 (glue b.1 c l) d b.1 := by
    rw [(hin b.1 (Nat.le_refl _) lt).1, (hin b.1 (Nat.le_refl _) lt).2]
    have := I.c0
    omega
  have eB : B W.m W.n (glue i1 (glue b.1 c u) d) i1 = B W.m W.n (glue i1 (glue b.1 c l) d) i1 := by
    unfold B
    split
    · rfl
    · rw [glue_ge (Nat.le_refl _), glue_ge (Nat.le_refl _)]
  have hb : j1 = (fun z => z) j1 := rfl
  have hB : j1 ≤ B W.m W.n (glue i1 (glue b.1 c l) d) i1 := by
    have q := vl.ab i1 (by omega) im
    rw [A_gt (by omega), (hin (i1 - 1) (by omega) (by omega)).2, I.e1] at q
    exact q
  have hA : A 0 0 (glue i1 (glue b.1 c u) d) b.1 ≤ b.2 := by
    have q := vu.ab b.1 (by omega) (show b.1 ≤ W.m by omega)
    rw [B_lt (show b.1 < W.net.m from (show b.1 < W.m by omega)), (hin b.1 (Nat.le_refl _) lt).1, I.b0] at q
    exact q
  refine ⟨_, mu, _, ml, ?_, ?_, ?_⟩
  · rw [eu, el, isAbove_iff]
    exact ⟨⟨b.1, by omega, hlt⟩, hle⟩
  · rintro z hz ⟨h1, h2⟩
    obtain ⟨e, ve, rfl, ee⟩ := way_vs hL hz
    rw [eu, ee, isAbove_iff] at h1
    rw [ee, el, isAbove_iff] at h2
    rcases I.cover vu vl ve h1.2 h2.2 with q | q
    · obtain ⟨r, hr, hn⟩ := h1.1
      exact hn (q r hr).symm
    · obtain ⟨r, hr, hn⟩ := h2.1
      exact hn (q r hr)
  · exact (parts_of I vu vl hin hout hA (by rw [eB]; exact hB) hB).str.symm

theorem passed_iff {w : Wy} {c : Nat → Nat} (ec : crs w = (List.range' 0 W.m).map c) {b x y : Pl} {f : Fc} {i1 j1 : Nat} {u l : Nat → Nat} (I : IsF W.net b.1 b.2 i1 j1 u l) (e : f = (pth b.1 b.2 i1 j1 u, pth b.1 b.2 i1 j1 l)) :
    passed w f = true ↔ ∀ r, b.1 ≤ r → r < i1 → l r ≤ c r := by
  have lt := I.lt
  have im : i1 ≤ W.m := I.im
  obtain ⟨t, ht⟩ := pth_head I.vl
  unfold passed
  rw [e]
  dsimp only
  rw [crs_pth (i1 - b.1) (by omega) I.vl, ec, ht]
  simp only [List.head?_cons, Option.getD_some, List.length_map, List.length_range']
  have e1 : (((List.range' 0 W.m).map c).drop b.1).take (i1 - b.1) = (List.range' b.1 (i1 - b.1)).map c := by
    rw [← List.map_drop, ← List.map_take, List.drop_range']
    congr 1
    rw [show W.m - b.1 = (i1 - b.1) + (W.m - i1) by omega, ← List.range'_append_1, show 0 + b.1 * 1 = b.1 by omega]
    exact List.take_left' (by simp)
  rw [e1, List.zip_map', List.all_eq_true]
  constructor
  · intro h r h1 h2
    exact of_decide_eq_true (h (l r, c r) (List.mem_map.mpr ⟨r, List.mem_range'_1.mpr ⟨h1, by omega⟩, rfl⟩))
  · intro h z hz
    obtain ⟨r, hr, rfl⟩ := List.mem_map.mp hz
    have := List.mem_range'_1.mp hr
    exact decide_eq_true (h r (by omega) (by omega))

/-- what has passed a face has passed all that share a step ahead of it -/
theorem passed_ahead (hL : ∀ w, w ∈ Ls ↔ Ch W.net (0, 0) (W.m, W.n) w) {w : Wy} (hw : w ∈ Ls) {b x y b' x' y' : Pl} {f g : Fc} (F : FaceOf W b x y f) (G : FaceOf W b' x' y' g)
    (s : ∃ z, z ∈ steps f.1 ∧ z ∈ steps g.2) (h : passed w f = true) : passed w g = true := by
  obtain ⟨c, vc, rfl, ec⟩ := way_vs hL hw
  obtain ⟨i1, j1, u, l, I, ef, _⟩ := F.ex
  obtain ⟨k1, l1, u', l', J, eg, _⟩ := G.ex
  rw [passed_iff ec (x := x) (y := y) I ef] at h
  rw [passed_iff ec (x := x) (y := y) J eg]
  refine I.ahead J vc ?_ h
  obtain ⟨⟨p, q⟩, s1, s2⟩ := s
  rw [ef] at s1
  rw [eg] at s2
  have l1 := I.lt
  have l2 := J.lt
  rcases (steps_pth (i1 - b.1) (by omega) I.vu p q).mp s1 with ⟨r, h1, h2, h3, h4⟩ | ⟨r, j, h1, h2, h3, h4, h5, h6⟩
  · rcases (steps_pth (k1 - b'.1) (by omega) J.vl p q).mp s2 with ⟨r', g1, g2, g3, g4⟩ | ⟨r', j, g1, g2, g3, g4, g5, g6⟩
    · have a1 := congrArg Prod.fst (h3.symm.trans g3)
      have a2 := congrArg Prod.snd (h3.symm.trans g3)
      have a3 := congrArg Prod.snd (h4.symm.trans g4)
      dsimp only at a1 a2 a3
      subst a1
      exact .inl ⟨r, h1, h2, g1, g2, by omega⟩
    · have a1 := congrArg Prod.fst (h3.symm.trans g5)
      have a2 := congrArg Prod.fst (h4.symm.trans g6)
      dsimp only at a1 a2
      omega
  · rcases (steps_pth (k1 - b'.1) (by omega) J.vl p q).mp s2 with ⟨r', g1, g2, g3, g4⟩ | ⟨r', j', g1, g2, g3, g4, g5, g6⟩
    · have a1 := congrArg Prod.fst (h5.symm.trans g3)
      have a2 := congrArg Prod.fst (h6.symm.trans g4)
      dsimp only at a1 a2
      omega
    · have a1 := congrArg Prod.fst (h5.symm.trans g5)
      have a2 := congrArg Prod.snd (h5.symm.trans g5)
      dsimp only at a1 a2
      subst a1 a2
      exact .inr ⟨r, j, h1, h2, g1, g2, h3, h4, g3, g4⟩
end main
end K34
end
section
/-! Tables of least costs, and the web of the least ways. -/
namespace K34

section
variable {α : Type} [DecidableEq α] (old new : List α) (g c : α → Int)

def gi (i : Nat) : Int := match old[i]? with | some x => g x | none => 0
def eqi (i j : Nat) : Bool := match old[i]?, new[j]? with | some x, some y => decide (x = y) | _, _ => false

def dist : Nat → Nat → Int
  | 0, 0 => 0
  | 0, j + 1 => dist 0 j + gi new c j
  | i + 1, 0 => dist i 0 + gi old g i
  | i + 1, j + 1 => if eqi old new i j = true then min (min (dist i (j + 1) + gi old g i) (dist (i + 1) j + gi new c j)) (dist i j) else min (dist i (j + 1) + gi old g i) (dist (i + 1) j + gi new c j)

/-- the places to which steps lead -/
def nxt (p : Pl) : List Pl :=
  (if p.1 < old.length then [(p.1 + 1, p.2)] else []) ++ ((if p.1 < old.length ∧ p.2 < new.length ∧ eqi old new p.1 p.2 = true then [(p.1 + 1, p.2 + 1)] else []) ++ (if p.2 < new.length then [(p.1, p.2 + 1)] else []))
def cost (p q : Pl) : Int := if p.1 < q.1 ∧ p.2 < q.2 then 0 else if p.1 < q.1 then gi old g p.1 else gi new c p.2
def lcost (p q : Pl) : Int := (if q.2 = p.2 then gi old g p.1 else 0) + (if q.1 = p.1 then gi new c p.2 else 0)

theorem nxt_iff {p q : Pl} : q ∈ nxt old new p ↔ (p.1 < old.length ∧ q = (p.1 + 1, p.2)) ∨ (p.1 < old.length ∧ p.2 < new.length ∧ eqi old new p.1 p.2 = true ∧ q = (p.1 + 1, p.2 + 1)) ∨ (p.2 < new.length ∧ q = (p.1, p.2 + 1)) := by
  unfold nxt
  rw [List.mem_append, List.mem_append]
  constructor
  · rintro (h | h | h)
    · split at h
      · exact .inl ⟨‹_›, by simpa using h⟩
      · cases h
    · split at h
      · rename_i hh
        exact .inr (.inl ⟨hh.1, hh.2.1, hh.2.2, by simpa using h⟩)
      · cases h
    · split at h
      · exact .inr (.inr ⟨‹_›, by simpa using h⟩)
      · cases h
  · rintro (⟨h, rfl⟩ | ⟨h1, h2, h3, rfl⟩ | ⟨h, rfl⟩)
    · rw [if_pos h]; exact .inl List.mem_cons_self
    · rw [if_pos (c := p.1 < old.length ∧ _) ⟨h1, h2, h3⟩]; exact .inr (.inl List.mem_cons_self)
    · rw [if_pos (c := p.2 < new.length) h]; exact .inr (.inr List.mem_cons_self)
theorem nxt_cand {p q : Pl} (h : q ∈ nxt old new p) : q ∈ cand p := by
  rcases (nxt_iff old new).mp h with ⟨_, rfl⟩ | ⟨_, _, _, rfl⟩ | ⟨_, rfl⟩ <;> simp [cand]
theorem nxt_sum {p q : Pl} (h : q ∈ nxt old new p) : p.1 + p.2 < q.1 + q.2 := by
  rcases (nxt_iff old new).mp h with ⟨_, rfl⟩ | ⟨_, _, _, rfl⟩ | ⟨_, rfl⟩ <;> dsimp only <;> omega
theorem nxt_in {p q : Pl} (hp : p.1 ≤ old.length ∧ p.2 ≤ new.length) (h : q ∈ nxt old new p) : q.1 ≤ old.length ∧ q.2 ≤ new.length := by
  rcases (nxt_iff old new).mp h with ⟨_, rfl⟩ | ⟨_, _, _, rfl⟩ | ⟨_, rfl⟩ <;> dsimp only <;> omega
theorem cost_lcost {p q : Pl} (h : q ∈ nxt old new p) : lcost old new g c p q = cost old new g c p q := by
  unfold lcost cost
  rcases (nxt_iff old new).mp h with ⟨_, rfl⟩ | ⟨_, _, _, rfl⟩ | ⟨_, rfl⟩ <;> simp

theorem dist_step {p q : Pl} (h : q ∈ nxt old new p) : dist old new g c q.1 q.2 ≤ dist old new g c p.1 p.2 + cost old new g c p q := by
  obtain ⟨i, j⟩ := p
  rcases (nxt_iff old new).mp h with ⟨h1, rfl⟩ | ⟨h1, h2, h3, rfl⟩ | ⟨h1, rfl⟩
  · unfold cost
    dsimp only
    rw [if_neg (by omega), if_pos (by omega)]
    cases j with
    | zero => rw [dist]; exact Int.le_refl _
    | succ j =>
      rw [dist]
      split <;> omega
  · unfold cost
    dsimp only at h3 ⊢
    rw [if_pos (by omega), dist, if_pos h3]
    omega
  · unfold cost
    dsimp only
    rw [if_neg (by omega), if_neg (by omega)]
    cases i with
    | zero => rw [dist]; exact Int.le_refl _
    | succ i =>
      rw [dist]
      split <;> omega
theorem dist_back {q : Pl} (hq : q.1 ≤ old.length ∧ q.2 ≤ new.length) (h0 : q ≠ (0, 0)) : ∃ p, q ∈ nxt old new p ∧ (p.1 ≤ old.length ∧ p.2 ≤ new.length) ∧ dist old new g c q.1 q.2 = dist old new g c p.1 p.2 + cost old new g c p q := by
  obtain ⟨i, j⟩ := q
  cases i with
  | zero =>
    cases j with
    | zero => exact absurd rfl h0
    | succ j =>
      refine ⟨(0, j), (nxt_iff old new).mpr (.inr (.inr ⟨by dsimp only at hq ⊢; omega, rfl⟩)), by dsimp only at hq ⊢; omega, ?_⟩
      unfold cost
      dsimp only
      rw [if_neg (by omega), if_neg (by omega), dist]
  | succ i =>
    have hgo : (i + 1, j) ∈ nxt old new (i, j) := (nxt_iff old new).mpr (.inl ⟨by dsimp only at hq ⊢; omega, rfl⟩)
    cases j with
    | zero =>
      refine ⟨(i, 0), hgo, by dsimp only at hq ⊢; omega, ?_⟩
      unfold cost
      dsimp only
      rw [if_neg (by omega), if_pos (by omega), dist]
    | succ j =>
      have hco : (i + 1, j + 1) ∈ nxt old new (i + 1, j) := (nxt_iff old new).mpr (.inr (.inr ⟨by dsimp only at hq ⊢; omega, rfl⟩))
      have c1 : cost old new g c (i, j + 1) (i + 1, j + 1) = gi old g i := by
        unfold cost; dsimp only; rw [if_neg (by omega), if_pos (by omega)]
      have c2 : cost old new g c (i + 1, j) (i + 1, j + 1) = gi new c j := by
        unfold cost; dsimp only; rw [if_neg (by omega), if_neg (by omega)]
      have c3 : cost old new g c (i, j) (i + 1, j + 1) = 0 := by
        unfold cost; dsimp only; rw [if_pos (by omega)]
      dsimp only at hq
      have two : ∀ x, x = min (dist old new g c i (j + 1) + gi old g i) (dist old new g c (i + 1) j + gi new c j) → ∃ p, (i + 1, j + 1) ∈ nxt old new p ∧ (p.1 ≤ old.length ∧ p.2 ≤ new.length) ∧ x = dist old new g c p.1 p.2 + cost old new g c p (i + 1, j + 1) := by
        intro x hx
        by_cases h : dist old new g c i (j + 1) + gi old g i ≤ dist old new g c (i + 1) j + gi new c j
        · exact ⟨(i, j + 1), hgo, by dsimp only; omega, by rw [c1]; dsimp only; omega⟩
        · exact ⟨(i + 1, j), hco, by dsimp only; omega, by rw [c2]; dsimp only; omega⟩
      dsimp only
      rw [dist]
      by_cases he : eqi old new i j = true
      · rw [if_pos he]
        by_cases hm : min (dist old new g c i (j + 1) + gi old g i) (dist old new g c (i + 1) j + gi new c j) ≤ dist old new g c i j
        · obtain ⟨p, h1, h2, h3⟩ := two _ rfl
          exact ⟨p, h1, h2, by omega⟩
        · exact ⟨(i, j), (nxt_iff old new).mpr (.inr (.inl ⟨by dsimp only; omega, by dsimp only; omega, he, rfl⟩)), by dsimp only; omega, by rw [c3]; dsimp only; omega⟩
      · rw [if_neg he]
        exact two _ rfl

/-- the least cost from a place to the end: the table of the reversed texts -/
def Qd (p : Pl) : Int := dist old.reverse new.reverse g c (old.length - p.1) (new.length - p.2)
def Pd (p : Pl) : Int := dist old new g c p.1 p.2

theorem gi_rev (l : List α) (f : α → Int) {i : Nat} (h : i < l.length) : gi l.reverse f (l.length - 1 - i) = gi l f i := by
  unfold gi
  rw [List.getElem?_reverse (by omega)]
  have e : l.length - 1 - (l.length - 1 - i) = i := by omega
  rw [e]
theorem eqi_rev {i j : Nat} (h : i < old.length) (k : j < new.length) : eqi old.reverse new.reverse (old.length - 1 - i) (new.length - 1 - j) = eqi old new i j := by
  unfold eqi
  rw [List.getElem?_reverse (by omega), List.getElem?_reverse (by omega)]
  have e : old.length - 1 - (old.length - 1 - i) = i := by omega
  have e' : new.length - 1 - (new.length - 1 - j) = j := by omega
  rw [e, e']
/-- the step turned over -/
def rv (p : Pl) : Pl := (old.length - p.1, new.length - p.2)
theorem nxt_rv {p q : Pl} (hp : p.1 ≤ old.length ∧ p.2 ≤ new.length) (h : q ∈ nxt old new p) : rv old new p ∈ nxt old.reverse new.reverse (rv old new q) ∧ cost old.reverse new.reverse g c (rv old new q) (rv old new p) = cost old new g c p q := by
  obtain ⟨i, j⟩ := p
  dsimp only at hp
  rcases (nxt_iff old new).mp h with ⟨h1, rfl⟩ | ⟨h1, h2, h3, rfl⟩ | ⟨h1, rfl⟩
  · dsimp only at h1
    constructor
    · rw [nxt_iff]
      refine .inl ⟨?_, ?_⟩
      · show old.length - (i + 1) < old.reverse.length; rw [List.length_reverse]; omega
      · show (old.length - i, new.length - j) = (old.length - (i + 1) + 1, new.length - j); congr 1; omega
    · unfold cost rv
      dsimp only
      rw [if_neg (by omega), if_pos (by omega), if_neg (by omega), if_pos (by omega), show old.length - (i + 1) = old.length - 1 - i by omega, gi_rev old g h1]
  · dsimp only at h1 h2 h3
    constructor
    · rw [nxt_iff]
      refine .inr (.inl ⟨?_, ?_, ?_, ?_⟩)
      · show old.length - (i + 1) < old.reverse.length; rw [List.length_reverse]; omega
      · show new.length - (j + 1) < new.reverse.length; rw [List.length_reverse]; omega
      · show eqi _ _ (old.length - (i + 1)) (new.length - (j + 1)) = true
        rw [show old.length - (i + 1) = old.length - 1 - i by omega, show new.length - (j + 1) = new.length - 1 - j by omega, eqi_rev old new h1 h2]; exact h3
      · show (old.length - i, new.length - j) = (old.length - (i + 1) + 1, new.length - (j + 1) + 1); congr 1 <;> omega
    · unfold cost rv
      dsimp only
      rw [if_pos (by omega), if_pos (by omega)]
  · dsimp only at h1
    constructor
    · rw [nxt_iff]
      refine .inr (.inr ⟨?_, ?_⟩)
      · show new.length - (j + 1) < new.reverse.length; rw [List.length_reverse]; omega
      · show (old.length - i, new.length - j) = (old.length - i, new.length - (j + 1) + 1); congr 1; omega
    · unfold cost rv
      dsimp only
      rw [if_neg (by omega), if_neg (by omega), if_neg (by omega), if_neg (by omega), show new.length - (j + 1) = new.length - 1 - j by omega, gi_rev new c h1]

theorem Q_step {p q : Pl} (hp : p.1 ≤ old.length ∧ p.2 ≤ new.length) (h : q ∈ nxt old new p) : Qd old new g c p ≤ cost old new g c p q + Qd old new g c q := by
  obtain ⟨h1, h2⟩ := nxt_rv old new g c hp h
  have := dist_step old.reverse new.reverse g c h1
  rw [h2] at this
  show dist _ _ g c (rv old new p).1 (rv old new p).2 ≤ _ + dist _ _ g c (rv old new q).1 (rv old new q).2
  omega
theorem Q_next {p : Pl} (hp : p.1 ≤ old.length ∧ p.2 ≤ new.length) (h0 : p ≠ (old.length, new.length)) : ∃ q, q ∈ nxt old new p ∧ Qd old new g c p = cost old new g c p q + Qd old new g c q := by
  have hr : (rv old new p).1 ≤ old.reverse.length ∧ (rv old new p).2 ≤ new.reverse.length := by
    rw [List.length_reverse, List.length_reverse]; unfold rv; dsimp only; omega
  have hn : rv old new p ≠ (0, 0) := fun e => by
    have e1 := congrArg Prod.fst e
    have e2 := congrArg Prod.snd e
    unfold rv at e1 e2
    dsimp only at e1 e2
    apply h0
    exact Prod.ext (by dsimp only; omega) (by dsimp only; omega)
  obtain ⟨q', h1, h2, h3⟩ := dist_back old.reverse new.reverse g c hr hn
  rw [List.length_reverse, List.length_reverse] at h2
  obtain ⟨h4, h5⟩ := nxt_rv old.reverse new.reverse g c (by rw [List.length_reverse, List.length_reverse]; exact h2) h1
  have er : rv old.reverse new.reverse (rv old new p) = p := by
    unfold rv
    rw [List.length_reverse, List.length_reverse]
    exact Prod.ext (by dsimp only; omega) (by dsimp only; omega)
  have eq : rv old.reverse new.reverse q' = rv old new q' := by
    unfold rv; rw [List.length_reverse, List.length_reverse]
  rw [er, List.reverse_reverse, List.reverse_reverse, eq] at h4 h5
  refine ⟨rv old new q', h4, ?_⟩
  have e2 : Qd old new g c (rv old new q') = dist old.reverse new.reverse g c q'.1 q'.2 := by
    unfold Qd rv
    dsimp only
    rw [show old.length - (old.length - q'.1) = q'.1 by omega, show new.length - (new.length - q'.2) = q'.2 by omega]
  rw [e2, h5]
  have h3' : Qd old new g c p = _ := h3
  rw [h3']
  omega
theorem Q_end : Qd old new g c (old.length, new.length) = 0 := by
  unfold Qd
  dsimp only
  rw [Nat.sub_self, Nat.sub_self, dist]

/-- the least cost -/
def Dd : Int := Qd old new g c (0, 0)
theorem D_le : ∀ k (p : Pl), p.1 + p.2 = k → p.1 ≤ old.length ∧ p.2 ≤ new.length → Dd old new g c ≤ Pd old new g c p + Qd old new g c p := by
  intro k
  induction k using Nat.strongRecOn with
  | _ k ih =>
    intro p e hp
    by_cases h0 : p = (0, 0)
    · subst h0
      unfold Pd Dd
      dsimp only
      rw [dist]; omega
    · obtain ⟨q, h1, h2, h3⟩ := dist_back old new g c hp h0
      have := ih (q.1 + q.2) (by have := nxt_sum old new h1; omega) q rfl h2
      have := Q_step old new g c h2 h1
      have h3' : Pd old new g c p = Pd old new g c q + cost old new g c q p := h3
      omega

def dweb : Web where
  m := old.length
  n := new.length
  v := fun p => decide (p.1 ≤ old.length ∧ p.2 ≤ new.length) && decide (Pd old new g c p + Qd old new g c p = Dd old new g c)
  e := fun p q => decide (p.1 ≤ old.length ∧ p.2 ≤ new.length) && decide (q ∈ nxt old new p) && decide (Pd old new g c p + cost old new g c p q + Qd old new g c q = Dd old new g c)
  ev := fun {p q} _ h => by
    simp only [Bool.and_eq_true, decide_eq_true_eq] at h ⊢
    obtain ⟨⟨hp, hn⟩, he⟩ := h
    have hq := nxt_in old new hp hn
    have a1 := D_le old new g c _ p rfl hp
    have a2 := D_le old new g c _ q rfl hq
    have a3 := Q_step old new g c hp hn
    have a4 : Pd old new g c q ≤ Pd old new g c p + cost old new g c p q := dist_step old new g c hn
    exact ⟨⟨hp, by omega⟩, hq, by omega⟩
  vb := fun {p} h => by
    simp only [Bool.and_eq_true, decide_eq_true_eq] at h
    exact h.1
  out := fun {p} h => by
    simp only [Bool.and_eq_true, decide_eq_true_eq] at h
    obtain ⟨hp, he⟩ := h
    by_cases h0 : p = (old.length, new.length)
    · exact .inl h0
    · obtain ⟨q, h1, h2⟩ := Q_next old new g c hp h0
      refine .inr ⟨q, nxt_cand old new h1, ?_⟩
      simp only [Bool.and_eq_true, decide_eq_true_eq]
      exact ⟨⟨hp, h1⟩, by omega⟩
  inn := fun {q} h => by
    simp only [Bool.and_eq_true, decide_eq_true_eq] at h
    obtain ⟨hq, he⟩ := h
    by_cases h0 : q = (0, 0)
    · exact .inl h0
    · obtain ⟨p, h1, h2, h3⟩ := dist_back old new g c hq h0
      refine .inr ⟨p, nxt_cand old new h1, ?_⟩
      simp only [Bool.and_eq_true, decide_eq_true_eq]
      have h3' : Pd old new g c q = Pd old new g c p + cost old new g c p q := h3
      exact ⟨⟨h2, h1⟩, by omega⟩
  v0 := by
    simp only [Bool.and_eq_true, decide_eq_true_eq]
    refine ⟨⟨Nat.zero_le _, Nat.zero_le _⟩, ?_⟩
    unfold Pd Dd
    dsimp only
    rw [dist]; omega

theorem dweb_v {p : Pl} : (dweb old new g c).v p = true ↔ (p.1 ≤ old.length ∧ p.2 ≤ new.length) ∧ Pd old new g c p + Qd old new g c p = Dd old new g c := by
  show (_ && _) = true ↔ _
  rw [Bool.and_eq_true, decide_eq_true_eq, decide_eq_true_eq]
theorem dweb_e {p q : Pl} : (dweb old new g c).e p q = true ↔ ((p.1 ≤ old.length ∧ p.2 ≤ new.length) ∧ q ∈ nxt old new p) ∧ Pd old new g c p + cost old new g c p q + Qd old new g c q = Dd old new g c := by
  show (_ && _ && _) = true ↔ _
  rw [Bool.and_eq_true, Bool.and_eq_true, decide_eq_true_eq, decide_eq_true_eq, decide_eq_true_eq]
/-- the web's steps of a place, as the program lists them -/
theorem dweb_wst {p : Pl} (hp : p.1 ≤ old.length ∧ p.2 ≤ new.length) : (dweb old new g c).wst p = (nxt old new p).filter fun q => decide (Pd old new g c p + cost old new g c p q + Qd old new g c q - Dd old new g c = 0) := by
  have hin : ∀ q, q ∈ nxt old new p → ((dweb old new g c).e p q = decide (Pd old new g c p + cost old new g c p q + Qd old new g c q - Dd old new g c = 0)) := fun q hq => by
    by_cases h : Pd old new g c p + cost old new g c p q + Qd old new g c q - Dd old new g c = 0
    · rw [decide_eq_true h]; exact (dweb_e old new g c).mpr ⟨⟨hp, hq⟩, by omega⟩
    · rw [decide_eq_false h]
      cases hh : (dweb old new g c).e p q with
      | false => rfl
      | true => exact absurd ((dweb_e old new g c).mp hh).2 (by omega)
  have hout : ∀ q, q ∉ nxt old new p → (dweb old new g c).e p q = false := fun q hq => by
    cases hh : (dweb old new g c).e p q with
    | false => rfl
    | true => exact absurd ((dweb_e old new g c).mp hh).1.2 hq
  rw [← List.filter_congr (fun q hq => hin q hq)]
  unfold Web.wst cand nxt
  obtain ⟨i, j⟩ := p
  dsimp only
  have h1 : i < old.length ∨ ¬ i < old.length := Classical.em _
  have h2 : j < new.length ∨ ¬ j < new.length := Classical.em _
  have o1 : ¬ i < old.length → (dweb old new g c).e (i, j) (i + 1, j) = false := fun h => hout _ (fun z => by
    rcases (nxt_iff old new).mp z with ⟨a, b⟩ | ⟨a, _⟩ | ⟨a, b⟩
    · exact h a
    · exact h a
    · simp at b)
  have o2 : ¬ (i < old.length ∧ j < new.length ∧ eqi old new i j = true) → (dweb old new g c).e (i, j) (i + 1, j + 1) = false := fun h => hout _ (fun z => by
    rcases (nxt_iff old new).mp z with ⟨a, b⟩ | ⟨a, b, d, _⟩ | ⟨a, b⟩
    · simp at b
    · exact h ⟨a, b, d⟩
    · simp at b)
  have o3 : ¬ j < new.length → (dweb old new g c).e (i, j) (i, j + 1) = false := fun h => hout _ (fun z => by
    rcases (nxt_iff old new).mp z with ⟨a, b⟩ | ⟨a, b, _⟩ | ⟨a, b⟩
    · simp at b
    · exact h b
    · exact h a)
  have e3 : ∀ (x y z : Pl), [x, y, z] = [x] ++ ([y] ++ [z]) := fun _ _ _ => rfl
  rw [e3, List.filter_append, List.filter_append, List.filter_append, List.filter_append]
  have fz : ∀ x, (dweb old new g c).e (i, j) x = false → [x].filter ((dweb old new g c).e (i, j)) = [] := fun x h => by simp [h]
  congr 1
  · split
    · rfl
    · exact fz _ (o1 ‹_›)
  · congr 1
    · split
      · rfl
      · exact fz _ (o2 ‹_›)
    · split
      · rfl
      · exact fz _ (o3 ‹_›)

/-! ### all ways -/
inductive Gc : Pl → Pl → Wy → Prop
  | nil (p) : Gc p p [p]
  | cons {p p' q w} : p' ∈ nxt old new p → Gc p' q w → Gc p q (p :: w)
variable {old new}
theorem Gc.snoc {p q q' : Pl} {w : Wy} (h : Gc old new p q w) (k : q' ∈ nxt old new q) : Gc old new p q' (w ++ [q']) := by
  induction h with
  | nil p => exact .cons k (.nil _)
  | cons e _ ih => exact .cons e (ih k)
theorem Gc.last {p q : Pl} {w : Wy} (h : Gc old new p q w) : w.getLast? = some q := by
  induction h with
  | nil p => rfl
  | cons e k ih =>
    rw [List.getLast?_cons, ih]; rfl
theorem Gc.len {p q : Pl} {w : Wy} (h : Gc old new p q w) : p.1 + p.2 + w.length ≤ q.1 + q.2 + 1 := by
  induction h with
  | nil p => simp
  | cons e k ih => have := nxt_sum old new e; rw [List.length_cons]; omega
theorem Gc.inb {p q : Pl} {w : Wy} (h : Gc old new p q w) (hp : p.1 ≤ old.length ∧ p.2 ≤ new.length) : q.1 ≤ old.length ∧ q.2 ≤ new.length := by
  induction h with
  | nil p => exact hp
  | cons e k ih => exact ih (nxt_in old new hp e)
theorem Gc.unsnoc {p q : Pl} {w : Wy} (h : Gc old new p q w) : w = [p] ∧ q = p ∨ ∃ q' w', w = w' ++ [q] ∧ Gc old new p q' w' ∧ q ∈ nxt old new q' := by
  induction h with
  | nil p => exact .inl ⟨rfl, rfl⟩
  | @cons p p' q w e k ih =>
    rcases ih with ⟨rfl, rfl⟩ | ⟨q', w', rfl, h1, h2⟩
    · exact .inr ⟨p, [p], rfl, .nil _, e⟩
    · exact .inr ⟨q', p :: w', rfl, .cons e h1, h2⟩
variable (old new)

/-- the law's own listing of all ways -/
def longer (ws : List Wy) : List Wy := ws.flatMap fun w => if w.getLast? = some (old.length, new.length) then [w] else (nxt old new (w.getLast?.getD (0, 0))).map fun p => w ++ [p]
def ways : Nat → List Wy
  | 0 => [[(0, 0)]]
  | k + 1 => longer old new (ways k)

theorem ways_iff : ∀ k w, w ∈ ways old new k ↔ ∃ q, Gc old new (0, 0) q w ∧ (w.length = k + 1 ∨ (q = (old.length, new.length) ∧ w.length ≤ k + 1)) := by
  intro k
  induction k with
  | zero =>
    intro w
    show w ∈ [[((0, 0) : Pl)]] ↔ _
    rw [List.mem_singleton]
    constructor
    · rintro rfl; exact ⟨(0, 0), .nil _, .inl rfl⟩
    · rintro ⟨q, h, hl⟩
      have : w.length ≤ 1 := by omega
      cases h with
      | nil => rfl
      | cons e k => cases k <;> simp at this
  | succ k ih =>
    intro w
    show w ∈ longer old new (ways old new k) ↔ _
    unfold longer
    rw [List.mem_flatMap]
    constructor
    · rintro ⟨w', hw', hw⟩
      obtain ⟨q, hG, hl⟩ := (ih w').mp hw'
      rw [hG.last] at hw
      by_cases he : q = (old.length, new.length)
      · subst he
        rw [if_pos rfl, List.mem_singleton] at hw
        subst hw
        exact ⟨_, hG, .inr ⟨rfl, by omega⟩⟩
      · rw [if_neg (fun z => he (Option.some.inj z))] at hw
        obtain ⟨p, hp, rfl⟩ := List.mem_map.mp hw
        refine ⟨p, hG.snoc hp, .inl ?_⟩
        rw [List.length_append]
        rcases hl with hl | ⟨hl, _⟩
        · simp [hl]
        · exact absurd hl he
    · rintro ⟨q, hG, hl⟩
      by_cases hc : q = (old.length, new.length) ∧ w.length ≤ k + 1
      · refine ⟨w, (ih w).mpr ⟨q, hG, .inr hc⟩, ?_⟩
        rw [hG.last, hc.1, if_pos rfl]; exact List.mem_cons_self
      · have hlen : w.length = k + 2 := by
          rcases hl with hl | ⟨h1, h2⟩
          · exact hl
          · rcases Nat.lt_or_ge (k + 1) w.length with z | z
            · omega
            · exact absurd ⟨h1, z⟩ hc
        rcases hG.unsnoc with ⟨rfl, rfl⟩ | ⟨q', w', rfl, h1, h2⟩
        · simp at hlen
        · rw [List.length_append] at hlen
          refine ⟨w', (ih w').mpr ⟨q', h1, .inl (by simpa using hlen)⟩, ?_⟩
          rw [h1.last, if_neg]
          · exact List.mem_map.mpr ⟨q, h2, rfl⟩
          · intro z
            have e := Option.some.inj z
            have hin := h1.inb ⟨Nat.zero_le _, Nat.zero_le _⟩
            have hq := nxt_in old new hin h2
            have := nxt_sum old new h2
            rw [e] at this
            dsimp only at this
            omega
theorem ways_all (w : Wy) : w ∈ ways old new (old.length + new.length) ↔ Gc old new (0, 0) (old.length, new.length) w := by
  rw [ways_iff]
  constructor
  · rintro ⟨q, h, hl | ⟨rfl, _⟩⟩
    · have := h.len
      have hb := h.inb ⟨Nat.zero_le _, Nat.zero_le _⟩
      dsimp only at this
      have e : q = (old.length, new.length) := Prod.ext (by dsimp only; omega) (by dsimp only; omega)
      rw [e] at h
      exact h
    · exact h
  · intro h
    refine ⟨_, h, .inr ⟨rfl, ?_⟩⟩
    have := h.len
    dsimp only at this
    omega

def wcost (w : Wy) : Int := ((steps w).map fun s => lcost old new g c s.1 s.2).sum
theorem wcost_cons (p q : Pl) (t : Wy) : wcost old new g c (p :: q :: t) = lcost old new g c p q + wcost old new g c (q :: t) := by
  unfold wcost
  rw [steps_cons, List.map_cons, List.sum_cons]
variable {old new g c}
theorem Gc.head {p q : Pl} {w : Wy} (h : Gc old new p q w) : ∃ t, w = p :: t := by cases h <;> exact ⟨_, rfl⟩
theorem Gc.cost_ge {p : Pl} {w : Wy} (h : Gc old new p (old.length, new.length) w) (hp : p.1 ≤ old.length ∧ p.2 ≤ new.length) : Qd old new g c p ≤ wcost old new g c w := by
  generalize he : (old.length, new.length) = e at h
  induction h with
  | nil p => subst he; rw [Q_end]; exact Int.le_refl _
  | @cons p p' q w e k ih =>
    obtain ⟨t, rfl⟩ := k.head
    rw [wcost_cons, cost_lcost old new g c e]
    have := ih (nxt_in old new hp e) he
    have := Q_step old new g c hp e
    omega
theorem Gc.cost_eq {p : Pl} {w : Wy} (h : Gc old new p (old.length, new.length) w) (hp : p.1 ≤ old.length ∧ p.2 ≤ new.length) (hv : Pd old new g c p + Qd old new g c p = Dd old new g c) :
    Pd old new g c p + wcost old new g c w = Dd old new g c ↔ Ch (dweb old new g c).net p (old.length, new.length) w := by
  generalize he : (old.length, new.length) = e at h
  induction h with
  | nil p =>
    subst he
    rw [Q_end] at hv
    constructor
    · intro _; exact .nil _
    · intro _; unfold wcost; simp [steps_one]; omega
  | @cons p p' q w hn k ih =>
    obtain ⟨t, rfl⟩ := k.head
    have hp' := nxt_in old new hp hn
    have a0 := D_le old new g c _ p' rfl hp'
    have a1 := Q_step old new g c hp hn
    have a2 : Pd old new g c p' ≤ Pd old new g c p + cost old new g c p p' := dist_step old new g c hn
    rw [wcost_cons, cost_lcost old new g c hn]
    constructor
    · intro h1
      have a3 := Gc.cost_ge (g := g) (c := c) (by rw [he]; exact k) hp'
      have hE : (dweb old new g c).net.E p p' := Web.netE.mpr ⟨nxt_cand old new hn, (dweb_e old new g c).mpr ⟨⟨hp, hn⟩, by omega⟩⟩
      exact .cons hE ((ih hp' (by omega) he).mp (by omega))
    · intro h1
      cases h1 with
      | @cons _ p2 _ _ hE hC =>
        have e2 : p2 = p' := by
          have : ∃ s, p' :: t = p2 :: s := by cases hC <;> exact ⟨_, rfl⟩
          obtain ⟨s, hs⟩ := this
          exact (List.cons.inj hs).1.symm
        subst e2
        have h2 := ((dweb_e old new g c).mp (Web.netE.mp hE).2).2
        have := (ih hp' (by omega) he).mpr hC
        omega
theorem Ch.gc {p q : Pl} {w : Wy} (h : Ch (dweb old new g c).net p q w) : Gc old new p q w := by
  induction h with
  | nil p => exact .nil _
  | cons e _ ih => exact .cons ((dweb_e old new g c).mp (Web.netE.mp e).2).1.2 ih
variable (old new g c)
/-- the least ways are those of the web -/
theorem least_iff (low : Int) (h1 : ∃ w ∈ ways old new (old.length + new.length), wcost old new g c w = low) (h2 : ∀ w ∈ ways old new (old.length + new.length), low ≤ wcost old new g c w) (w : Wy) :
    w ∈ (ways old new (old.length + new.length)).filter (fun w => decide (wcost old new g c w = low)) ↔ Ch (dweb old new g c).net (0, 0) ((dweb old new g c).m, (dweb old new g c).n) w := by
  have hP0 : Pd old new g c (0, 0) = 0 := by unfold Pd; dsimp only; rw [dist]
  have h00 : (0 : Nat) ≤ old.length ∧ (0 : Nat) ≤ new.length := ⟨Nat.zero_le _, Nat.zero_le _⟩
  have hv : Pd old new g c (0, 0) + Qd old new g c (0, 0) = Dd old new g c := by rw [hP0]; unfold Dd; omega
  have hlow : low = Dd old new g c := by
    obtain ⟨w0, hw0, e0⟩ := h1
    have a := Gc.cost_ge (g := g) (c := c) ((ways_all old new w0).mp hw0) h00
    -- a way of the web
    obtain ⟨k, vk, _⟩ := exist_last (N := (dweb old new g c).net) _ 0 0 (Nat.le_refl _) (dweb old new g c).v0
    have hch := vk.ch
    have hg := hch.gc
    have b := (Gc.cost_eq hg h00 hv).mpr hch
    have d := h2 _ ((ways_all old new _).mpr hg)
    have e : Qd old new g c (0, 0) = Dd old new g c := rfl
    have e' : wcost old new g c (pth 0 0 (dweb old new g c).net.m (dweb old new g c).net.n k) = Dd old new g c := by omega
    omega
  subst hlow
  rw [List.mem_filter, ways_all, decide_eq_true_eq]
  constructor
  · rintro ⟨hg, hc⟩
    exact (Gc.cost_eq hg h00 hv).mp (by omega)
  · intro h
    have hg := h.gc
    exact ⟨hg, by have := (Gc.cost_eq hg h00 hv).mpr h; omega⟩
end
end K34
end
section
set_option Elab.async false
set_option linter.all false
set_option maxRecDepth 100000
set_option maxHeartbeats 4000000
/-! Places. -/
namespace L2.K4
open PySem PySem.Spec PyProof.Rows L2
abbrev Pl := K34.Pl
def plK (p : Pl) : NK := .tup [.num p.1, .num p.2]
def plV (p : Pl) : List V := [.int p.1, .int p.2]
section
variable {K : PySem.W.Frag} {H : Hp}
theorem at_pl {p : Pl} {v : V} (h : At K H (plK p) v) : ∃ t, v = .ref t ∧ SqT K H t (plV p) := by
  obtain ⟨t, xs, rfl, hs, ha⟩ := At.tup_inv h
  obtain ⟨y, ys, rfl, h1, h2⟩ := ha.cons_inv
  obtain ⟨z, zs, rfl, h3, h4⟩ := h2.cons_inv
  rw [h4.nil_inv, h1.num_eq, h3.num_eq] at hs
  exact ⟨t, rfl, hs⟩
theorem pl_at {p : Pl} {t : Addr} (h : SqT K H t (plV p)) : At K H (plK p) (.ref t) := At.tup h (AtL.two At.num At.num)
end
section
variable {P : Program} {w : World} {K : PySem.W.Frag} {mg : Str → Option Value} {base : Heap}
/-! ### are_own, check_costs -/
def spOwn (K : PySem.W.Frag) : Sp := fun vs H Q _ => ∃ t i j, vs = [.ref t] ∧ SqT K H t [.int i, .int j] ∧ (1 ≤ i ∧ i ≤ 999999) ∧ (1 ≤ j ∧ j ≤ 999999) ∧ ∀ H', Ex H H' → Q (.bl true) H'
theorem ok_are_own (c : Cf K mg) : Kp P w K mg base 2 (He.ga K "are_own") (spOwn K) := by
  obtain ⟨fd, F⟩ := F_are_own c
  have nd : (["value", "cost"] : List Str).Nodup := by decide +kernel
  refine kp_of F (N := ["value", "cost"]) (ps := ["value"]) ⟨rfl, rfl, rfl, nd, rfl, by decide +kernel, by decide +kernel⟩ (F.bindsN fun _ _ _ _ _ _ us hl => match us, hl with | [_], _ => rfl) (fun vs H Q E h => ?_) (fun cdv A outer s H vs Q E hr h => ?_)
  · obtain ⟨z, i, j, rfl, _⟩ := h; rfl
  · obtain ⟨t, i, j, rfl, hS, hi, hj, k⟩ := h
    refine ⟨_, pss_one (ps_ret (pe_and (pe_callB call_isi (by rfl) (c.free "isinstance" (by decide +kernel)) (by decide +kernel) (pa_cons (pv 0) (pa_cons (pe_bltn (v := .ty "tuple") (by rfl) (c.free "tuple" (by decide +kernel)) (by decide +kernel) rfl) pa_nil)))
      (pe_and (pe_cmpR op_eq (pe_callB call_len_seq (by rfl) (c.free "len" (by decide +kernel)) PySem.boot_len (pa_cons (pv 0) pa_nil)) pe_int (nomark _))
      (pe_one (pe_callB (cr_all rfl) (by rfl) (c.free "all" (by decide +kernel)) (by decide +kernel) (pa_cons (pe_lc (own := [("cost", 1)]) (g := gName 1) (tt := tYes) rfl nd (pi_tup (pv 0)) (blkOk_by (N := ["value", "cost"]) (sc := defScope s_are_own) (by decide +kernel)) (fun _ _ _ _ _ => pg_name (i := 1) nd rfl (Or.inl rfl)) (fun _ _ _ _ _ => pts_nil)
        (fun _ _ _ _ _ => pe_cal c (ok_is_cost c) hr (pa_cons (pv 1) pa_nil))) pa_nil)))))), ?_⟩
    refine ⟨_, rfl, _, _, _, _, _, rfl, .ty _, ty_tup hS, kit_ty (r := true) (by decide +kernel), true, rfl, ?_⟩
    refine ⟨_, rfl, t, _, rfl, .inr hS, rfl, true, rfl, ?_⟩
    refine ⟨_, rfl, t, rfl, ⟨_, hS⟩, ?_⟩
    intro D hD
    refine lcG (n := 2) (Y := fun i' x _ => [V.int i, V.int j][i']? = some x) hD (fun _ => some (V.bl true)) IsV IsV.mono (by decide) (fun H' e => sw_tup (ext' e hS)) (fun i' x H1 zs hi' e2 hx hDl Q2 q2 => ?_) fun H2 ys e2 h2 hpp => ?_
    · rcases i' with _ | _ | i'
      · cases hx; exact ⟨rfl, _, rfl, i, rfl, hi.1, hi.2, q2 (some (.bl true)) H1 Ex.refl rfl⟩
      · cases hx; exact ⟨rfl, _, rfl, j, rfl, hj.1, hj.2, q2 (some (.bl true)) H1 Ex.refl rfl⟩
      · omega
    · rw [IsV.all hpp, made_const] at h2
      exact ⟨D, [true, true], rfl, .inl (.inl h2), k H2 e2⟩
def spCosts (K : PySem.W.Frag) : Sp := fun vs H Q _ => ∃ p dx fs, vs = [.ref p] ∧ H p = some (.ins (He.ga K "Costs") dx fs) ∧ Q .non H
theorem ok_check_costs (c : Cf K mg) : Kp P w K mg base 1 (He.ga K "check_costs") (spCosts K) := by
  obtain ⟨fd, F⟩ := F_check_costs c
  obtain ⟨⟨t1, t2, t3, t4⟩, t5⟩ := c.costTy
  refine kp_of F (N := ["value"]) (ps := ["value"]) ⟨rfl, rfl, rfl, by decide +kernel, rfl, by decide +kernel, by decide +kernel⟩ (F.bindsN fun _ _ _ _ _ _ us hl => match us, hl with | [_], _ => rfl) (fun vs H Q E h => ?_) (fun cdv A outer s H vs Q E hr h => ?_)
  · obtain ⟨p, dx, fs, rfl, _⟩ := h; rfl
  · obtain ⟨p, dx, fs, rfl, hp, k⟩ := h
    refine ⟨_, pss_one (ps_if (pt_not (pt_val (pe_callB call_isi (by rfl) (c.free "isinstance" (by decide +kernel)) (by decide +kernel) (pa_cons (pv 0) (pa_cons (pe_glob (v := .ref (He.ga K "Costs")) rfl (c.glo "Costs" (by decide +kernel)).1 rfl) pa_nil))))) (pss_one ps_never) pss_nil), ?_⟩
    exact ⟨_, rfl, _, _, _, _, true, rfl, .own _, .base (.ins hp (c.cls "Costs" (by decide +kernel)).1 t1 t2 t3 t4), t5, true, rfl, iteF k⟩
/-! ### is_integer, is_place -/
def spInteger : Sp := fun vs H Q _ => ∃ i lo hi : Int, vs = [.int i, .int lo, .int hi] ∧ lo ≤ i ∧ i ≤ hi ∧ Q (.bl true) H
theorem ok_is_integer (c : Cf K mg) : Kp P w K mg base 1 (He.ga K "is_integer") spInteger := by
  obtain ⟨fd, F⟩ := F_is_integer c
  refine kp_of F (N := ["value", "least", "most"]) (ps := ["value", "least", "most"]) ⟨rfl, rfl, rfl, by decide +kernel, rfl, by decide +kernel, by decide +kernel⟩ (F.bindsN fun _ _ _ _ _ _ us hl => match us, hl with | [_, _, _], _ => rfl) (fun vs H Q E h => ?_) (fun cdv A outer s H vs Q E hr h => ?_)
  · obtain ⟨i, lo, hi, rfl, _⟩ := h; rfl
  · obtain ⟨i, lo, hi, rfl, h1, h2, k⟩ := h
    refine ⟨_, pss_one (ps_ret (pe_and (pe_callB call_isi (by rfl) (c.free "isinstance" (by decide +kernel)) (by decide +kernel) (pa_cons (pv 0) (pa_cons (pe_bltn (v := .ty "int") (by rfl) (c.free "int" (by decide +kernel)) (by decide +kernel) rfl) pa_nil)))
      (pe_and (pe_not (pe_callB call_isi (by rfl) (c.free "isinstance" (by decide +kernel)) (by decide +kernel) (pa_cons (pv 0) (pa_cons (pe_bltn (v := .ty "bool") (by rfl) (c.free "bool" (by decide +kernel)) (by decide +kernel) rfl) pa_nil))))
      (pe_one (pe_chain op_le op_le (pv 1) (pv 0) (pv 2)))))), ?_⟩
    refine ⟨_, rfl, _, _, _, _, _, rfl, .ty _, .base (.int i), kit_ty (r := true) (by decide +kernel), true, rfl, ?_⟩
    refine ⟨_, rfl, _, _, _, _, _, rfl, .ty _, .base (.int i), kit_ty (r := false) (by decide +kernel), false, rfl, true, rfl, ?_⟩
    refine ⟨_, rfl, _, rfl, _, _, rfl, rfl, true, congrArg V.bl (decide_eq_true h1), ?_⟩
    refine ⟨_, rfl, _, _, rfl, rfl, ?_⟩
    show Q (.bl (decide (i ≤ hi))) H
    rw [decide_eq_true h2]; exact k
def spIsPlace (K : PySem.W.Frag) : Sp := fun vs H Q _ => ∃ a b v xs ys p, vs = [.ref a, .ref b, v] ∧ SqL K H a xs ∧ SqL K H b ys ∧ At K H (plK p) v ∧ p.1 ≤ xs.length ∧ p.2 ≤ ys.length ∧ Q (.bl true) H
theorem ok_is_place (c : Cf K mg) : Kp P w K mg base 2 (He.ga K "is_place") (spIsPlace K) := by
  obtain ⟨fd, F⟩ := F_is_place c
  refine kp_of F (N := ["old", "new", "value"]) (ps := ["old", "new", "value"]) ⟨rfl, rfl, rfl, by decide +kernel, rfl, by decide +kernel, by decide +kernel⟩ (F.bindsN fun _ _ _ _ _ _ us hl => match us, hl with | [_, _, _], _ => rfl) (fun vs H Q E h => ?_) (fun cdv A outer s H vs Q E hr h => ?_)
  · obtain ⟨a, b, v, xs, ys, p, rfl, _⟩ := h; rfl
  · obtain ⟨a, b, v, xs, ys, p, rfl, hA, hB, hp, h1, h2, k⟩ := h
    obtain ⟨t, rfl, ht⟩ := at_pl hp
    refine ⟨_, pss_cons (ps_if (PW.pt (pw_or (pt_not (pt_val (pe_callB call_isi (by rfl) (c.free "isinstance" (by decide +kernel)) (by decide +kernel) (pa_cons (pv 2) (pa_cons (pe_bltn (v := .ty "tuple") (by rfl) (c.free "tuple" (by decide +kernel)) (by decide +kernel) rfl) pa_nil)))))
      (pw_or1 (pt_cmpR op_ne (pe_callB call_len_seq (by rfl) (c.free "len" (by decide +kernel)) PySem.boot_len (pa_cons (pv 2) pa_nil)) pe_int (nomark _))))) (pss_one ps_never) pss_nil)
      (pss_one (ps_ret (pe_and (pe_cal c (ok_is_integer c) hr (pa_cons (pe_ix ix_tup (pv 2) pe_int (fun _ _ => rfl)) (pa_cons pe_int (pa_cons (pe_callB call_len_seq (by rfl) (c.free "len" (by decide +kernel)) PySem.boot_len (pa_cons (pv 0) pa_nil)) pa_nil))))
        (pe_one (pe_cal c (ok_is_integer c) hr (pa_cons (pe_ix ix_tup (pv 2) pe_int (fun _ _ => rfl)) (pa_cons pe_int (pa_cons (pe_callB call_len_seq (by rfl) (c.free "len" (by decide +kernel)) PySem.boot_len (pa_cons (pv 1) pa_nil)) pa_nil)))))))), ?_⟩
    refine ⟨_, rfl, _, _, _, _, true, rfl, .ty _, ty_tup ht, kit_ty (r := true) (by decide +kernel), true, rfl, ?_⟩
    refine iteF ⟨_, rfl, t, _, rfl, .inr ht, rfl, false, rfl, iteF ?_⟩
    refine ⟨_, rfl, t, _, _, _, rfl, rfl, ht, atI_nat (xs := plV p) (j := 0) rfl, _, rfl, a, _, rfl, .inl hA, ?_⟩
    refine ⟨_, _, _, rfl, by omega, by omega, true, rfl, ?_⟩
    refine ⟨_, rfl, t, _, _, _, rfl, rfl, ht, atI_nat (xs := plV p) (j := 1) rfl, _, rfl, b, _, rfl, .inl hB, ?_⟩
    exact ⟨_, _, _, rfl, by omega, by omega, k⟩
end
end L2.K4
end
section
set_option Elab.async false
set_option linter.all false
set_option maxRecDepth 100000
set_option maxHeartbeats 4000000
/-! Calls of methods by names. -/
namespace L2.K4
open PySem PySem.Spec PyProof.Rows L2
section
variable {X : Cx} {k j : Nat} {sp : Sp} {C m : Str} {o e : Expr} {es : List Expr} {ta : TE} {t : TA} {apos pos : Pos} {pl : Sem Bool}
theorem pe_met (c : Cf X.K X.mg) (F : Kp X.prog X.w X.K X.mg X.base k (He.ma X.K (He.ga X.K C) m) sp) (hr : Room j X.A) (he : PE X o ta) (ha : PA X (e :: es) t) (hj : k ≤ j := by decide) (hC : C ∈ clss := by decide +kernel) (hm : (C, m) ∈ meths := by decide +kernel)
    (hst : starEach (e :: es) X.env = (false, eval e X.env) :: starEach es X.env := by rfl) (hpl : (backTo pos (starEach es X.env)).any (·.1) = false := by rfl)
    (ht : eval (.Call (.Attribute o m apos) (e :: es) [] pos) X.env = (do
      let ov ← eval o X.env
      standAt apos.atName
      let (f, first) ← holding [ov] (getMethod ov m pl)
      callWith pos f first (backTo pos (starEach (e :: es) X.env)) (backToKw pos (keywordEach [] X.env))) := by rfl) :
    PE X (.Call (.Attribute o m apos) (e :: es) [] pos) (tMethR (He.ga X.K C) m sp E0 ta t) :=
  pe_methR he (c.cls C hC).1 (c.meth (C, m) hm) F (hr.mono hj) pass0 ha hst hpl ht
theorem pe_met0 (c : Cf X.K X.mg) (F : Kp X.prog X.w X.K X.mg X.base k (He.ma X.K (He.ga X.K C) m) sp) (hr : Room j X.A) (he : PE X o ta) (hj : k ≤ j := by decide) (hC : C ∈ clss := by decide +kernel) (hm : (C, m) ∈ meths := by decide +kernel)
    (ht : eval (.Call (.Attribute o m apos) [] [] pos) X.env = (do
      let ov ← eval o X.env
      standAt apos.atName
      let (f, first) ← holding [ov] (getMethod ov m pl)
      callWith pos f first (backTo pos (starEach [] X.env)) (backToKw pos (keywordEach [] X.env))) := by rfl) :
    PE X (.Call (.Attribute o m apos) [] [] pos) (tMethR (He.ga X.K C) m sp E0 ta tNil) := by
  refine ⟨fun pins s σ H Q I h => ?_⟩
  refine PySem.W.methodCall_KW (pl := pl) (thn (he.run pins s σ H _ I h) fun u s1 ⟨x, H1, I1, rx, a, dx, fs, ex, ea, l, q⟩ => ?_) ht
  subst ex
  obtain rfl : u = Value.ref a := rx
  refine getmeth_ok I1 ea (c.cls C hC).1 (c.meth (C, m) hm) l ?_
  exact PySem.W.callWith_K0 (first := [.ref a]) I1.kIn (c.meth (C, m) hm).kp (wpAny_call (run_fnR (us := [.ref a]) (vs := [.ref a]) F (hr.mono hj) pass0 I1 (.cons rfl .nil) q))
end
/-- a getter keeps its promise -/
structure Gt (P : Program) (w : World) (K : PySem.W.Frag) (mg : Str → Option Value) (base : Heap) (k : Nat) (C f : Str) (sp : Sp) : Prop where
  ex : ∃ p g fd, PropOf K (He.ga K C) f p g ∧ FnOk P w K mg base CX0 k g fd ["self"] sp ∧ Binds K fd ["self"] []
section
variable {X : Cx} {k j : Nat} {sp : Sp} {C f : Str} {e : Expr} {ta : TE} {pos : Pos}
theorem pe_prp (c : Cf X.K X.mg) (G : Gt X.prog X.w X.K X.mg X.base k C f sp) (hr : Room j X.A) (he : PE X e ta) (hj : k + 1 ≤ j := by decide) (hC : C ∈ clss := by decide +kernel) (hab : attributeBase e f X.env (eval e X.env) = eval e X.env := by rfl) :
    PE X (.Attribute e f pos) (tProp (He.ga X.K C) sp [] E0 ta) := by
  obtain ⟨p, g, fd, h1, h2, h3⟩ := G.ex
  exact pe_prop he (c.cls C hC).1 h1 h2 (hr.mono hj) h3 .nil pass0 hab
end
theorem gt_of {P : Program} {w : World} {K : PySem.W.Frag} {mg : Str → Option Value} {base : Heap} {k : Nat} {C f qual : Str} {params : Arguments} {body : List Stmt} {scope : Scope} {N : List Str} {sp : Sp} (F : ∃ p g fd, PropOf K (He.ga K C) f p g ∧ FunD K f qual params body scope [] [] g fd) (S : FnScope N ["self"] scope)
    (b : ∀ (kV doc pm : Value) (an : Option Addr) (cdv ct : Value) (us : List Value), us.length = ["self"].length → bindArgs (PySem.W.fnOf f qual params body scope .none kV doc pm an cdv ct) ⟨us, []⟩ = pure ((["self"] : List Str).zip us))
    (len : ∀ vs H Q E, sp vs H Q E → vs.length = 1)
    (hbody : ∀ (g : Addr) (cdv : Value) (A : Around) (outer : List Env) (s : Shared) (H : Hp) (vs : List V) (Q : VK) (E : XK), Room k (A.deeper (envOfC qual scope s.heap.objs.size g cdv)) → sp vs H Q E →
      ∃ t, PSs (cxOf CX0 P w K mg base N qual scope g cdv A outer s H E).nox body t ∧ t { nx := fun _ H' => Q .non H', rt := Q } (start N vs) H) : Gt P w K mg base (k + 1) C f sp := by
  obtain ⟨p, g, fd, h1, F⟩ := F
  exact ⟨p, g, fd, h1, F.ok S len fun cdv A outer s H vs Q E hr h => let ⟨t, ht, hq⟩ := hbody g cdv A outer s H vs Q E hr h; ⟨t, ht.nox, hq⟩, F.bindsN b⟩
end L2.K4
end
section
set_option Elab.async false
set_option linter.all false
set_option maxRecDepth 100000
set_option maxHeartbeats 4000000
/-! The costs, once made. -/
namespace L2.K4
open PySem PySem.Spec PyProof.Rows L2
def costF (T d : Addr) : List (Str × V) := [("plain_costs", .ref T), ("own_costs", .ref d)]
/-- at p stand costs: gc z for a line gone, cc z for one come -/
def CostAt (K : PySem.W.Frag) (H : Hp) (p : Addr) (gc cc : Str → Int) : Prop := ∃ dx T d kvs g0 c0, H p = some (.ins (He.ga K "Costs") dx (costF T d)) ∧ SqT K H T [.int g0, .int c0] ∧ H d = some (.dK kvs) ∧
  ∀ z ∈ LN, (valV kvs (Sum.inr z) = none ∧ gc z = g0 ∧ cc z = c0) ∨ ∃ u, valV kvs (Sum.inr z) = some (.ref u) ∧ SqT K H u [.int (gc z), .int (cc z)]
theorem CostAt.ex {K : PySem.W.Frag} {H H' : Hp} {p : Addr} {gc cc : Str → Int} (h : CostAt K H p gc cc) (e : Ex H H') : CostAt K H' p gc cc := by
  obtain ⟨dx, T, d, kvs, g0, c0, h1, h2, h3, h4⟩ := h
  refine ⟨dx, T, d, kvs, g0, c0, e _ _ h1, ext' e h2, e _ _ h3, fun z hz => ?_⟩
  rcases h4 z hz with q | ⟨u, q1, q2⟩
  · exact .inl q
  · exact .inr ⟨u, q1, ext' e q2⟩
section
variable {P : Program} {w : World} {K : PySem.W.Frag} {mg : Str → Option Value} {base : Heap}
def spCostsOf (K : PySem.W.Frag) : Sp := fun vs H Q _ => ∃ p z gc cc, vs = [.ref p, .str z] ∧ z ∈ LN ∧ CostAt K H p gc cc ∧ ∀ u, SqT K H u [.int (gc z), .int (cc z)] → Q (.ref u) H
theorem ok_costs_of (c : Cf K mg) : Kp P w K mg base 2 (He.ma K (He.ga K "Costs") "costs_of") (spCostsOf K) := by
  obtain ⟨fd, F⟩ := F_Costs_costs_of c
  refine kp_of F (N := ["self", "line"]) (ps := ["self", "line"]) ⟨rfl, rfl, rfl, by decide +kernel, rfl, by decide +kernel, by decide +kernel⟩ (F.bindsN fun _ _ _ _ _ _ us hl => match us, hl with | [_, _], _ => rfl) (fun vs H Q E h => ?_) (fun cdv A outer s H vs Q E hr h => ?_)
  · obtain ⟨p, z, gc, cc, rfl, _⟩ := h; rfl
  · obtain ⟨p, z, gc, cc, rfl, hz, ⟨dx, T, d, kvs, g0, c0, h1, h2, h3, h4⟩, k⟩ := h
    have cl := (c.cls "Costs" (by decide +kernel)).1
    have n1 := c.noat ("Costs", "own_costs") (by decide +kernel)
    have n2 := c.noat ("Costs", "plain_costs") (by decide +kernel)
    refine ⟨_, pss_cons (ps_if (pt_not (pt_val (pe_cal c (ok_is_line c) hr (pa_cons (pv 1) pa_nil)))) (pss_one ps_never) pss_nil)
      (pss_one (ps_ret (pe_dget2 (hu_of hr) (pe_fld (pv 0) rfl) (pv 1) (pe_fld (pv 0) rfl) ⟨rfl, rfl, rfl, rfl⟩))), ?_⟩
    refine ⟨_, rfl, z, rfl, hz, true, rfl, iteF ?_⟩
    refine ⟨_, rfl, p, _, dx, _, _, rfl, h1, cl, n1, rfl, d, rfl, .inl ⟨kvs, .inl h3⟩, _, rfl, _, rfl, p, _, dx, _, _, rfl, h1, cl, n2, rfl, _, DGet.k (k := Sum.inr z) h3, ?_⟩
    rcases h4 z hz with ⟨q1, q2, q3⟩ | ⟨u, q1, q2⟩
    · rw [q1]
      rw [← q2, ← q3] at h2
      exact k T h2
    · rw [q1]; exact k u q2
def spGo (K : PySem.W.Frag) (b : Bool) : Sp := fun vs H Q _ => ∃ p z gc cc, vs = [.ref p, .str z] ∧ z ∈ LN ∧ CostAt K H p gc cc ∧ Q (.int (if b then gc z else cc z)) H
theorem ok_going (c : Cf K mg) : Kp P w K mg base 3 (He.ma K (He.ga K "Costs") "going") (spGo K true) := by
  obtain ⟨fd, F⟩ := F_Costs_going c
  refine kp_of F (N := ["self", "line"]) (ps := ["self", "line"]) ⟨rfl, rfl, rfl, by decide +kernel, rfl, by decide +kernel, by decide +kernel⟩ (F.bindsN fun _ _ _ _ _ _ us hl => match us, hl with | [_, _], _ => rfl) (fun vs H Q E h => ?_) (fun cdv A outer s H vs Q E hr h => ?_)
  · obtain ⟨p, z, gc, cc, rfl, _⟩ := h; rfl
  · obtain ⟨p, z, gc, cc, rfl, hz, hC, k⟩ := h
    refine ⟨_, pss_one (ps_ret (pe_ix ix_tup (pe_met c (C := "Costs") (ok_costs_of c) hr (pv 0) (pa_cons (pv 1) pa_nil)) pe_int (fun _ _ => rfl))), ?_⟩
    obtain ⟨dx, T, d, kvs, g0, c0, h1, _⟩ := id hC
    refine ⟨_, rfl, p, dx, _, rfl, h1, rfl, _, rfl, p, z, gc, cc, rfl, hz, hC, fun u hu => ?_⟩
    exact ⟨u, _, _, _, rfl, rfl, hu, atI_nat (xs := [V.int (gc z), V.int (cc z)]) (j := 0) rfl, k⟩
theorem ok_coming (c : Cf K mg) : Kp P w K mg base 3 (He.ma K (He.ga K "Costs") "coming") (spGo K false) := by
  obtain ⟨fd, F⟩ := F_Costs_coming c
  refine kp_of F (N := ["self", "line"]) (ps := ["self", "line"]) ⟨rfl, rfl, rfl, by decide +kernel, rfl, by decide +kernel, by decide +kernel⟩ (F.bindsN fun _ _ _ _ _ _ us hl => match us, hl with | [_, _], _ => rfl) (fun vs H Q E h => ?_) (fun cdv A outer s H vs Q E hr h => ?_)
  · obtain ⟨p, z, gc, cc, rfl, _⟩ := h; rfl
  · obtain ⟨p, z, gc, cc, rfl, hz, hC, k⟩ := h
    refine ⟨_, pss_one (ps_ret (pe_ix ix_tup (pe_met c (C := "Costs") (ok_costs_of c) hr (pv 0) (pa_cons (pv 1) pa_nil)) pe_int (fun _ _ => rfl))), ?_⟩
    obtain ⟨dx, T, d, kvs, g0, c0, h1, _⟩ := id hC
    refine ⟨_, rfl, p, dx, _, rfl, h1, rfl, _, rfl, p, z, gc, cc, rfl, hz, hC, fun u hu => ?_⟩
    exact ⟨u, _, _, _, rfl, rfl, hu, atI_nat (xs := [V.int (gc z), V.int (cc z)]) (j := 1) rfl, k⟩
end
end L2.K4
end
section
set_option Elab.async false
set_option linter.all false
set_option maxRecDepth 100000
set_option maxHeartbeats 4000000
/-! Steps between places. -/
namespace L2.K4
open PySem PySem.Spec PyProof.Rows L2
section
variable {P : Program} {w : World} {K : PySem.W.Frag} {mg : Str → Option Value} {base : Heap}
def spPair (K : PySem.W.Frag) : Sp := fun vs H Q _ => ∃ v u p q, vs = [v, u] ∧ At K H (plK p) v ∧ At K H (plK q) u ∧ Q (.bl (decide (p.1 < q.1 ∧ p.2 < q.2))) H
theorem ok_is_pair_step (c : Cf K mg) : Kp P w K mg base 1 (He.ga K "is_pair_step") (spPair K) := by
  obtain ⟨fd, F⟩ := F_is_pair_step c
  refine kp_of F (N := ["one", "other"]) (ps := ["one", "other"]) ⟨rfl, rfl, rfl, by decide +kernel, rfl, by decide +kernel, by decide +kernel⟩ (F.bindsN fun _ _ _ _ _ _ us hl => match us, hl with | [_, _], _ => rfl) (fun vs H Q E h => ?_) (fun cdv A outer s H vs Q E hr h => ?_)
  · obtain ⟨v, u, p, q, rfl, _⟩ := h; rfl
  · obtain ⟨v, u, p, q, rfl, hp, hq, k⟩ := h
    obtain ⟨t, rfl, ht⟩ := at_pl hp
    obtain ⟨t', rfl, ht'⟩ := at_pl hq
    have ix : ∀ {X : Cx} {i : Nat} {e : Expr} {te : TE} {pos : Pos}, True := fun {_ _ _ _ _} => trivial
    refine ⟨_, pss_one (ps_ret (pe_and (pe_cmpR op_lt (pe_ix ix_tup (pv 0) pe_int (fun _ _ => rfl)) (pe_ix ix_tup (pv 1) pe_int (fun _ _ => rfl)) (nomark _)) (pe_one (pe_cmpR op_lt (pe_ix ix_tup (pv 0) pe_int (fun _ _ => rfl)) (pe_ix ix_tup (pv 1) pe_int (fun _ _ => rfl)) (nomark _))))), ?_⟩
    refine ⟨_, rfl, t, _, _, _, rfl, rfl, ht, atI_nat (xs := plV p) (j := 0) rfl, _, rfl, t', _, _, _, rfl, rfl, ht', atI_nat (xs := plV q) (j := 0) rfl, _, _, rfl, rfl, decide (p.1 < q.1), congrArg V.bl (decide_eq_decide.mpr Int.ofNat_lt), ?_⟩
    by_cases h1 : p.1 < q.1
    · rw [decide_eq_true h1]
      refine iteT ⟨_, rfl, t, _, _, _, rfl, rfl, ht, atI_nat (xs := plV p) (j := 1) rfl, _, rfl, t', _, _, _, rfl, rfl, ht', atI_nat (xs := plV q) (j := 1) rfl, _, _, rfl, rfl, ?_⟩
      have e : (fun i j : Int => V.bl (decide (i < j))) (p.2 : Int) (q.2 : Int) = V.bl (decide (p.1 < q.1 ∧ p.2 < q.2)) := congrArg V.bl (decide_eq_decide.mpr (Int.ofNat_lt.trans ⟨fun h => ⟨h1, h⟩, fun h => h.2⟩))
      rw [e]; exact k
    · rw [decide_eq_false h1]
      have e : V.bl false = V.bl (decide (p.1 < q.1 ∧ p.2 < q.2)) := congrArg V.bl (decide_eq_false fun h => h1 h.1).symm
      refine iteF ?_
      rw [e]; exact k
/-! ### next_places -/
def spNext (K : PySem.W.Frag) : Sp := fun vs H Q _ => ∃ a b v ls ms p, vs = [.ref a, .ref b, v] ∧ SqL K H a (ls.map V.str) ∧ SqL K H b (ms.map V.str) ∧ At K H (plK p) v ∧
  ∀ H' l xs, Ex H H' → H l = none → H' l = some (.lst xs) → AtL K H' ((K34.nxt ls ms p).map plK) xs → Q (.ref l) H'
theorem ok_next_places (c : Cf K mg) : Kp P w K mg base 1 (He.ga K "next_places") (spNext K) := by
  obtain ⟨fd, F⟩ := F_next_places c
  have nd : (["old", "new", "place", "i", "j", "found"] : List Str).Nodup := by decide +kernel
  refine kp_of F (N := ["old", "new", "place", "i", "j", "found"]) (ps := ["old", "new", "place"]) ⟨rfl, rfl, rfl, nd, rfl, by decide +kernel, by decide +kernel⟩ (F.bindsN fun _ _ _ _ _ _ us hl => match us, hl with | [_, _, _], _ => rfl) (fun vs H Q E h => ?_) (fun cdv A outer s H vs Q E hr h => ?_)
  · obtain ⟨a, b, v, ls, ms, p, rfl, _⟩ := h; rfl
  · obtain ⟨a, b, v, ls, ms, p, rfl, hA, hB, hp, k⟩ := h
    obtain ⟨t, rfl, ht⟩ := at_pl hp
    refine ⟨_, pss_cons (ps_asg (pv 2) (pg_tup (by rfl) (pgs_cons (pg_name (i := 3) nd rfl (.inl rfl)) (pgs_cons (pg_name (i := 4) nd rfl (.inl rfl)) pgs_nil))))
      (pss_cons (ps_set (i := 5) nd rfl (.inl rfl) (pe_lst pa_nil))
      (Evl.pss_cut (ps_if (pt_cmpR op_lt (pv 3) (pe_callB call_len_seq (by rfl) (c.free "len" (by decide +kernel)) PySem.boot_len (pa_cons (pv 0) pa_nil)) (nomark _))
        (pss_one (ps_expr (pe_bm PySem.F.plainAttrs_list PySem.F.slot_list_append PySem.F.type_list_append mt_append (pv 5) (pa_cons (pe_tup (pa_cons (pe_op op_add (pv 3) pe_int) (pa_cons (pv 4) pa_nil))) pa_nil)))) pss_nil)
      (Evl.pss_cut (ps_if (PW.pt (pw_and (pt_cmpR op_lt (pv 3) (pe_callB call_len_seq (by rfl) (c.free "len" (by decide +kernel)) PySem.boot_len (pa_cons (pv 0) pa_nil)) (nomark _))
        (pw_and (pt_cmpR op_lt (pv 4) (pe_callB call_len_seq (by rfl) (c.free "len" (by decide +kernel)) PySem.boot_len (pa_cons (pv 1) pa_nil)) (nomark _))
          (pw_and1 (pt_cmpR op_eq (pe_ix ix_list (pv 0) (pv 3) (fun _ _ => rfl)) (pe_ix ix_list (pv 1) (pv 4) (fun _ _ => rfl)) (nomark _))))))
        (pss_one (ps_expr (pe_bm PySem.F.plainAttrs_list PySem.F.slot_list_append PySem.F.type_list_append mt_append (pv 5) (pa_cons (pe_tup (pa_cons (pe_op op_add (pv 3) pe_int) (pa_cons (pe_op op_add (pv 4) pe_int) pa_nil))) pa_nil)))) pss_nil)
      (Evl.pss_cut (ps_if (pt_cmpR op_lt (pv 4) (pe_callB call_len_seq (by rfl) (c.free "len" (by decide +kernel)) PySem.boot_len (pa_cons (pv 1) pa_nil)) (nomark _))
        (pss_one (ps_expr (pe_bm PySem.F.plainAttrs_list PySem.F.slot_list_append PySem.F.type_list_append mt_append (pv 5) (pa_cons (pe_tup (pa_cons (pv 3) (pa_cons (pe_op op_add (pv 4) pe_int) pa_nil))) pa_nil)))) pss_nil)
      (pss_one (ps_ret (pv 5))))))), ?_⟩
    refine ⟨_, rfl, t, _, rfl, ht, rfl, _, _, rfl, _, _, rfl, rfl, ?_⟩
    refine ⟨by show 0 ≤ sizeLine; decide, fun l hl => ?_⟩
    have e0 := Ex.laid (o := .lst []) hl
    -- what stands between the tests
    let Mid : List Pl → L2.St → Hp → Prop := fun qs σ H' => σ = [some (.ref a), some (.ref b), some (.ref t), some (.int p.1), some (.int p.2), some (.ref l)] ∧ Ex H H' ∧ ∃ xs, H' l = some (.lst xs) ∧ AtL K H' (qs.map plK) xs
    have app : ∀ (qs : List Pl) (q : Pl) (H' : Hp) (xs : List V) (u : Addr), Ex H H' → H' l = some (.lst xs) → AtL K H' (qs.map plK) xs → H' u = none →
        Mid (qs ++ [q]) [some (.ref a), some (.ref b), some (.ref t), some (.int p.1), some (.int p.2), some (.ref l)] (upd (upd H' u (.tup (plV q))) l (.lst (xs ++ [.ref u]))) := by
      intro qs q H' xs u e h1 h2 hu
      have e1 := Ex.laid (o := .tup (plV q)) hu
      have hlu : (upd H' u (.tup (plV q))) l = some (.lst xs) := e1 _ _ h1
      have tk := TK.lst (K := K) (o := .lst (xs ++ [.ref u])) hlu
      refine ⟨rfl, Ex.mut (e.trans e1) hl, _, upd_same, ?_⟩
      rw [List.map_append]
      exact (AtL.keep tk _ _ (AtL.keep (Ex.tk e1) _ _ h2)).append (AtL.one (At.keep tk _ _ (pl_at (.inl (.inl upd_same)))))
    have M0 : Mid [] [some (.ref a), some (.ref b), some (.ref t), some (.int p.1), some (.int p.2), some (.ref l)] (upd H l (.lst [])) := ⟨rfl, e0, [], upd_same, AtL.nil⟩
    have key : K34.nxt ls ms p = ([] ++ (if p.1 < ls.length then [(p.1 + 1, p.2)] else [])) ++ (if p.1 < ls.length ∧ p.2 < ms.length ∧ K34.eqi ls ms p.1 p.2 = true then [(p.1 + 1, p.2 + 1)] else []) ++ (if p.2 < ms.length then [(p.1, p.2 + 1)] else []) := by
      unfold K34.nxt; simp [List.append_assoc]
    refine ⟨Mid (([] : List Pl) ++ (if p.1 < ls.length then [(p.1 + 1, p.2)] else [])), ?_, fun σ1 H1 M1 => ⟨Mid (([] ++ (if p.1 < ls.length then [(p.1 + 1, p.2)] else [])) ++ (if p.1 < ls.length ∧ p.2 < ms.length ∧ K34.eqi ls ms p.1 p.2 = true then [(p.1 + 1, p.2 + 1)] else [])), ?_, fun σ2 H2 M2 => ⟨Mid (K34.nxt ls ms p), ?_, fun σ3 H3 M3 => ?_⟩⟩⟩
    · refine ⟨_, rfl, _, rfl, a, _, rfl, .inl (exl e0 hA), _, _, rfl, rfl, _, rfl, ?_⟩
      rw [List.length_map]
      by_cases h : p.1 < ls.length
      · rw [decide_eq_true (Int.ofNat_lt.mpr h), if_pos h]
        refine iteT ⟨_, rfl, .inl ⟨rfl, _, .inl (.inl upd_same)⟩, _, rfl, _, _, rfl, rfl, _, rfl, by show 2 ≤ sizeLine; decide, fun u hu => ?_⟩
        have := app [] (p.1 + 1, p.2) _ [] u e0 upd_same AtL.nil hu
        refine ⟨l, _, _, rfl, rfl, (Ex.laid hu) _ _ upd_same, by show 0 < sizeLine; decide, this⟩
      · rw [decide_eq_false (fun q => h (Int.ofNat_lt.mp q)), if_neg h]
        exact iteF M0
    · obtain ⟨rfl, e, xs, h1, h2⟩ := M1
      have hx : xs.length < sizeLine := by
        have q := AtL.length h2
        rw [List.length_map] at q
        have : (([] : List Pl) ++ (if p.1 < ls.length then [(p.1 + 1, p.2)] else [])).length ≤ 1 := by split <;> simp
        exact Nat.lt_of_le_of_lt (show xs.length ≤ 1 by omega) (by decide)
      refine ⟨_, rfl, _, rfl, a, _, rfl, .inl (exl e hA), _, _, rfl, rfl, _, rfl, ?_⟩
      rw [List.length_map]
      by_cases g1 : p.1 < ls.length
      · rw [decide_eq_true (Int.ofNat_lt.mpr g1)]
        refine iteT ⟨_, rfl, _, rfl, b, _, rfl, .inl (exl e hB), _, _, rfl, rfl, _, rfl, ?_⟩
        rw [List.length_map]
        by_cases g2 : p.2 < ms.length
        · rw [decide_eq_true (Int.ofNat_lt.mpr g2)]
          have i1 : (ls.map V.str)[p.1]? = some (.str ls[p.1]) := by rw [List.getElem?_map, List.getElem?_eq_getElem g1]; rfl
          have i2 : (ms.map V.str)[p.2]? = some (.str ms[p.2]) := by rw [List.getElem?_map, List.getElem?_eq_getElem g2]; rfl
          have e3 : K34.eqi ls ms p.1 p.2 = decide (V.str ls[p.1] = V.str ms[p.2]) := by
            unfold K34.eqi
            rw [List.getElem?_eq_getElem g1, List.getElem?_eq_getElem g2]
            exact decide_eq_decide.mpr ⟨fun h => congrArg V.str h, fun h => V.str.inj h⟩
          refine iteT ⟨_, rfl, _, rfl, a, _, _, _, rfl, rfl, exl e hA, atI_nat i1, _, rfl, _, rfl, b, _, _, _, rfl, rfl, exl e hB, atI_nat i2, rfl, _, rfl, ?_⟩
          rw [← e3]
          by_cases g3 : K34.eqi ls ms p.1 p.2 = true
          · rw [g3, if_pos (c := p.1 < ls.length ∧ p.2 < ms.length ∧ true = true) ⟨g1, g2, rfl⟩]
            refine iteT ⟨_, rfl, .inl ⟨rfl, _, .inl (.inl h1)⟩, _, rfl, _, _, rfl, rfl, _, rfl, _, _, rfl, rfl, by show 2 ≤ sizeLine; decide, fun u hu => ?_⟩
            exact ⟨l, _, _, rfl, rfl, (Ex.laid hu) _ _ h1, hx, app _ (p.1 + 1, p.2 + 1) _ xs u e h1 h2 hu⟩
          · rw [show K34.eqi ls ms p.1 p.2 = false by simpa using g3, if_neg (c := p.1 < ls.length ∧ p.2 < ms.length ∧ false = true) (fun q => Bool.noConfusion q.2.2), List.append_nil]
            exact iteF ⟨rfl, e, xs, h1, h2⟩
        · rw [decide_eq_false (fun q => g2 (Int.ofNat_lt.mp q)), if_neg (c := p.1 < ls.length ∧ _) (fun q => g2 q.2.1), List.append_nil]
          exact iteF ⟨rfl, e, xs, h1, h2⟩
      · rw [decide_eq_false (fun q => g1 (Int.ofNat_lt.mp q)), if_neg (c := p.1 < ls.length ∧ _) (fun q => g1 q.1), List.append_nil]
        exact iteF ⟨rfl, e, xs, h1, h2⟩
    · obtain ⟨rfl, e, xs, h1, h2⟩ := M2
      have hx : xs.length < sizeLine := by
        have q := AtL.length h2
        rw [List.length_map, List.length_append] at q
        have q1 : (([] : List Pl) ++ (if p.1 < ls.length then [(p.1 + 1, p.2)] else [])).length ≤ 1 := by split <;> simp
        have q2 : (if p.1 < ls.length ∧ p.2 < ms.length ∧ K34.eqi ls ms p.1 p.2 = true then [((p.1 + 1, p.2 + 1) : Pl)] else []).length ≤ 1 := by split <;> simp
        exact Nat.lt_of_le_of_lt (show xs.length ≤ 2 by omega) (by decide)
      refine ⟨_, rfl, _, rfl, b, _, rfl, .inl (exl e hB), _, _, rfl, rfl, _, rfl, ?_⟩
      rw [List.length_map, key]
      by_cases g : p.2 < ms.length
      · rw [decide_eq_true (Int.ofNat_lt.mpr g), if_pos g]
        refine iteT ⟨_, rfl, .inl ⟨rfl, _, .inl (.inl h1)⟩, _, rfl, _, rfl, _, _, rfl, rfl, by show 2 ≤ sizeLine; decide, fun u hu => ?_⟩
        exact ⟨l, _, _, rfl, rfl, (Ex.laid hu) _ _ h1, hx, app _ (p.1, p.2 + 1) _ xs u e h1 h2 hu⟩
      · rw [decide_eq_false (fun q => g (Int.ofNat_lt.mp q)), if_neg g, List.append_nil]
        exact iteF ⟨rfl, e, xs, h1, h2⟩
    · obtain ⟨rfl, e, xs, h1, h2⟩ := M3
      exact ⟨_, rfl, k H3 l xs e hl h1 h2⟩
end
end L2.K4
end
section
set_option Elab.async false
set_option linter.all false
set_option maxRecDepth 100000
set_option maxHeartbeats 4000000
/-! The tables of costs. -/
namespace L2.K4
open PySem PySem.Spec PyProof.Rows L2
section
variable {P : Program} {w : World} {K : PySem.W.Frag} {mg : Str → Option Value} {base : Heap}
def spAll (K : PySem.W.Frag) : Sp := fun vs H Q _ => ∃ a b p ls ms gc cc, vs = [.ref a, .ref b, .ref p] ∧ SqL K H a (ls.map V.str) ∧ LOk ls ∧ SqL K H b (ms.map V.str) ∧ LOk ms ∧ CostAt K H p gc cc ∧ ∀ H', Ex H H' → Q .non H'
theorem ok_check_all (c : Cf K mg) : Kp P w K mg base 5 (He.ga K "check_all") (spAll K) := by
  obtain ⟨fd, F⟩ := F_check_all c
  refine kp_of F (N := ["old", "new", "costs"]) (ps := ["old", "new", "costs"]) ⟨rfl, rfl, rfl, by decide +kernel, rfl, by decide +kernel, by decide +kernel⟩ (F.bindsN fun _ _ _ _ _ _ us hl => match us, hl with | [_, _, _], _ => rfl) (fun vs H Q E h => ?_) (fun cdv A outer s H vs Q E hr h => ?_)
  · obtain ⟨a, b, p, ls, ms, gc, cc, rfl, _⟩ := h; rfl
  · obtain ⟨a, b, p, ls, ms, gc, cc, rfl, hA, hl, hB, hm, hC, k⟩ := h
    refine ⟨_, pss_cons (ps_expr (pe_cal c (ok_check_texts c) hr (pa_cons (pv 0) (pa_cons (pv 1) pa_nil)))) (pss_one (ps_expr (pe_cal c (ok_check_costs c) hr (pa_cons (pv 2) pa_nil)))), ?_⟩
    refine ⟨_, rfl, _, rfl, a, b, ls, ms, rfl, hA, hl, hB, hm, fun H1 e1 => ?_⟩
    obtain ⟨dx, T, d, kvs, g0, c0, h1, _⟩ := hC.ex e1
    exact ⟨_, rfl, p, dx, _, rfl, h1, k H1 e1⟩
/-! ### step_cost -/
def spStep (K : PySem.W.Frag) : Sp := fun vs H Q _ => ∃ a b p v u ls ms gc cc x y, vs = [.ref a, .ref b, .ref p, v, u] ∧ SqL K H a (ls.map V.str) ∧ LOk ls ∧ SqL K H b (ms.map V.str) ∧ LOk ms ∧ CostAt K H p gc cc ∧ At K H (plK x) v ∧ At K H (plK y) u ∧ y ∈ K34.nxt ls ms x ∧
  Q (.int (K34.cost ls ms gc cc x y)) H
theorem gi_at {ls : List Str} {g : Str → Int} {i : Nat} {z : Str} (h : ls[i]? = some z) : K34.gi ls g i = g z := by unfold K34.gi; rw [h]
theorem ok_step_cost (c : Cf K mg) : Kp P w K mg base 4 (He.ga K "step_cost") (spStep K) := by
  obtain ⟨fd, F⟩ := F_step_cost c
  refine kp_of F (N := ["old", "new", "costs", "one", "other"]) (ps := ["old", "new", "costs", "one", "other"]) ⟨rfl, rfl, rfl, by decide +kernel, rfl, by decide +kernel, by decide +kernel⟩ (F.bindsN fun _ _ _ _ _ _ us hl => match us, hl with | [_, _, _, _, _], _ => rfl) (fun vs H Q E h => ?_) (fun cdv A outer s H vs Q E hr h => ?_)
  · obtain ⟨a, b, p, v, u, ls, ms, gc, cc, x, y, rfl, _⟩ := h; rfl
  · obtain ⟨a, b, p, v, u, ls, ms, gc, cc, x, y, rfl, hA, hl, hB, hm, hC, hx, hy, hn, k⟩ := h
    refine ⟨_, pss_cons (ps_if (pt_val (pe_cal c (ok_is_pair_step c) hr (pa_cons (pv 3) (pa_cons (pv 4) pa_nil)))) (pss_one (ps_ret pe_int)) pss_nil)
      (pss_one (ps_ret (pe_ifExp (pt_cmpR op_lt (pe_ix ix_tup (pv 3) pe_int (fun _ _ => rfl)) (pe_ix ix_tup (pv 4) pe_int (fun _ _ => rfl)) (nomark _))
        (pe_met c (C := "Costs") (ok_going c) hr (pv 2) (pa_cons (pe_ix ix_list (pv 0) (pe_ix ix_tup (pv 3) pe_int (fun _ _ => rfl)) (fun _ _ => rfl)) pa_nil))
        (pe_met c (C := "Costs") (ok_coming c) hr (pv 2) (pa_cons (pe_ix ix_list (pv 1) (pe_ix ix_tup (pv 3) pe_int (fun _ _ => rfl)) (fun _ _ => rfl)) pa_nil))))), ?_⟩
    refine ⟨_, rfl, _, rfl, v, u, x, y, rfl, hx, hy, _, rfl, ?_⟩
    obtain ⟨t, rfl, ht⟩ := at_pl hx
    obtain ⟨t', rfl, ht'⟩ := at_pl hy
    obtain ⟨dx, T, d, kvs, g0, c0, h1, _⟩ := id hC
    by_cases hd : x.1 < y.1 ∧ x.2 < y.2
    · rw [decide_eq_true hd]
      have e : K34.cost ls ms gc cc x y = 0 := if_pos hd
      rw [e] at k
      exact iteT k
    · rw [decide_eq_false hd]
      have e : K34.cost ls ms gc cc x y = if x.1 < y.1 then K34.gi ls gc x.1 else K34.gi ms cc x.2 := if_neg hd
      rw [e] at k
      refine iteF ⟨_, rfl, t, _, _, _, rfl, rfl, ht, atI_nat (xs := plV x) (j := 0) rfl, _, rfl, t', _, _, _, rfl, rfl, ht', atI_nat (xs := plV y) (j := 0) rfl, _, _, rfl, rfl, _, rfl, ?_⟩
      rcases (K34.nxt_iff ls ms).mp hn with ⟨q1, q2⟩ | ⟨q1, q2, q3, q4⟩ | ⟨q1, q2⟩
      · have hlt : x.1 < y.1 := by rw [q2]; exact Nat.lt_succ_self _
        rw [decide_eq_true (Int.ofNat_lt.mpr hlt)]
        rw [if_pos hlt, gi_at (List.getElem?_eq_getElem q1)] at k
        refine iteT ⟨_, rfl, p, dx, _, rfl, h1, rfl, _, rfl, _, rfl, t, _, _, _, rfl, rfl, ht, atI_nat (xs := plV x) (j := 0) rfl, a, _, _, _, rfl, rfl, hA, atI_nat (by rw [List.getElem?_map, List.getElem?_eq_getElem q1]; rfl), p, _, gc, cc, rfl, hl.2 _ (List.getElem_mem q1), hC, k⟩
      · exact absurd (by rw [q4]; exact ⟨Nat.lt_succ_self _, Nat.lt_succ_self _⟩) hd
      · have hlt : ¬ x.1 < y.1 := by rw [q2]; exact Nat.lt_irrefl _
        rw [decide_eq_false (fun q => hlt (Int.ofNat_lt.mp q))]
        rw [if_neg hlt, gi_at (List.getElem?_eq_getElem q1)] at k
        refine iteF ⟨_, rfl, p, dx, _, rfl, h1, rfl, _, rfl, _, rfl, t, _, _, _, rfl, rfl, ht, atI_nat (xs := plV x) (j := 1) rfl, b, _, _, _, rfl, rfl, hB, atI_nat (by rw [List.getElem?_map, List.getElem?_eq_getElem q1]; rfl), p, _, gc, cc, rfl, hm.2 _ (List.getElem_mem q1), hC, k⟩
end
end L2.K4
end
section
set_option Elab.async false
set_option linter.all false
set_option maxRecDepth 100000
set_option maxHeartbeats 4000000
/-! The tables of costs, made. -/
namespace L2.K4
open PySem PySem.Spec PyProof.Rows L2
/-- the i-th row of the table, its first k numbers -/
def rowV (ls ms : List Str) (gc cc : Str → Int) (i k : Nat) : List V := (List.range k).map fun j => V.int (K34.dist ls ms gc cc i j)
section
variable {ls ms : List Str} {gc cc : Str → Int}
theorem rowV_succ (i k : Nat) : rowV ls ms gc cc i (k + 1) = rowV ls ms gc cc i k ++ [.int (K34.dist ls ms gc cc i k)] := by unfold rowV; rw [List.range_succ, List.map_append]; rfl
theorem rowV_len (i k : Nat) : (rowV ls ms gc cc i k).length = k := by unfold rowV; rw [List.length_map, List.length_range]
theorem rowV_at {i k j : Nat} (h : j < k) : (rowV ls ms gc cc i k)[j]? = some (.int (K34.dist ls ms gc cc i j)) := by unfold rowV; rw [List.getElem?_map, List.getElem?_range h]; rfl
theorem rowV_last (i k : Nat) : atI (rowV ls ms gc cc i (k + 1)) (-1) = some (.int (K34.dist ls ms gc cc i k)) := by rw [rowV_succ]; exact atI_last _ _
theorem rowV_one : rowV ls ms gc cc 0 1 = [.int 0] := by unfold rowV; simp [K34.dist]
theorem rowV_fst (i : Nat) : rowV ls ms gc cc (i + 1) 1 = [.int (K34.dist ls ms gc cc i 0 + K34.gi ls gc i)] := by unfold rowV; simp [K34.dist]
theorem min_if (i j : Int) : (if j < i then j else i) = min i j := by omega
end
/-- at T stands a table: its rows at rs -/
structure Tab (ls ms : List Str) (gc cc : Str → Int) (H0 H : Hp) (T : Addr) (rs : List Addr) : Prop where
  at_ : H T = some (.lst (rs.map V.ref))
  row : ∀ k r, rs[k]? = some r → H0 r = none ∧ r ≠ T ∧ H r = some (.lst (rowV ls ms gc cc k (ms.length + 1)))
section
variable {P : Program} {w : World} {K : PySem.W.Frag} {mg : Str → Option Value} {base : Heap}
def spBegin (K : PySem.W.Frag) : Sp := fun vs H Q _ => ∃ a b p ls ms gc cc, vs = [.ref a, .ref b, .ref p] ∧ SqL K H a (ls.map V.str) ∧ LOk ls ∧ SqL K H b (ms.map V.str) ∧ LOk ms ∧ CostAt K H p gc cc ∧
  ∀ H' T rs, Ex H H' → H T = none → rs.length = ls.length + 1 → Tab ls ms gc cc H H' T rs → Q (.ref T) H'
theorem ok_costs_from_begin (c : Cf K mg) : Kp P w K mg base 4 (He.ga K "costs_from_begin") (spBegin K) := by
  obtain ⟨fd, F⟩ := F_costs_from_begin c
  have nd : (["old", "new", "costs", "table", "other", "line", "above", "row", "j", "least"] : List Str).Nodup := by decide +kernel
  refine kp_of F (N := ["old", "new", "costs", "table", "other", "line", "above", "row", "j", "least"]) (ps := ["old", "new", "costs"]) ⟨rfl, rfl, rfl, nd, rfl, by decide +kernel, by decide +kernel⟩ (F.bindsN fun _ _ _ _ _ _ us hl => match us, hl with | [_, _, _], _ => rfl) (fun vs H Q E h => ?_) (fun cdv A outer s H vs Q E hr h => ?_)
  · obtain ⟨a, b, p, ls, ms, gc, cc, rfl, _⟩ := h; rfl
  · obtain ⟨a, b, p, ls, ms, gc, cc, rfl, hA, hl, hB, hm, hC, k⟩ := h
    refine ⟨_, pss_cons (ps_set (i := 3) nd rfl (.inl rfl) (pe_lst (pa_cons (pe_lst (pa_cons pe_int pa_nil)) pa_nil)))
      (Evl.pss_cut (ps_for PassesOwn.never rfl (pi_list (pv 1)) (pg_name (i := 4) nd rfl (.inl rfl))
        (pss_one (ps_expr (pe_bm PySem.F.plainAttrs_list PySem.F.slot_list_append PySem.F.type_list_append mt_append (pe_ix ix_list (pv 3) pe_int (fun _ _ => rfl))
          (pa_cons (pe_op op_add (pe_ix ix_list (pe_ix ix_list (pv 3) pe_int (fun _ _ => rfl)) (pe_un un_neg pe_int) (fun _ _ => rfl)) (pe_met c (C := "Costs") (ok_coming c) hr (pv 2) (pa_cons (pv 4) pa_nil))) pa_nil)))))
      (Evl.pss_cut (ps_for PassesOwn.never rfl (pi_list (pv 0)) (pg_name (i := 5) nd rfl (.inl rfl))
        (pss_cons (ps_set (i := 6) nd rfl (.inl rfl) (pe_ix ix_list (pv 3) (pe_un un_neg pe_int) (fun _ _ => rfl)))
        (pss_cons (ps_set (i := 7) nd rfl (.inl rfl) (pe_lst (pa_cons (pe_op op_add (pe_ix ix_list (pv 6) pe_int (fun _ _ => rfl)) (pe_met c (C := "Costs") (ok_going c) hr (pv 2) (pa_cons (pv 5) pa_nil))) pa_nil)))
        (Evl.pss_cut (ps_for PassesOwn.never rfl (pi_enum (by rfl) (c.free "enumerate" (by decide +kernel)) (pa_cons (pv 1) pa_nil)) (pg_tup rfl (pgs_cons (pg_name (i := 8) nd rfl (.inl rfl)) (pgs_cons (pg_name (i := 4) nd rfl (.inl rfl)) pgs_nil)))
          (pss_cons (ps_set (i := 9) nd rfl (.inl rfl) (pe_callB (call_min2 rfl) (by rfl) (c.free "min" (by decide +kernel)) (by decide +kernel) (pa_cons (pe_op op_add (pe_ix ix_list (pv 6) (pe_op op_add (pv 8) pe_int) (fun _ _ => rfl)) (pe_met c (C := "Costs") (ok_going c) hr (pv 2) (pa_cons (pv 5) pa_nil)))
            (pa_cons (pe_op op_add (pe_ix ix_list (pv 7) (pe_un un_neg pe_int) (fun _ _ => rfl)) (pe_met c (C := "Costs") (ok_coming c) hr (pv 2) (pa_cons (pv 4) pa_nil))) pa_nil))))
          (pss_one (ps_expr (pe_bm PySem.F.plainAttrs_list PySem.F.slot_list_append PySem.F.type_list_append mt_append (pv 7)
            (pa_cons (pe_ifExp (pt_cmpR op_eq (pv 5) (pv 4) (nomark _)) (pe_callB (call_min2 rfl) (by rfl) (c.free "min" (by decide +kernel)) (by decide +kernel) (pa_cons (pv 9) (pa_cons (pe_ix ix_list (pv 6) (pv 8) (fun _ _ => rfl)) pa_nil))) (pv 9)) pa_nil))))))
        (pss_one (ps_expr (pe_bm PySem.F.plainAttrs_list PySem.F.slot_list_append PySem.F.type_list_append mt_append (pv 3) (pa_cons (pv 7) pa_nil))))))))
      (pss_one (ps_ret (pv 3))))), ?_⟩
    refine ⟨by show 1 ≤ sizeLine; decide, fun r0 hr0 => ⟨by show 1 ≤ sizeLine; decide, fun T hT => ?_⟩⟩
    have hT0 : H T = none := (Ex.laid hr0).free hT
    have ne0 : r0 ≠ T := fun e => by rw [← e, upd_same] at hT; cases hT
    have e0 : Ex H (upd (upd H r0 (.lst [.int 0])) T (.lst [.ref r0])) := (Ex.laid hr0).trans (Ex.laid hT)
    obtain ⟨cdx, cT, cd, ckv, cg, cc0, hCp, _⟩ := id hC
    -- the first row
    let Pv1 : Nat → L2.St → Hp → Prop := fun i σ H' => ∃ o4, σ = [some (.ref a), some (.ref b), some (.ref p), some (.ref T), o4, none, none, none, none, none] ∧ Ex H H' ∧ H' T = some (.lst [.ref r0]) ∧ H' r0 = some (.lst (rowV ls ms gc cc 0 (i + 1)))
    -- the rows
    let Pv2 : Nat → L2.St → Hp → Prop := fun i σ H' => ∃ o4 o5 o6 o7 o8 o9 rs, σ = [some (.ref a), some (.ref b), some (.ref p), some (.ref T), o4, o5, o6, o7, o8, o9] ∧ Ex H H' ∧ rs.length = i + 1 ∧ Tab ls ms gc cc H H' T rs
    refine ⟨fun σ1 H1 => Pv2 0 σ1 H1, ?_, fun σ1 H1 M1 => ⟨fun σ2 H2 => Pv2 ls.length σ2 H2, ?_, fun σ2 H2 M2 => ?_⟩⟩
    · refine ⟨_, rfl, b, rfl, ⟨_, exl e0 hB⟩, ?_⟩
      refine forG (n := (ms.map V.str).length) (Y := fun i x _ => (ms.map V.str)[i]? = some x) Pv1 ⟨none, rfl, e0, upd_same, by rw [upd_ne ne0, upd_same, rowV_one]⟩ (fun i σ' H' _ q => by obtain ⟨o4, rfl, e, _⟩ := q; exact sw_list (exl e hB)) (fun i x σ' H' H'' hi q e1 hx => ?_) fun σ' H' q => ?_
      · obtain ⟨o4, rfl, e, q1, q2⟩ := q
        obtain ⟨z, hz, hzi, rfl⟩ := str_at hx
        have e2 := e.trans e1
        have q1' := e1 _ _ q1
        have q2' := e1 _ _ q2
        have hi' : i < 4 := by rw [List.length_map] at hi; exact Nat.lt_of_lt_of_le hi hm.1
        refine ⟨_, rfl, T, _, _, _, rfl, rfl, .inl (.inl q1'), atI_nat (xs := [V.ref r0]) (j := 0) rfl, .inl ⟨rfl, _, .inl (.inl q2')⟩, ?_⟩
        refine ⟨_, rfl, T, _, _, _, rfl, rfl, .inl (.inl q1'), atI_nat (xs := [V.ref r0]) (j := 0) rfl, _, rfl, r0, _, _, _, rfl, rfl, .inl (.inl q2'), rowV_last 0 i, _, rfl, p, cdx, _, rfl, e2 _ _ hCp, rfl, _, rfl, p, z, gc, cc, rfl, hm.2 z hz, hC.ex e2, _, _, rfl, rfl, ?_⟩
        refine ⟨r0, _, _, rfl, rfl, q2', by rw [rowV_len]; exact Nat.lt_of_le_of_lt (show i + 1 ≤ 5 by omega) (by decide), ?_⟩
        refine ⟨_, rfl, Ex.mut e2 hr0, by rw [upd_ne ne0.symm]; exact q1', ?_⟩
        rw [upd_same, rowV_succ 0 (i + 1)]
        have : K34.dist ls ms gc cc 0 (i + 1) = K34.dist ls ms gc cc 0 i + cc z := by rw [K34.dist, gi_at hzi]
        rw [this]
        rfl
      · obtain ⟨o4, rfl, e, q1, q2⟩ := q
        rw [List.length_map] at q2
        refine ⟨o4, none, none, none, none, none, [r0], rfl, e, rfl, q1, fun k r hk => ?_⟩
        rcases k with _ | k
        · cases hk; exact ⟨hr0, ne0, q2⟩
        · cases hk
    · obtain ⟨o4, o5, o6, o7, o8, o9, rs0, rfl, e, hrl, tab⟩ := M1
      refine ⟨_, rfl, a, rfl, ⟨_, exl e hA⟩, ?_⟩
      refine forG (n := (ls.map V.str).length) (Y := fun i x _ => (ls.map V.str)[i]? = some x) Pv2 ⟨o4, o5, o6, o7, o8, o9, rs0, rfl, e, hrl, tab⟩ (fun i σ' H' _ q => by obtain ⟨_, _, _, _, _, _, _, rfl, e, _⟩ := q; exact sw_list (exl e hA)) (fun i x σ' H' H'' hi q e1 hx => ?_) fun σ' H' q => by rw [List.length_map] at q; exact q
      obtain ⟨o4, o5, o6, o7, o8, o9, rs, rfl, e, hrl, tab⟩ := q
      obtain ⟨z, hz, hzi, rfl⟩ := str_at hx
      have e2 := e.trans e1
      have hi' : i < 4 := by rw [List.length_map] at hi; exact Nat.lt_of_lt_of_le hi hl.1
      have tT := e1 _ _ tab.at_
      obtain ⟨ab, hab⟩ : ∃ ab, rs[i]? = some ab := ⟨_, List.getElem?_eq_getElem (by omega)⟩
      obtain ⟨hab1, hab2, hab3⟩ := tab.row i ab hab
      have hab4 := e1 _ _ hab3
      have last : atI (rs.map V.ref) (-1) = some (.ref ab) := by
        have : rs = rs.take i ++ [ab] := by
          have := List.take_append_drop i rs
          rw [List.drop_eq_getElem_cons (by omega), List.drop_eq_nil_of_le (by omega)] at this
          rw [List.getElem?_eq_getElem (by omega)] at hab
          rw [Option.some.inj hab] at this
          exact this.symm
        rw [this, List.map_append]
        exact atI_last _ _
      refine ⟨_, rfl, _, rfl, T, _, _, _, rfl, rfl, .inl (.inl tT), last, ?_⟩
      refine ⟨_, rfl, ab, _, _, _, rfl, rfl, .inl (.inl hab4), atI_nat (rowV_at (j := 0) (Nat.succ_pos _)), _, rfl, p, cdx, _, rfl, e2 _ _ hCp, rfl, _, rfl, p, z, gc, cc, rfl, hl.2 z hz, hC.ex e2, _, _, rfl, rfl, by show 1 ≤ sizeLine; decide, fun row hrow => ?_⟩
      have er := Ex.laid (o := .lst [.int (K34.dist ls ms gc cc i 0 + gc z)]) hrow
      have gz : K34.gi ls gc i = gc z := gi_at hzi
      let Pv3 : Nat → L2.St → Hp → Prop := fun j σ H3 => ∃ o4 o8 o9, σ = [some (.ref a), some (.ref b), some (.ref p), some (.ref T), o4, some (.str z), some (.ref ab), some (.ref row), o8, o9] ∧ Ex H'' H3 ∧ H3 row = some (.lst (rowV ls ms gc cc (i + 1) (j + 1)))
      refine ⟨fun σ3 H3 => Pv3 ms.length σ3 H3, ?_, fun σ3 H3 M3 => ?_⟩
      · refine ⟨_, rfl, b, _, rfl, exl (e2.trans er) hB, ?_⟩
        refine forG (n := (ms.map V.str).length) (Y := fun j v H' => ∃ U y, v = V.ref U ∧ H' U = some (.tup [.int (j : Nat), y]) ∧ (ms.map V.str)[j]? = some y) Pv3 ⟨o4, o8, o9, rfl, er, by rw [upd_same, rowV_fst, gz]; rfl⟩ (fun j σ' H' _ q => by obtain ⟨_, _, _, rfl, e, _⟩ := q; exact sw_enum (exl (e2.trans e) hB)) (fun j v σ' H3 H4 hj q e3 hv => ?_) fun σ' H' q => by rw [List.length_map] at q; exact q
        obtain ⟨p4, p8, p9, rfl, e4, hrw⟩ := q
        obtain ⟨U, y, rfl, hU, hy⟩ := hv
        obtain ⟨y, hym, hyj, rfl⟩ := str_at hy
        have e5 := e4.trans e3
        have e6 := e2.trans e5
        have hj' : j < ms.length := by rw [List.length_map] at hj; exact hj
        have hrw' := e3 _ _ hrw
        have hab5 := e5 _ _ hab4
        have gy : K34.gi ms cc j = cc y := gi_at hyj
        have ab1 : atI (rowV ls ms gc cc i (ms.length + 1)) ((j : Int) + 1) = some (.int (K34.dist ls ms gc cc i (j + 1))) := by
          rw [show (j : Int) + 1 = ((j + 1 : Nat) : Int) from rfl]
          exact atI_nat (rowV_at (by omega))
        have ab0 : atI (rowV ls ms gc cc i (ms.length + 1)) (j : Int) = some (.int (K34.dist ls ms gc cc i j)) := atI_nat (rowV_at (by omega))
        refine ⟨U, _, rfl, .inl (.inl hU), rfl, _, _, rfl, _, _, rfl, rfl, ?_⟩
        refine ⟨_, rfl, _, rfl, _, _, rfl, rfl, ab, _, _, _, rfl, rfl, .inl (.inl hab5), ab1, _, rfl, p, cdx, _, rfl, e6 _ _ hCp, rfl, _, rfl, p, z, gc, cc, rfl, hl.2 z hz, hC.ex e6, _, _, rfl, rfl, ?_⟩
        refine ⟨_, rfl, _, rfl, row, _, _, _, rfl, rfl, .inl (.inl hrw'), rowV_last (i + 1) j, _, rfl, p, cdx, _, rfl, e6 _ _ hCp, rfl, _, rfl, p, y, gc, cc, rfl, hm.2 y hym, hC.ex e6, _, _, rfl, rfl, ?_⟩
        refine ⟨_, _, rfl, ?_⟩
        obtain ⟨lv, hlv⟩ : ∃ lv : Int, lv = (if K34.dist ls ms gc cc (i + 1) j + cc y < K34.dist ls ms gc cc i (j + 1) + gc z then K34.dist ls ms gc cc (i + 1) j + cc y else K34.dist ls ms gc cc i (j + 1) + gc z) := ⟨_, rfl⟩
        have hlv2 : lv = min (K34.dist ls ms gc cc i (j + 1) + K34.gi ls gc i) (K34.dist ls ms gc cc (i + 1) j + K34.gi ms cc j) := by rw [hlv, min_if, gz, gy]
        refine ⟨_, rfl, .inl ⟨rfl, _, .inl (.inl hrw')⟩, ?_⟩
        refine ⟨_, rfl, _, rfl, rfl, _, rfl, ?_⟩
        have eqz : K34.eqi ls ms i j = decide (V.str z = V.str y) := by
          unfold K34.eqi; rw [hzi, hyj]
          exact decide_eq_decide.mpr ⟨fun h => congrArg V.str h, fun h => V.str.inj h⟩
        have rlen : (rowV ls ms gc cc (i + 1) (j + 1)).length < sizeLine := by rw [rowV_len]; exact Nat.lt_of_le_of_lt (show j + 1 ≤ 5 by have := hm.1; omega) (by decide)
        have fin : ∀ d : Int, d = K34.dist ls ms gc cc (i + 1) (j + 1) → Pv3 (j + 1) [some (.ref a), some (.ref b), some (.ref p), some (.ref T), some (.str y), some (.str z), some (.ref ab), some (.ref row), some (.int j), some (.int lv)] (upd H4 row (.lst (rowV ls ms gc cc (i + 1) (j + 1) ++ [.int d]))) := fun d hd => by
          refine ⟨_, _, _, rfl, Ex.mut e5 hrow, ?_⟩
          rw [upd_same, rowV_succ (i + 1) (j + 1), hd]
        rw [hlv] at fin
        by_cases hzy : V.str z = V.str y
        · rw [decide_eq_true hzy]
          refine iteT ⟨_, rfl, _, rfl, _, rfl, ab, _, _, _, rfl, rfl, .inl (.inl hab5), ab0, _, _, rfl, row, _, _, rfl, rfl, hrw', rlen, ?_⟩
          refine fin _ ?_
          rw [K34.dist, eqz, decide_eq_true hzy, if_pos rfl, ← hlv2, ← min_if, hlv]
          rfl
        · rw [decide_eq_false hzy]
          refine iteF ⟨_, rfl, row, _, _, rfl, rfl, hrw', rlen, ?_⟩
          refine fin _ ?_
          rw [K34.dist, eqz, decide_eq_false hzy, if_neg Bool.false_ne_true, ← hlv2, hlv]
          rfl
      · obtain ⟨p4, p8, p9, rfl, e4, hrw⟩ := M3
        have tT3 : H3 T = some (.lst (rs.map V.ref)) := e4 _ _ tT
        have hrow0 : H row = none := e2.free hrow
        have nrT : row ≠ T := fun q => by rw [q, tT] at hrow; cases hrow
        refine ⟨_, rfl, .inl ⟨rfl, _, .inl (.inl tT3)⟩, _, rfl, T, _, _, rfl, rfl, tT3, by rw [List.length_map, hrl]; exact Nat.lt_of_le_of_lt (show i + 1 ≤ 5 by omega) (by decide), ?_⟩
        refine ⟨_, _, _, _, _, _, rs ++ [row], rfl, Ex.mut (e2.trans e4) hT0, by rw [List.length_append, hrl]; rfl, by rw [upd_same, List.map_append]; rfl, fun kk r hk => ?_⟩
        rcases Nat.lt_or_ge kk rs.length with q | q
        · rw [List.getElem?_append_left q] at hk
          obtain ⟨g1, g2, g3⟩ := tab.row kk r hk
          exact ⟨g1, g2, by rw [upd_ne g2]; exact e4 _ _ (e1 _ _ g3)⟩
        · rw [List.getElem?_append_right q] at hk
          have : kk = i + 1 := by
            rcases Nat.eq_or_lt_of_le q with q | q
            · omega
            · rw [List.getElem?_eq_none (by rw [List.length_singleton]; omega)] at hk; cases hk
          subst this
          rw [hrl, Nat.sub_self] at hk
          cases hk
          exact ⟨hrow0, nrT, by rw [upd_ne nrT]; exact hrw⟩
    · obtain ⟨o4, o5, o6, o7, o8, o9, rs, rfl, e, hrl, tab⟩ := M2
      exact ⟨_, rfl, k H2 T rs e hT0 hrl tab⟩
end
end L2.K4
end
section
set_option Elab.async false
set_option linter.all false
set_option maxRecDepth 100000
set_option maxHeartbeats 4000000
/-! The table to the end. -/
namespace L2.K4
open PySem PySem.Spec PyProof.Rows L2
def rowF (f : Nat → Int) (n : Nat) : List V := (List.range (n + 1)).map fun j => V.int (f j)
structure TabF (f : Nat → Nat → Int) (m n : Nat) (H : Hp) (T : Addr) (rs : List Addr) : Prop where
  at_ : H T = some (.lst (rs.map V.ref))
  len : rs.length = m + 1
  row : ∀ k r, rs[k]? = some r → H r = some (.lst (rowF (f k) n))
theorem TabF.ex {f : Nat → Nat → Int} {m n : Nat} {H H' : Hp} {T : Addr} {rs : List Addr} (h : TabF f m n H T rs) (e : Ex H H') : TabF f m n H' T rs := ⟨e _ _ h.at_, h.len, fun k r q => e _ _ (h.row k r q)⟩
theorem rowF_at {f : Nat → Int} {n j : Nat} (h : j ≤ n) : (rowF f n)[j]? = some (.int (f j)) := by unfold rowF; rw [List.getElem?_map, List.getElem?_range (Nat.lt_succ_of_le h)]; rfl
theorem rowF_rev {f : Nat → Int} {n : Nat} : (rowF f n).reverse = rowF (fun j => f (n - j)) n := by
  apply List.ext_getElem?
  intro i
  have l1 : (rowF f n).length = n + 1 := by unfold rowF; rw [List.length_map, List.length_range]
  rcases Nat.lt_or_ge i (n + 1) with h | h
  · rw [List.getElem?_reverse (by rw [l1]; exact h), l1, rowF_at (by omega), rowF_at (by omega)]
    congr 3
  · rw [List.getElem?_eq_none (by rw [List.length_reverse, l1]; exact h), List.getElem?_eq_none (by unfold rowF; rw [List.length_map, List.length_range]; exact h)]
theorem made_some (n : Nat) : made (fun i => some i) n = List.range n := by unfold made; simp
/-- the new lists' own addresses -/
theorem LsD.all {κ : Type} {R : κ → List V → Hp → Prop} {D : Addr} {H : Hp} {ks : List κ} {ys : List V} (h : Paired (fun k y => LsD R D k y H) ks ys) : ∃ rs : List Addr, ys = rs.map V.ref ∧ rs.length = ks.length ∧ ∀ (i : Nat) (k : κ) (r : Addr), ks[i]? = some k → rs[i]? = some r → r ≠ D ∧ ∃ xs, H r = some (.lst xs) ∧ R k xs (er D H) := by
  induction h with
  | nil => exact ⟨[], rfl, rfl, fun i k r h => by cases h⟩
  | @cons k y ks ys h t ih =>
    obtain ⟨rs, e, hl, hr⟩ := ih
    obtain ⟨p, xs, e1, e2, e3, e4⟩ := h
    refine ⟨p :: rs, by rw [e, e1]; rfl, by rw [List.length_cons, hl]; rfl, fun i k' r h1 h2 => ?_⟩
    rcases i with _ | i
    · cases h1; cases h2; exact ⟨e2, xs, e3, e4⟩
    · exact hr i k' r (by simpa using h1) (by simpa using h2)
section
variable {P : Program} {w : World} {K : PySem.W.Frag} {mg : Str → Option Value} {base : Heap}
def spEnd (K : PySem.W.Frag) : Sp := fun vs H Q _ => ∃ a b p ls ms gc cc, vs = [.ref a, .ref b, .ref p] ∧ SqL K H a (ls.map V.str) ∧ LOk ls ∧ SqL K H b (ms.map V.str) ∧ LOk ms ∧ CostAt K H p gc cc ∧
  ∀ H' T rs, Ex H H' → H T = none → TabF (fun i j => K34.Qd ls ms gc cc (i, j)) ls.length ms.length H' T rs → Q (.ref T) H'
theorem LOk.rev {ls : List Str} (h : LOk ls) : LOk ls.reverse := ⟨by rw [List.length_reverse]; exact h.1, fun z hz => h.2 z (List.mem_reverse.mp hz)⟩
theorem ok_costs_to_end (c : Cf K mg) : Kp P w K mg base 5 (He.ga K "costs_to_end") (spEnd K) := by
  obtain ⟨fd, F⟩ := F_costs_to_end c
  have nd : (["old", "new", "costs", "row"] : List Str).Nodup := by decide +kernel
  refine kp_of F (N := ["old", "new", "costs", "row"]) (ps := ["old", "new", "costs"]) ⟨rfl, rfl, rfl, nd, rfl, by decide +kernel, by decide +kernel⟩ (F.bindsN fun _ _ _ _ _ _ us hl => match us, hl with | [_, _, _], _ => rfl) (fun vs H Q E h => ?_) (fun cdv A outer s H vs Q E hr h => ?_)
  · obtain ⟨a, b, p, ls, ms, gc, cc, rfl, _⟩ := h; rfl
  · obtain ⟨a, b, p, ls, ms, gc, cc, rfl, hA, hl, hB, hm, hC, k⟩ := h
    refine ⟨_, pss_one (ps_ret (pe_lc (own := [("row", 3)]) (g := gName 3) (tt := tYes) (te := tRevL K (tVar 3)) rfl nd (pi_list (pe_revL (pe_cal c (ok_costs_from_begin c) hr (pa_cons (pe_revL (pv 0)) (pa_cons (pe_revL (pv 1)) (pa_cons (pv 2) pa_nil)))))) (blkOk_by (N := ["old", "new", "costs", "row"]) (sc := defScope s_costs_to_end) (by decide +kernel)) (fun _ _ _ _ _ => pg_name (i := 3) nd rfl (Or.inl rfl)) (fun _ _ _ _ _ => pts_nil)
      (fun _ _ _ _ _ => pe_revL (pv 3)))), ?_⟩
    refine ⟨_, rfl, a, _, rfl, hA, fun a' ha' => ?_⟩
    have e1 := Ex.laid (o := .lst (ls.map V.str).reverse) ha'
    refine ⟨_, rfl, b, _, rfl, exl e1 hB, fun b' hb' => ?_⟩
    have e2 := e1.trans (Ex.laid (o := .lst (ms.map V.str).reverse) hb')
    refine ⟨_, rfl, a', b', p, ls.reverse, ms.reverse, gc, cc, rfl, by rw [List.map_reverse]; exact .inl (.inl (Ex.laid hb' _ _ upd_same)), hl.rev, by rw [List.map_reverse]; exact .inl (.inl upd_same), hm.rev, hC.ex e2, fun H1 T rs e3 hT hrl tab => ?_⟩
    have e4 := e2.trans e3
    refine ⟨T, _, rfl, .inl (.inl tab.at_), fun T' hT' => ?_⟩
    have e5 := e4.trans (Ex.laid (o := .lst (rs.map V.ref).reverse) hT')
    have hat : (upd H1 T' (.lst (rs.map V.ref).reverse)) T' = some (.lst (rs.map V.ref).reverse) := upd_same
    refine ⟨T', rfl, ⟨_, .inl (.inl hat)⟩, fun D hD => ?_⟩
    rw [List.length_reverse] at hrl
    refine lcG (n := (rs.map V.ref).reverse.length) (Y := fun i x _ => (rs.map V.ref).reverse[i]? = some x) hD (fun i => some i) (LsD fun (i : Nat) xs _ => xs = rowF (fun j => K34.Qd ls ms gc cc (i, j)) ms.length) (LsD.mono fun _ _ _ _ _ h => h) (by rw [List.length_reverse, List.length_map, hrl]; exact Nat.lt_of_le_of_lt (show ls.length + 1 ≤ 5 by have := hl.1; omega) (by decide))
      (fun H' e => sw_list (.inl (.inl (e _ _ hat)))) (fun i x H2 zs hi e6 hx hDl Q2 q2 => ?_) fun H2 ys e6 h2 hpp => ?_
    · rw [List.length_reverse, List.length_map, hrl] at hi
      have hk : rs[ls.length - i]? = some (rs[ls.length - i]'(by omega)) := List.getElem?_eq_getElem (by omega)
      have hx' : x = V.ref (rs[ls.length - i]'(by omega)) := by
        rw [← List.map_reverse, List.getElem?_map, List.getElem?_reverse (by omega), hrl] at hx
        rw [show ls.length + 1 - 1 - i = ls.length - i by omega, hk] at hx
        exact (Option.some.inj hx).symm
      subst hx'
      obtain ⟨_, _, hrow⟩ := tab.row _ _ hk
      have hrow2 := e6 _ _ (Ex.laid (o := .lst (rs.map V.ref).reverse) hT' _ _ hrow)
      refine ⟨rfl, _, rfl, _, _, rfl, .inl (.inl hrow2), fun p' hp' => ?_⟩
      have nD : p' ≠ D := fun q => by rw [q, hDl] at hp'; cases hp'
      refine q2 (some (.ref p')) _ (Ex.laid hp') ⟨p', _, rfl, nD, upd_same, ?_⟩
      show (rowF (fun j => K34.dist ls.reverse ms.reverse gc cc (ls.length - i) j) ms.reverse.length).reverse = _
      rw [rowF_rev, List.length_reverse]
      rfl
    · obtain ⟨rs', e7, hl7, h7⟩ := LsD.all hpp
      rw [made_some, List.length_range, List.length_reverse, List.length_map, hrl] at hl7
      have hD0 : H D = none := e5.free hD
      refine k H2 D rs' (e5.trans e6) hD0 ⟨by rw [h2, e7], hl7, fun kk r hr' => ?_⟩
      have hlt : kk < ls.length + 1 := by rw [← hl7]; exact (List.getElem?_eq_some_iff.mp hr').1
      obtain ⟨_, xs, g1, g2⟩ := h7 kk kk r (by rw [made_some, List.getElem?_range (by rw [List.length_reverse, List.length_map, hrl]; exact hlt)]) hr'
      rw [g1, g2]
end
end L2.K4
end
section
set_option Elab.async false
set_option linter.all false
set_option maxRecDepth 100000
set_option maxHeartbeats 4000000
/-! Tables: made, read. -/
namespace L2.K4
open PySem PySem.Spec PyProof.Rows L2
def tabFs (ol nl cp T E : Addr) : List (Str × V) := [("old_lines", .ref ol), ("new_lines", .ref nl), ("line_costs", .ref cp), ("from_begin", .ref T), ("to_end", .ref E)]
structure TbAt (K : PySem.W.Frag) (H : Hp) (p : Addr) (ls ms : List Str) (gc cc : Str → Int) (dx ol nl cp T E : Addr) (rs rs' : List Addr) : Prop where
  at_ : H p = some (.ins (He.ga K "Tables") dx (tabFs ol nl cp T E))
  old : H ol = some (.lst (ls.map V.str))
  new : H nl = some (.lst (ms.map V.str))
  cost : CostAt K H cp gc cc
  beg : TabF (fun i j => K34.Pd ls ms gc cc (i, j)) ls.length ms.length H T rs
  end_ : TabF (fun i j => K34.Qd ls ms gc cc (i, j)) ls.length ms.length H E rs'
def TbA (K : PySem.W.Frag) (H : Hp) (p : Addr) (ls ms : List Str) (gc cc : Str → Int) : Prop := ∃ dx ol nl cp T E rs rs', TbAt K H p ls ms gc cc dx ol nl cp T E rs rs'
theorem TbAt.ex {K : PySem.W.Frag} {H H' : Hp} {p : Addr} {ls ms : List Str} {gc cc : Str → Int} {dx ol nl cp T E : Addr} {rs rs' : List Addr} (h : TbAt K H p ls ms gc cc dx ol nl cp T E rs rs') (e : Ex H H') : TbAt K H' p ls ms gc cc dx ol nl cp T E rs rs' :=
  ⟨e _ _ h.at_, e _ _ h.old, e _ _ h.new, h.cost.ex e, h.beg.ex e, h.end_.ex e⟩
theorem TbA.ex {K : PySem.W.Frag} {H H' : Hp} {p : Addr} {ls ms : List Str} {gc cc : Str → Int} (h : TbA K H p ls ms gc cc) (e : Ex H H') : TbA K H' p ls ms gc cc := let ⟨_, _, _, _, _, _, _, _, q⟩ := h; ⟨_, _, _, _, _, _, _, _, q.ex e⟩
/-- all but p stands, p's own dict too -/
theorem kd_ex {H H' : Hp} {p : Addr} (k : KD p H H') (hp : H p = none) : Ex H H' := fun a o h => k a o (ne_of_none h hp) h
section
variable {P : Program} {w : World} {K : PySem.W.Frag} {mg : Str → Option Value} {base : Heap}
def spTabInit (K : PySem.W.Frag) : Sp := fun vs H Q _ => ∃ p dx a b cp ls ms gc cc, vs = [.ref p, .ref a, .ref b, .ref cp] ∧ H p = some (.ins (He.ga K "Tables") dx []) ∧ SqL K H a (ls.map V.str) ∧ LOk ls ∧ SqL K H b (ms.map V.str) ∧ LOk ms ∧ CostAt K H cp gc cc ∧
  ∀ H', KD p H H' → TbA K H' p ls ms gc cc → Q .non H'
theorem upd_list {H : Hp} {p : Addr} {u o : HO} (h : H p = some u) : KD p H (upd H p o) := KD.upd
theorem KD.trans {p : Addr} {H H' H'' : Hp} (a : KD p H H') (b : KD p H' H'') : KD p H H'' := fun c o hn h => b c o hn (a c o hn h)
theorem sql_kd {K : PySem.W.Frag} {p C dx : Addr} {fs : List (Str × V)} {H H' : Hp} (k : KD p H H') (hp : H p = some (.ins C dx fs)) {a : Addr} {xs : List V} (h : SqL K H a xs) : SqL K H' a xs := by
  rcases h with (h | ⟨o, h⟩) | h
  · exact .inl (.inl (k a _ (by rintro rfl; rw [hp] at h; cases h) h))
  · exact .inl (.inr ⟨o, k a _ (by rintro rfl; rw [hp] at h; cases h) h⟩)
  · exact .inr h
theorem sqt_kd {K : PySem.W.Frag} {p C dx : Addr} {fs : List (Str × V)} {H H' : Hp} (k : KD p H H') (hp : H p = some (.ins C dx fs)) {a : Addr} {xs : List V} (h : SqT K H a xs) : SqT K H' a xs := by
  rcases h with (h | ⟨o, h⟩) | h
  · exact .inl (.inl (k a _ (by rintro rfl; rw [hp] at h; cases h) h))
  · exact .inl (.inr ⟨o, k a _ (by rintro rfl; rw [hp] at h; cases h) h⟩)
  · exact .inr h
theorem CostAt.kd {K : PySem.W.Frag} {p C dx : Addr} {H H' : Hp} {cp : Addr} {gc cc : Str → Int} (h : CostAt K H cp gc cc) (k : KD p H H') (hp : H p = some (.ins C dx [])) : CostAt K H' cp gc cc := by
  obtain ⟨cdx, T, d, kvs, g0, c0, h1, h2, h3, h4⟩ := h
  refine ⟨cdx, T, d, kvs, g0, c0, k _ _ (by rintro rfl; rw [hp] at h1; cases h1) h1, sqt_kd k hp h2, k _ _ (by rintro rfl; rw [hp] at h3; cases h3) h3, fun z hz => ?_⟩
  rcases h4 z hz with q | ⟨u, q1, q2⟩
  · exact .inl q
  · exact .inr ⟨u, q1, sqt_kd k hp q2⟩
theorem ok_tables_init (c : Cf K mg) : Kp P w K mg base 6 (He.ma K (He.ga K "Tables") "__init__") (spTabInit K) := by
  obtain ⟨fd, F⟩ := F_Tables___init__ c
  refine kp_of F (N := ["self", "old", "new", "costs"]) (ps := ["self", "old", "new", "costs"]) ⟨rfl, rfl, rfl, by decide +kernel, rfl, by decide +kernel, by decide +kernel⟩ (F.bindsN fun _ _ _ _ _ _ us hl => match us, hl with | [_, _, _, _], _ => rfl) (fun vs H Q E h => ?_) (fun cdv A outer s H vs Q E hr h => ?_)
  · obtain ⟨p, dx, a, b, cp, ls, ms, gc, cc, rfl, _⟩ := h; rfl
  · obtain ⟨p, dx, a, b, cp, ls, ms, gc, cc, rfl, hp, hA, hl, hB, hm, hC, k⟩ := h
    have cl := (c.cls "Tables" (by decide +kernel)).1
    refine ⟨_, pss_cons (ps_expr (pe_cal c (ok_check_all c) hr (pa_cons (pv 1) (pa_cons (pv 2) (pa_cons (pv 3) pa_nil)))))
      (pss_cons (ps_fld (pv 0) (pe_callTy call_list_of (by rfl) (c.free "list" (by decide +kernel)) (by decide +kernel) (pa_cons (pv 1) pa_nil)) rfl)
      (pss_cons (ps_fld (pv 0) (pe_callTy call_list_of (by rfl) (c.free "list" (by decide +kernel)) (by decide +kernel) (pa_cons (pv 2) pa_nil)) rfl)
      (pss_cons (ps_fld (pv 0) (pv 3) rfl)
      (pss_cons (ps_fld (pv 0) (pe_cal c (ok_costs_from_begin c) hr (pa_cons (pv 1) (pa_cons (pv 2) (pa_cons (pv 3) pa_nil)))) rfl)
      (pss_one (ps_fld (pv 0) (pe_cal c (ok_costs_to_end c) hr (pa_cons (pv 1) (pa_cons (pv 2) (pa_cons (pv 3) pa_nil)))) rfl)))))), ?_⟩
    refine ⟨_, rfl, _, rfl, _, rfl, a, b, cp, ls, ms, gc, cc, rfl, hA, hl, hB, hm, hC, fun H1 e1 => ?_⟩
    have hp1 := e1 _ _ hp
    refine ⟨_, rfl, a, _, rfl, .inl (exl e1 hA), fun ol hol => ?_⟩
    have n1 : ol ≠ p := (ne_of_none hp1 hol).symm
    have k2 : KD p H (upd H1 ol (.lst (ls.map V.str))) := KD.ex (e1.trans (Ex.laid hol))
    refine ⟨_, rfl, p, _, dx, _, rfl, by rw [upd_ne n1.symm]; exact hp1, cl, c.noat ("Tables", "old_lines") (by decide +kernel), by decide, ?_⟩
    generalize hH3 : upd (upd H1 ol (.lst (ls.map V.str))) p _ = H3
    have k3 : KD p H H3 := by rw [← hH3]; exact k2.trans KD.upd
    have hp3 : H3 p = some (.ins (He.ga K "Tables") dx [("old_lines", .ref ol)]) := by rw [← hH3, upd_same]; rfl
    have ho3 : H3 ol = some (.lst (ls.map V.str)) := by rw [← hH3, upd_ne n1, upd_same]
    refine ⟨_, rfl, b, _, rfl, .inl (sql_kd k3 hp hB), fun nl hnl => ?_⟩
    have n2 : nl ≠ p := (ne_of_none hp3 hnl).symm
    have n3 : ol ≠ nl := ne_of_none ho3 hnl
    refine ⟨_, rfl, p, _, dx, _, rfl, by rw [upd_ne n2.symm]; exact hp3, cl, c.noat ("Tables", "new_lines") (by decide +kernel), by show 1 < 1000; decide, ?_⟩
    generalize hH4 : upd (upd H3 nl (.lst (ms.map V.str))) p _ = H4
    have k4 : KD p H H4 := by rw [← hH4]; exact (k3.trans (KD.ex (Ex.laid hnl))).trans KD.upd
    have hp4 : H4 p = some (.ins (He.ga K "Tables") dx [("old_lines", .ref ol), ("new_lines", .ref nl)]) := by rw [← hH4, upd_same]; rfl
    have ho4 : H4 ol = some (.lst (ls.map V.str)) := by rw [← hH4, upd_ne n1, upd_ne n3]; exact ho3
    have hn4 : H4 nl = some (.lst (ms.map V.str)) := by rw [← hH4, upd_ne n2, upd_same]
    refine ⟨_, rfl, _, rfl, p, _, dx, _, rfl, hp4, cl, c.noat ("Tables", "line_costs") (by decide +kernel), by show 2 < 1000; decide, ?_⟩
    generalize hH5 : upd H4 p _ = H5
    have k5 : KD p H H5 := by rw [← hH5]; exact k4.trans KD.upd
    have hp5 : H5 p = some (.ins (He.ga K "Tables") dx [("old_lines", .ref ol), ("new_lines", .ref nl), ("line_costs", .ref cp)]) := by rw [← hH5, upd_same]; rfl
    have ho5 : H5 ol = some (.lst (ls.map V.str)) := by rw [← hH5, upd_ne n1]; exact ho4
    have hn5 : H5 nl = some (.lst (ms.map V.str)) := by rw [← hH5, upd_ne n2]; exact hn4
    refine ⟨_, rfl, _, rfl, _, rfl, a, b, cp, ls, ms, gc, cc, rfl, sql_kd k5 hp hA, hl, sql_kd k5 hp hB, hm, hC.kd k5 hp, fun H6 T rs e6 hT hrl tab => ?_⟩
    have k6 : KD p H H6 := k5.trans (KD.ex e6)
    refine ⟨_, rfl, p, _, dx, _, rfl, e6 _ _ hp5, cl, c.noat ("Tables", "from_begin") (by decide +kernel), by show 3 < 1000; decide, ?_⟩
    have nT : T ≠ p := (ne_of_none hp5 hT).symm
    have nr : ∀ k r, rs[k]? = some r → r ≠ p := fun k r q => (ne_of_none hp5 (tab.row k r q).1).symm
    generalize hH7 : upd H6 p _ = H7
    have k7 : KD p H H7 := by rw [← hH7]; exact k6.trans KD.upd
    have hp7 : H7 p = some (.ins (He.ga K "Tables") dx [("old_lines", .ref ol), ("new_lines", .ref nl), ("line_costs", .ref cp), ("from_begin", .ref T)]) := by rw [← hH7, upd_same]; rfl
    have ho7 : H7 ol = some (.lst (ls.map V.str)) := by rw [← hH7, upd_ne n1]; exact e6 _ _ ho5
    have hn7 : H7 nl = some (.lst (ms.map V.str)) := by rw [← hH7, upd_ne n2]; exact e6 _ _ hn5
    have tab7 : TabF (fun i j => K34.Pd ls ms gc cc (i, j)) ls.length ms.length H7 T rs := ⟨by rw [← hH7, upd_ne nT]; exact tab.at_, hrl, fun k r q => by rw [← hH7, upd_ne (nr k r q)]; exact (tab.row k r q).2.2⟩
    refine ⟨_, rfl, _, rfl, _, rfl, a, b, cp, ls, ms, gc, cc, rfl, sql_kd k7 hp hA, hl, sql_kd k7 hp hB, hm, hC.kd k7 hp, fun H8 E' rs' e8 hE tabE => ?_⟩
    have k8 : KD p H H8 := k7.trans (KD.ex e8)
    refine ⟨_, rfl, p, _, dx, _, rfl, e8 _ _ hp7, cl, c.noat ("Tables", "to_end") (by decide +kernel), by show 4 < 1000; decide, ?_⟩
    have nE : E' ≠ p := (ne_of_none hp7 hE).symm
    have tab8 := tab7.ex e8
    have nr8 : ∀ {f : Nat → Nat → Int} {m n : Nat} {T : Addr} {rs : List Addr}, TabF f m n H8 T rs → T ≠ p → TabF f m n (upd H8 p (.ins (He.ga K "Tables") dx (tabFs ol nl cp T E'))) T rs → True := fun _ _ _ => trivial
    have row_ne : ∀ {f : Nat → Nat → Int} {m n : Nat} {T : Addr} {rs : List Addr} {o : HO}, TabF f m n H8 T rs → T ≠ p → TabF f m n (upd H8 p o) T rs := fun {f m n T rs o} tb hTp => ⟨by rw [upd_ne hTp]; exact tb.at_, tb.len, fun k r q => by
      have := tb.row k r q
      rw [upd_ne (by rintro rfl; rw [e8 _ _ hp7] at this; cases this)]
      exact this⟩
    refine k _ (k8.trans KD.upd) ⟨dx, ol, nl, cp, T, E', rs, rs', by rw [upd_same]; rfl, by rw [upd_ne n1]; exact e8 _ _ ho7, by rw [upd_ne n2]; exact e8 _ _ hn7, hC.kd (k8.trans KD.upd) hp, row_ne tab8 nT, row_ne tabE nE⟩
end
end L2.K4
end
section
set_option Elab.async false
set_option linter.all false
set_option maxRecDepth 100000
set_option maxHeartbeats 4000000
/-! Nested data in lists: in, not in. -/
namespace L2.K4
open PySem PySem.Spec PyProof.Rows
section
variable {X : Cx} {pins : List (Addr × Obj)} {σ : St} {H : Hp} {s : Shared}
theorem AtL.nested (I : Inv X pins σ H s) : ∀ {ks : List NK} {xs : List V} {us : List Value}, AtL X.K H ks xs → Vals xs us → NestedAll s.heap ks us
  | [], _, _, h, r => by rw [h.nil_inv] at r; cases r; exact .nil
  | k :: ks, _, _, h, r => by
    obtain ⟨y, ys, rfl, h1, h2⟩ := h.cons_inv
    cases r with
    | cons r1 r2 => exact .cons (At.nested I h1 r1) (AtL.nested I h2 r2)
theorem nestedAll_mem {h : Heap} : ∀ {ks : List NK} {us : List Value}, NestedAll h ks us → ∀ u ∈ us, ∃ k ∈ ks, NestedIs h k u
  | _, _, .nil, u, hu => by cases hu
  | k :: ks, _, .cons h1 h2, u, hu => by
    rcases List.mem_cons.mp hu with e | hu
    · subst e; exact ⟨k, List.mem_cons_self, h1⟩
    · obtain ⟨k', a, b⟩ := nestedAll_mem h2 u hu
      exact ⟨k', List.mem_cons_of_mem _ a, b⟩
theorem nestedAll_has {h : Heap} : ∀ {ks : List NK} {us : List Value}, NestedAll h ks us → ∀ k ∈ ks, ∃ u ∈ us, NestedIs h k u
  | _, _, .nil, u, hu => by cases hu
  | k :: ks, _, .cons h1 h2, u, hu => by
    rcases List.mem_cons.mp hu with e | hu
    · subst e; exact ⟨_, List.mem_cons_self, h1⟩
    · obtain ⟨k', a, b⟩ := nestedAll_has h2 u hu
      exact ⟨k', List.mem_cons_of_mem _ a, b⟩
def rInA (K : PySem.W.Frag) (neg : Bool) : R2 := fun x y H Q => ∃ a xs ks k, y = .ref a ∧ SqL K H a xs ∧ AtL K H ks xs ∧ At K H k x ∧ k.depth ≤ 60 ∧ Q (.bl (if neg then !decide (k ∈ ks) else decide (k ∈ ks))) H
open Classical in
theorem any_in {h : Heap} {ks : List NK} {its : List Value} {k : NK} (hn : NestedAll h ks its) : its.toArray.any (fun y => decide (NestedIs h k y)) = decide (k ∈ ks) := by
  rw [List.any_toArray, Bool.eq_iff_iff, List.any_eq_true, decide_eq_true_iff]
  constructor
  · rintro ⟨u, hu, hd⟩
    obtain ⟨k', hk', hn'⟩ := nestedAll_mem hn u hu
    rw [NestedIs.inj _ _ _ (of_decide_eq_true hd) hn']
    exact hk'
  · intro hk
    obtain ⟨u, hu, hn'⟩ := nestedAll_has hn k hk
    exact ⟨u, hu, decide_eq_true hn'⟩
open Classical in
theorem op_inA (hu : X.A.units + 64 < cLine) : OpR X (compareOp .In) (rInA X.K false) := by
  intro pins s σ H x y v u Q I rx ry ⟨a, xs, ks, k, ey, hS, hL, hk, hd, q⟩
  subst ey
  obtain rfl : u = Value.ref a := ry
  obtain ⟨its, rv, p, _⟩ := I.list hS
  have hn := AtL.nested I hL rv
  have hkn := At.nested I hk rx
  refine PySem.SeqAt.in_listAt (fun y => decide (NestedIs s.heap k y)) p.isList (fun y hy => ?_) ?_
  · obtain ⟨k', hk', hn'⟩ := nestedAll_mem hn y (by simpa using hy)
    refine PySem.SeqAt.EqAt.cast (eqAt_key k' k X.A.in1 s y v hn' hkn (by rw [Around.in1_units]; have := Nat.min_le_right k'.depth k.depth; omega)) ?_
    rw [← NestedKey.decide_eq]
    exact decide_eq_decide.mpr ⟨fun e => e ▸ hn', fun h => NestedIs.inj _ _ _ hn' h⟩
  · rw [any_in hn]
    exact ⟨.bl _, H, I, rfl, q⟩
open Classical in
theorem op_notInA (hu : X.A.units + 64 < cLine) : OpR X (compareOp .NotIn) (rInA X.K true) := by
  intro pins s σ H x y v u Q I rx ry ⟨a, xs, ks, k, ey, hS, hL, hk, hd, q⟩
  subst ey
  obtain rfl : u = Value.ref a := ry
  obtain ⟨its, rv, p, _⟩ := I.list hS
  have hn := AtL.nested I hL rv
  have hkn := At.nested I hk rx
  refine PySem.SeqAt.notIn_listAt (fun y => decide (NestedIs s.heap k y)) p.isList (fun y hy => ?_) ?_
  · obtain ⟨k', hk', hn'⟩ := nestedAll_mem hn y (by simpa using hy)
    refine PySem.SeqAt.EqAt.cast (eqAt_key k' k X.A.in1 s y v hn' hkn (by rw [Around.in1_units]; have := Nat.min_le_right k'.depth k.depth; omega)) ?_
    rw [← NestedKey.decide_eq]
    exact decide_eq_decide.mpr ⟨fun e => e ▸ hn', fun h => NestedIs.inj _ _ _ hn' h⟩
  · rw [any_in hn]
    exact ⟨.bl _, H, I, rfl, q⟩
end
end L2.K4
end
section
set_option Elab.async false
set_option linter.all false
set_option maxRecDepth 100000
set_option maxHeartbeats 4000000
/-! Tables, asked. -/
namespace L2.K4
open PySem PySem.Spec PyProof.Rows L2
section
variable {P : Program} {w : World} {K : PySem.W.Frag} {mg : Str → Option Value} {base : Heap}
def spTotal (K : PySem.W.Frag) : Sp := fun vs H Q _ => ∃ p ls ms gc cc, vs = [.ref p] ∧ TbA K H p ls ms gc cc ∧ Q (.int (K34.Dd ls ms gc cc)) H
theorem gt_total (c : Cf K mg) : Gt P w K mg base 1 "Tables" "total" (spTotal K) := by
  refine gt_of (N := ["self"]) (R_Tables_total c) ⟨rfl, rfl, rfl, by decide +kernel, rfl, by decide +kernel, by decide +kernel⟩ (fun _ _ _ _ _ _ us hl => match us, hl with | [_], _ => rfl) (fun vs H Q E h => ?_) (fun g cdv A outer s H vs Q E hr h => ?_)
  · obtain ⟨p, ls, ms, gc, cc, rfl, _⟩ := h; rfl
  · obtain ⟨p, ls, ms, gc, cc, rfl, ⟨dx, ol, nl, cp, T, E', rs, rs', tb⟩, k⟩ := h
    have cl := (c.cls "Tables" (by decide +kernel)).1
    refine ⟨_, pss_one (ps_ret (pe_ix ix_list (pe_ix ix_list (pe_fld (pv 0) rfl) pe_int (fun _ _ => rfl)) pe_int (fun _ _ => rfl))), ?_⟩
    obtain ⟨r, hr0⟩ : ∃ r, rs'[0]? = some r := ⟨_, List.getElem?_eq_getElem (by rw [tb.end_.len]; exact Nat.succ_pos _)⟩
    refine ⟨_, rfl, p, _, dx, _, _, rfl, tb.at_, cl, c.noat ("Tables", "to_end") (by decide +kernel), rfl, E', _, _, _, rfl, rfl, .inl (.inl tb.end_.at_), atI_nat (j := 0) (by rw [List.getElem?_map, hr0]; rfl), r, _, _, _, rfl, rfl, .inl (.inl (tb.end_.row 0 r hr0)), atI_nat (rowF_at (Nat.zero_le _)), k⟩
def spTable (K : PySem.W.Frag) (b : Bool) : Sp := fun vs H Q _ => ∃ p ls ms gc cc, vs = [.ref p] ∧ LOk ls ∧ TbA K H p ls ms gc cc ∧ ∀ H' T rs, Ex H H' → TabF (fun i j => if b then K34.Pd ls ms gc cc (i, j) else K34.Qd ls ms gc cc (i, j)) ls.length ms.length H' T rs → Q (.ref T) H'
/-- [list(row) for row in t] -/
theorem copy_rows {f : Nat → Nat → Int} {m n : Nat} {H : Hp} {T : Addr} {rs : List Addr} {σ : L2.St} {Q : VK} {vs : List Nat} {j : Nat} (tb : TabF f m n H T rs) (hm : m ≤ 4) (hj : ∀ x : V, ((wipe σ vs).set j (some x))[j]? = some (some x)) (hv : ∀ x : V, wipe ((wipe σ vs).set j (some x)) vs = wipe σ vs)
    (fin : ∀ H' D rs', Ex H H' → TabF f m n H' D rs' → Q (.ref D) H') :
    ∀ D, H D = none → ∃ W : Nat → Nat → Hp → Prop, (∃ m, W 0 m (upd H D (.lst []))) ∧ ∀ i m H, W i m H →
      ((Itl K T).stop i H ∧ Q (.ref D) H) ∨ ((Itl K T).go i H ∧ ∃ Nx : Hp → Prop, (∀ H', Nx H' → ∃ m', m' < m ∧ W (i + 1) m' H') ∧ ∀ x H', (Itl K T).yld i H x H' → gName j x (wipe σ vs) H' fun σ2 H2 => wipe σ2 vs = wipe σ vs ∧ tYes σ2 H2 fun b H3 =>
        if b = true then tCB (Evl.rListS K) (tCons (tVar j) tNil) σ2 H3 fun y H4 => ∃ acc, H4 D = some (.lst acc) ∧ acc.length < sizeLine ∧ Nx (upd H4 D (.lst (acc ++ [y]))) else Nx H3) := by
  intro D hD
  have hl : (rs.map V.ref).length = m + 1 := by rw [List.length_map, tb.len]
  refine lcG (n := (rs.map V.ref).length) (Y := fun i x _ => (rs.map V.ref)[i]? = some x) hD (fun i => some i) (LsD fun (i : Nat) xs _ => xs = rowF (f i) n) (LsD.mono fun _ _ _ _ _ h => h) (by rw [hl]; exact Nat.lt_of_le_of_lt (show m + 1 ≤ 5 by omega) (by decide))
    (fun H' e => sw_list (.inl (.inl (e _ _ tb.at_)))) (fun i x H2 zs hi e6 hx hDl Q2 q2 => ?_) fun H2 ys e6 h2 hpp => ?_
  · rw [List.getElem?_map] at hx
    cases hk : rs[i]? with
    | none => rw [hk] at hx; cases hx
    | some r =>
      rw [hk] at hx
      cases hx
      refine ⟨hv _, _, hj _, r, _, rfl, .inl (.inl (.inl (e6 _ _ (tb.row i r hk)))), fun p' hp' => ?_⟩
      have nD : p' ≠ D := fun q => by rw [q, hDl] at hp'; cases hp'
      exact q2 (some (.ref p')) _ (Ex.laid hp') ⟨p', _, rfl, nD, upd_same, rfl⟩
  · obtain ⟨rs', e7, hl7, h7⟩ := LsD.all hpp
    rw [made_some, List.length_range, hl] at hl7
    refine fin H2 D rs' e6 ⟨by rw [h2, e7], hl7, fun kk r hr' => ?_⟩
    have hlt : kk < m + 1 := by rw [← hl7]; exact (List.getElem?_eq_some_iff.mp hr').1
    obtain ⟨_, xs, g1, g2⟩ := h7 kk kk r (by rw [made_some, List.getElem?_range (by rw [hl]; exact hlt)]) hr'
    rw [g1, g2]
theorem call_listS {X : Cx} : CallR X (.type "list") (Evl.rListS X.K) := call_list_of
theorem gt_begin_table (c : Cf K mg) : Gt P w K mg base 1 "Tables" "begin_table" (spTable K true) := by
  have nd : (["self", "row"] : List Str).Nodup := by decide +kernel
  refine gt_of (N := ["self", "row"]) (R_Tables_begin_table c) ⟨rfl, rfl, rfl, nd, rfl, by decide +kernel, by decide +kernel⟩ (fun _ _ _ _ _ _ us hl => match us, hl with | [_], _ => rfl) (fun vs H Q E h => ?_) (fun g cdv A outer s H vs Q E hr h => ?_)
  · obtain ⟨p, ls, ms, gc, cc, rfl, _⟩ := h; rfl
  · obtain ⟨p, ls, ms, gc, cc, rfl, hl, ⟨dx, ol, nl, cp, T, E', rs, rs', tb⟩, k⟩ := h
    have cl := (c.cls "Tables" (by decide +kernel)).1
    refine ⟨_, pss_one (ps_ret (pe_lc (own := [("row", 1)]) (g := gName 1) (tt := tYes) (te := tCB (Evl.rListS K) (tCons (tVar 1) tNil)) rfl nd (pi_list (pe_fld (pv 0) rfl)) (blkOk_by (N := ["self", "row"]) (sc := defScope s_Tables_begin_table) (by decide +kernel)) (fun _ _ _ _ _ => pg_name (i := 1) nd rfl (Or.inl rfl)) (fun _ _ _ _ _ => pts_nil)
      (fun _ _ _ _ _ => pe_callTy call_listS (by rfl) (c.free "list" (by decide +kernel)) (by decide +kernel) (pa_cons (pv 1) pa_nil)))), ?_⟩
    refine ⟨_, rfl, p, _, dx, _, _, rfl, tb.at_, cl, c.noat ("Tables", "from_begin") (by decide +kernel), rfl, T, rfl, ⟨_, .inl (.inl tb.beg.at_)⟩, ?_⟩
    exact copy_rows tb.beg hl.1 (fun _ => rfl) (fun _ => rfl) fun H' D rs2 e t2 => k H' D rs2 e t2
theorem gt_end_table (c : Cf K mg) : Gt P w K mg base 1 "Tables" "end_table" (spTable K false) := by
  have nd : (["self", "row"] : List Str).Nodup := by decide +kernel
  refine gt_of (N := ["self", "row"]) (R_Tables_end_table c) ⟨rfl, rfl, rfl, nd, rfl, by decide +kernel, by decide +kernel⟩ (fun _ _ _ _ _ _ us hl => match us, hl with | [_], _ => rfl) (fun vs H Q E h => ?_) (fun g cdv A outer s H vs Q E hr h => ?_)
  · obtain ⟨p, ls, ms, gc, cc, rfl, _⟩ := h; rfl
  · obtain ⟨p, ls, ms, gc, cc, rfl, hl, ⟨dx, ol, nl, cp, T, E', rs, rs', tb⟩, k⟩ := h
    have cl := (c.cls "Tables" (by decide +kernel)).1
    refine ⟨_, pss_one (ps_ret (pe_lc (own := [("row", 1)]) (g := gName 1) (tt := tYes) (te := tCB (Evl.rListS K) (tCons (tVar 1) tNil)) rfl nd (pi_list (pe_fld (pv 0) rfl)) (blkOk_by (N := ["self", "row"]) (sc := defScope s_Tables_end_table) (by decide +kernel)) (fun _ _ _ _ _ => pg_name (i := 1) nd rfl (Or.inl rfl)) (fun _ _ _ _ _ => pts_nil)
      (fun _ _ _ _ _ => pe_callTy call_listS (by rfl) (c.free "list" (by decide +kernel)) (by decide +kernel) (pa_cons (pv 1) pa_nil)))), ?_⟩
    refine ⟨_, rfl, p, _, dx, _, _, rfl, tb.at_, cl, c.noat ("Tables", "to_end") (by decide +kernel), rfl, E', rfl, ⟨_, .inl (.inl tb.end_.at_)⟩, ?_⟩
    exact copy_rows tb.end_ hl.1 (fun _ => rfl) (fun _ => rfl) fun H' D rs2 e t2 => k H' D rs2 e t2
/-! ### check_place, slack -/
def inB (ls ms : List Str) (x : Pl) : Prop := x.1 ≤ ls.length ∧ x.2 ≤ ms.length
def spCheckPlace (K : PySem.W.Frag) : Sp := fun vs H Q _ => ∃ p v x ls ms gc cc, vs = [.ref p, v] ∧ TbA K H p ls ms gc cc ∧ At K H (plK x) v ∧ inB ls ms x ∧ Q .non H
theorem ok_check_place (c : Cf K mg) : Kp P w K mg base 3 (He.ma K (He.ga K "Tables") "check_place") (spCheckPlace K) := by
  obtain ⟨fd, F⟩ := F_Tables_check_place c
  refine kp_of F (N := ["self", "value"]) (ps := ["self", "value"]) ⟨rfl, rfl, rfl, by decide +kernel, rfl, by decide +kernel, by decide +kernel⟩ (F.bindsN fun _ _ _ _ _ _ us hl => match us, hl with | [_, _], _ => rfl) (fun vs H Q E h => ?_) (fun cdv A outer s H vs Q E hr h => ?_)
  · obtain ⟨p, v, x, ls, ms, gc, cc, rfl, _⟩ := h; rfl
  · obtain ⟨p, v, x, ls, ms, gc, cc, rfl, ⟨dx, ol, nl, cp, T, E', rs, rs', tb⟩, hx, ⟨h1, h2⟩, k⟩ := h
    have cl := (c.cls "Tables" (by decide +kernel)).1
    refine ⟨_, pss_one (ps_if (pt_not (pt_val (pe_cal c (ok_is_place c) hr (pa_cons (pe_fld (pv 0) rfl) (pa_cons (pe_fld (pv 0) rfl) (pa_cons (pv 1) pa_nil)))))) (pss_one ps_never) pss_nil), ?_⟩
    refine ⟨_, rfl, p, _, dx, _, _, rfl, tb.at_, cl, c.noat ("Tables", "old_lines") (by decide +kernel), rfl, _, rfl, p, _, dx, _, _, rfl, tb.at_, cl, c.noat ("Tables", "new_lines") (by decide +kernel), rfl, _, rfl, ol, nl, v, _, _, x, rfl, .inl (.inl tb.old), .inl (.inl tb.new), hx, by rw [List.length_map]; exact h1, by rw [List.length_map]; exact h2, true, rfl, iteF k⟩
end
end L2.K4
end
section
set_option Elab.async false
set_option linter.all false
set_option maxRecDepth 100000
set_option maxHeartbeats 4000000
/-! Slack. -/
namespace L2.K4
open PySem PySem.Spec PyProof.Rows L2
section
variable {P : Program} {w : World} {K : PySem.W.Frag} {mg : Str → Option Value} {base : Heap}
theorem plK_depth (y : Pl) : (plK y).depth ≤ 8 := by unfold plK; simp [NestedKey.depth, NestedKey.depthAll]
theorem plK_mem {xs : List Pl} {y : Pl} (h : y ∈ xs) : plK y ∈ xs.map plK := List.mem_map_of_mem h
def spSlack (K : PySem.W.Frag) : Sp := fun vs H Q _ => ∃ p v u x y ls ms gc cc, vs = [.ref p, v, u] ∧ TbA K H p ls ms gc cc ∧ LOk ls ∧ LOk ms ∧ At K H (plK x) v ∧ At K H (plK y) u ∧ inB ls ms x ∧ y ∈ K34.nxt ls ms x ∧
  ∀ H', Ex H H' → Q (.int (K34.Pd ls ms gc cc x + K34.cost ls ms gc cc x y + K34.Qd ls ms gc cc y - K34.Dd ls ms gc cc)) H'
theorem ok_slack (c : Cf K mg) : Kp P w K mg base 6 (He.ma K (He.ga K "Tables") "slack") (spSlack K) := by
  obtain ⟨fd, F⟩ := F_Tables_slack c
  have nd : (["self", "one", "other", "ahead", "cost"] : List Str).Nodup := by decide +kernel
  refine kp_of F (N := ["self", "one", "other", "ahead", "cost"]) (ps := ["self", "one", "other"]) ⟨rfl, rfl, rfl, nd, rfl, by decide +kernel, by decide +kernel⟩ (F.bindsN fun _ _ _ _ _ _ us hl => match us, hl with | [_, _, _], _ => rfl) (fun vs H Q E h => ?_) (fun cdv A outer s H vs Q E hr h => ?_)
  · obtain ⟨p, v, u, x, y, ls, ms, gc, cc, rfl, _⟩ := h; rfl
  · obtain ⟨p, v, u, x, y, ls, ms, gc, cc, rfl, ⟨dx, ol, nl, cp, T, E', rs, rs', tb⟩, hl, hm, hx, hy, hbx, hn, k⟩ := h
    have cl := (c.cls "Tables" (by decide +kernel)).1
    have TA : TbA K H p ls ms gc cc := ⟨dx, ol, nl, cp, T, E', rs, rs', tb⟩
    have hby : inB ls ms y := K34.nxt_in ls ms hbx hn
    refine ⟨_, pss_cons (ps_expr (pe_met c (C := "Tables") (ok_check_place c) hr (pv 0) (pa_cons (pv 1) pa_nil)))
      (pss_cons (ps_expr (pe_met c (C := "Tables") (ok_check_place c) hr (pv 0) (pa_cons (pv 2) pa_nil)))
      (pss_cons (ps_if (pt_cmpR (op_notInA hr.units) (pv 2) (pe_cal c (ok_next_places c) hr (pa_cons (pe_fld (pv 0) rfl) (pa_cons (pe_fld (pv 0) rfl) (pa_cons (pv 1) pa_nil)))) (by rfl)) (pss_one ps_never) pss_nil)
      (pss_cons (ps_set (i := 3) nd rfl (.inl rfl) (pe_ix ix_list (pe_ix ix_list (pe_fld (pv 0) rfl) (pe_ix ix_tup (pv 1) pe_int (fun _ _ => rfl)) (fun _ _ => rfl)) (pe_ix ix_tup (pv 1) pe_int (fun _ _ => rfl)) (fun _ _ => rfl)))
      (pss_cons (ps_set (i := 4) nd rfl (.inl rfl) (pe_cal c (ok_step_cost c) hr (pa_cons (pe_fld (pv 0) rfl) (pa_cons (pe_fld (pv 0) rfl) (pa_cons (pe_fld (pv 0) rfl) (pa_cons (pv 1) (pa_cons (pv 2) pa_nil)))))))
      (pss_one (ps_ret (pe_op op_sub (pe_op op_add (pe_op op_add (pv 3) (pv 4)) (pe_ix ix_list (pe_ix ix_list (pe_fld (pv 0) rfl) (pe_ix ix_tup (pv 2) pe_int (fun _ _ => rfl)) (fun _ _ => rfl)) (pe_ix ix_tup (pv 2) pe_int (fun _ _ => rfl)) (fun _ _ => rfl)))
        (pe_prp c (C := "Tables") (gt_total c) hr (pv 0))))))))), ?_⟩
    refine ⟨_, rfl, p, dx, _, rfl, tb.at_, rfl, _, rfl, p, v, x, ls, ms, gc, cc, rfl, TA, hx, hbx, ?_⟩
    refine ⟨_, rfl, p, dx, _, rfl, tb.at_, rfl, _, rfl, p, u, y, ls, ms, gc, cc, rfl, TA, hy, hby, ?_⟩
    refine ⟨_, rfl, _, rfl, p, _, dx, _, _, rfl, tb.at_, cl, c.noat ("Tables", "old_lines") (by decide +kernel), rfl, _, rfl, p, _, dx, _, _, rfl, tb.at_, cl, c.noat ("Tables", "new_lines") (by decide +kernel), rfl, _, rfl, ol, nl, v, ls, ms, x, rfl, .inl (.inl tb.old), .inl (.inl tb.new), hx, fun H1 l xs e1 hl0 h1 hat => ?_⟩
    have tb1 := tb.ex e1
    refine ⟨l, xs, _, plK y, rfl, .inl (.inl h1), hat, At.keep (Ex.tk e1) _ _ hy, Nat.le_trans (plK_depth y) (by decide), _, rfl, ?_⟩
    rw [decide_eq_true (plK_mem hn)]
    obtain ⟨t, rfl, ht⟩ := at_pl (At.keep (Ex.tk e1) _ _ hx)
    obtain ⟨t', rfl, ht'⟩ := at_pl (At.keep (Ex.tk e1) _ _ hy)
    obtain ⟨r, hr1⟩ : ∃ r, rs[x.1]? = some r := ⟨_, List.getElem?_eq_getElem (by rw [tb.beg.len]; exact Nat.lt_succ_of_le hbx.1)⟩
    obtain ⟨r', hr2⟩ : ∃ r, rs'[y.1]? = some r := ⟨_, List.getElem?_eq_getElem (by rw [tb.end_.len]; exact Nat.lt_succ_of_le hby.1)⟩
    refine iteF ⟨_, rfl, p, _, dx, _, _, rfl, tb1.at_, cl, c.noat ("Tables", "from_begin") (by decide +kernel), rfl, _, rfl, t, _, _, _, rfl, rfl, ht, atI_nat (xs := plV x) (j := 0) rfl, T, _, _, _, rfl, rfl, .inl (.inl tb1.beg.at_), atI_nat (by rw [List.getElem?_map, hr1]; rfl), _, rfl, t, _, _, _, rfl, rfl, ht, atI_nat (xs := plV x) (j := 1) rfl,
      r, _, _, _, rfl, rfl, .inl (.inl (tb1.beg.row _ r hr1)), atI_nat (rowF_at hbx.2), ?_⟩
    refine ⟨_, rfl, p, _, dx, _, _, rfl, tb1.at_, cl, c.noat ("Tables", "old_lines") (by decide +kernel), rfl, _, rfl, p, _, dx, _, _, rfl, tb1.at_, cl, c.noat ("Tables", "new_lines") (by decide +kernel), rfl, _, rfl, p, _, dx, _, _, rfl, tb1.at_, cl, c.noat ("Tables", "line_costs") (by decide +kernel), rfl, _, rfl, _, rfl,
      ol, nl, cp, _, _, ls, ms, gc, cc, x, y, rfl, .inl (.inl tb1.old), hl, .inl (.inl tb1.new), hm, tb1.cost, pl_at ht, pl_at ht', hn, ?_⟩
    refine ⟨_, rfl, _, rfl, _, _, rfl, rfl, _, rfl, p, _, dx, _, _, rfl, tb1.at_, cl, c.noat ("Tables", "to_end") (by decide +kernel), rfl, _, rfl, t', _, _, _, rfl, rfl, ht', atI_nat (xs := plV y) (j := 0) rfl, E', _, _, _, rfl, rfl, .inl (.inl tb1.end_.at_), atI_nat (by rw [List.getElem?_map, hr2]; rfl), _, rfl, t', _, _, _, rfl, rfl, ht', atI_nat (xs := plV y) (j := 1) rfl,
      r', _, _, _, rfl, rfl, .inl (.inl (tb1.end_.row _ r' hr2)), atI_nat (rowF_at hby.2), _, _, rfl, rfl, _, rfl, p, dx, _, rfl, tb1.at_, p, ls, ms, gc, cc, rfl, ⟨dx, ol, nl, cp, T, E', rs, rs', tb1⟩, _, _, rfl, rfl, ?_⟩
    exact k H1 e1
end
end L2.K4
end
section
set_option Elab.async false
set_option linter.all false
set_option maxRecDepth 100000
set_option maxHeartbeats 4000000
/-! A run that could not have woken the sleeping generators leaves them as they are. -/
namespace L2.K4
open PySem
open Sem (wp)

/-- a sleeper that cannot be woken, and looks alike -/
def stuck : GenState → GenState
  | .suspended _ l c p fs cl => .suspended (fun _ => .unsupported "sleeps") l c p fs cl
  | x => x
def sleeps : GenState → Bool
  | .suspended .. => true
  | _ => false
def tidy : GenState → Prop
  | .suspended _ _ _ _ fs _ => splitAtGen fs = none
  | _ => True
theorem stuck_seen (x : GenState) : (stuck x).seen = x.seen := by cases x <;> rfl
def Hid (G : Array GenState) (i : Nat) : Prop := ∃ y, G[i]? = some y ∧ sleeps y = true
/-- a: the run's own table; b: the true one; G: the table at the start -/
structure Rl (G a b : Array GenState) : Prop where
  size : a.size = b.size
  hid : ∀ (i : Nat) (y : GenState), G[i]? = some y → sleeps y = true → a[i]? = some (stuck y) ∧ b[i]? = some y
  same : ∀ (i : Nat), ¬ Hid G i → a[i]? = b[i]? ∧ ∀ y, a[i]? = some y → tidy y

theorem Rl.start {G : Array GenState} : Rl G (G.map stuck) G := by
  refine ⟨by simp, fun i y h _ => ⟨by rw [Array.getElem?_map, h]; rfl, h⟩, fun i h => ?_⟩
  rw [Array.getElem?_map]
  cases e : G[i]? with
  | none => exact ⟨rfl, fun y hy => by cases hy⟩
  | some y =>
    have hs : sleeps y = false := by
      cases hs : sleeps y with
      | false => rfl
      | true => exact absurd ⟨y, e, hs⟩ h
    cases y with
    | suspended => cases hs
    | fresh c => exact ⟨rfl, fun z hz => by cases hz; exact True.intro⟩
    | running => exact ⟨rfl, fun z hz => by cases hz; exact True.intro⟩
    | finished => exact ⟨rfl, fun z hz => by cases hz; exact True.intro⟩
theorem Rl.seen {G a b : Array GenState} (r : Rl G a b) {g : Nat} {st : GenState} (h : a[g]? = some st) : ∃ st', b[g]? = some st' ∧ st'.seen = st.seen := by
  by_cases hh : Hid G g
  · obtain ⟨y, h1, h2⟩ := hh
    obtain ⟨q1, q2⟩ := r.hid g y h1 h2
    rw [h] at q1; cases q1
    exact ⟨y, q2, (stuck_seen y).symm⟩
  · exact ⟨st, by rw [← (r.same g hh).1]; exact h, rfl⟩
theorem Rl.push {G a b : Array GenState} (r : Rl G a b) (c : Code) : Rl G (a.push (.fresh c)) (b.push (.fresh c)) := by
  refine ⟨by simp [r.size], fun i y h1 h2 => ?_, fun i hh => ?_⟩
  · obtain ⟨q1, q2⟩ := r.hid i y h1 h2
    have l1 : i < a.size := (Array.getElem?_eq_some_iff.mp q1).1
    have l2 : i < b.size := (Array.getElem?_eq_some_iff.mp q2).1
    rw [Array.getElem?_push, Array.getElem?_push, if_neg (by omega), if_neg (by omega)]
    exact ⟨q1, q2⟩
  · rw [Array.getElem?_push, Array.getElem?_push, r.size]
    by_cases e : i = b.size
    · rw [if_pos e, if_pos e]
      exact ⟨rfl, fun y hy => by cases hy; exact True.intro⟩
    · rw [if_neg e, if_neg e]
      exact r.same i hh
theorem Rl.set {G a b : Array GenState} (r : Rl G a b) {g : Nat} (hg : ¬ Hid G g) {x : GenState} (hx : tidy x) : Rl G (a.setIfInBounds g x) (b.setIfInBounds g x) := by
  refine ⟨by simp [r.size], fun i y h1 h2 => ?_, fun i hh => ?_⟩
  · have ne : g ≠ i := fun e => hg (e ▸ ⟨y, h1, h2⟩)
    rw [Array.getElem?_setIfInBounds_ne ne, Array.getElem?_setIfInBounds_ne ne]
    exact r.hid i y h1 h2
  · by_cases e : g = i
    · subst e
      by_cases l : g < a.size
      · rw [Array.getElem?_setIfInBounds_self_of_lt l, Array.getElem?_setIfInBounds_self_of_lt (by rw [← r.size]; exact l)]
        exact ⟨rfl, fun y hy => by cases hy; exact hx⟩
      · rw [Array.getElem?_eq_none (by simp; omega), Array.getElem?_eq_none (by simp; rw [← r.size]; omega)]
        exact ⟨rfl, fun y hy => by cases hy⟩
    · rw [Array.getElem?_setIfInBounds_ne e, Array.getElem?_setIfInBounds_ne e]
      exact r.same i hh

theorem Rl.awake {G a b : Array GenState} (r : Rl G a b) {g : Nat} {st : GenState} (h : a[g]? = some st) (hs : sleeps st = false) : ¬ Hid G g ∧ b[g]? = some st := by
  have nh : ¬ Hid G g := by
    rintro ⟨z, h1, h2⟩
    have q := (r.hid g z h1 h2).1
    rw [h] at q
    cases q
    cases z <;> cases h2 <;> cases hs
  exact ⟨nh, by rw [← (r.same g nh).1]; exact h⟩
def tidyE : End → Prop
  | .ret _ => True
  | .susp _ _ _ _ _ _ fs => splitAtGen fs = none
theorem tidyE.state {e : End} (h : tidyE e) : tidy e.genState := by cases e <;> exact h
variable {M : Model}
theorem none_app {a c : List Frame} (h1 : splitAtGen a = none) (h2 : splitAtGen c = none) : splitAtGen (a ++ c) = none := by
  rw [splitAtGen_append_none c h1, h2]; rfl
theorem none_tail {k h g l c p kp} {fs : List Frame} (hh : splitAtGen (.ret k h g l c p kp :: fs) = none) : splitAtGen fs = none := by
  rw [splitAtGen_ret] at hh
  cases e : splitAtGen fs with
  | none => rfl
  | some x => rw [e] at hh; cases hh

theorem no_unsup {Γ : Ctx} {p : Pos} {t : Sem PySem.Fin} {fs : List Frame} {s s' : Shared} {e : End} (h : Runs M Γ p t fs s e s') : ∀ w, t ≠ .unsupported w := by
  induction h with
  | segRet _ _ ih _ => exact ih
  | segGen _ _ ih _ => exact ih
  | segSuspOut _ _ ih => exact ih
  | segSuspGen _ _ _ _ ih _ => exact ih
  | _ => intro w z; cases z

/-- the run from the stuck table is a run from the true one -/
theorem sim {G : Array GenState} {Γ : Ctx} {p : Pos} {t : Sem PySem.Fin} {fs : List Frame} {s s' : Shared} {e : End} (h : Runs M Γ p t fs s e s') : splitAtGen fs = none → ∀ b, Rl G s.gens b →
    ∃ b', Runs M Γ p t fs { s with gens := b } e { s' with gens := b' } ∧ Rl G s'.gens b' ∧ tidyE e := by
  induction h with
  | done => intro _ b r; exact ⟨b, .done, r, True.intro⟩
  | raise => intro _ b r; exact ⟨b, .raise, r, True.intro⟩
  | again hq _ ih => intro hf b r; obtain ⟨b', x, y, z⟩ := ih hf b r; exact ⟨b', .again hq x, y, z⟩
  | rule _ ih => intro hf b r; obtain ⟨b', x, y, z⟩ := ih hf b r; exact ⟨b', .rule x, y, z⟩
  | «at» _ ih => intro hf b r; obtain ⟨b', x, y, z⟩ := ih hf b r; exact ⟨b', .at x, y, z⟩
  | load ho _ ih => intro hf b r; obtain ⟨b', x, y, z⟩ := ih hf b r; exact ⟨b', .load ho x, y, z⟩
  | update ho _ ih => intro hf b r; obtain ⟨b', x, y, z⟩ := ih hf b r; exact ⟨b', .update ho x, y, z⟩
  | loadIfAlive _ ih => intro hf b r; obtain ⟨b', x, y, z⟩ := ih hf b r; exact ⟨b', .loadIfAlive x, y, z⟩
  | point _ ih => intro hf b r; obtain ⟨b', x, y, z⟩ := ih hf b r; exact ⟨b', .point x, y, z⟩
  | alloc _ ih => intro hf b r; obtain ⟨b', x, y, z⟩ := ih hf b r; exact ⟨b', .alloc x, y, z⟩
  | fresh _ ih => intro hf b r; obtain ⟨b', x, y, z⟩ := ih hf b r; exact ⟨b', .fresh x, y, z⟩
  | ask _ ih => intro hf b r; obtain ⟨b', x, y, z⟩ := ih hf b r; exact ⟨b', .ask x, y, z⟩
  | choose hn _ ih => intro hf b r; obtain ⟨b', x, y, z⟩ := ih hf b r; exact ⟨b', .choose hn x, y, z⟩
  | os _ ih => intro hf b r; obtain ⟨b', x, y, z⟩ := ih hf b r; exact ⟨b', .os x, y, z⟩
  | handled _ ih => intro hf b r; obtain ⟨b', x, y, z⟩ := ih hf b r; exact ⟨b', .handled x, y, z⟩
  | stack _ ih => intro hf b r; obtain ⟨b', x, y, z⟩ := ih hf b r; exact ⟨b', .stack x, y, z⟩
  | thread _ ih => intro hf b r; obtain ⟨b', x, y, z⟩ := ih hf b r; exact ⟨b', .thread x, y, z⟩
  | @genState s g st Γ p k e s' hg _ ih =>
    intro hf b r
    obtain ⟨st', q1, q2⟩ := r.seen hg
    obtain ⟨b', x, y, z⟩ := ih hf b r
    exact ⟨b', .genState (st := st') q1 (by rw [q2]; exact x), y, z⟩
  | newGen _ ih =>
    intro hf b r
    obtain ⟨b', x, y, z⟩ := ih hf (b.push _) (r.push _)
    refine ⟨b', .newGen ?_, y, z⟩
    rw [r.size] at x
    exact x
  | call _ _ ih1 ih2 =>
    intro hf b r
    obtain ⟨b1, x1, y1, _⟩ := ih1 rfl b r
    obtain ⟨b2, x2, y2, z2⟩ := ih2 hf b1 y1
    exact ⟨b2, .call x1 x2, y2, z2⟩
  | callSusp _ ih =>
    intro hf b r
    obtain ⟨b1, x1, y1, z1⟩ := ih rfl b r
    exact ⟨b1, .callSusp x1, y1, none_app z1 rfl⟩
  | yield => intro hf b r; exact ⟨b, .yield, r, rfl⟩
  | resumeFresh hg _ hq _ ih1 ih2 =>
    intro hf b r
    obtain ⟨nh, hb⟩ := r.awake hg rfl
    obtain ⟨b1, x1, y1, z1⟩ := ih1 rfl (b.setIfInBounds _ .running) (r.set nh True.intro)
    obtain ⟨b2, x2, y2, z2⟩ := ih2 hf (b1.setIfInBounds _ _) (y1.set nh z1.state)
    exact ⟨b2, .resumeFresh hb x1 hq x2, y2, z2⟩
  | @resumeSuspended Γ p g rr l k s k₀ l₀ c₀ p₀ fs cl e₁ s₁ e s' hg hr1 hq _ ih1 ih2 =>
    intro hf b r
    by_cases hh : Hid G g
    · exfalso
      obtain ⟨y, h1, h2⟩ := hh
      have := (r.hid g y h1 h2).1
      rw [hg] at this
      cases y with
      | suspended =>
        cases this
        exact no_unsup hr1 _ rfl
      | fresh => cases h2
      | running => cases h2
      | finished => cases h2
    · have hb : b[g]? = some (.suspended k₀ l₀ c₀ p₀ fs cl) := by rw [← (r.same g hh).1]; exact hg
      have hfs : splitAtGen fs = none := (r.same g hh).2 _ hg
      obtain ⟨b1, x1, y1, z1⟩ := ih1 hfs (b.setIfInBounds g .running) (r.set hh True.intro)
      obtain ⟨b2, x2, y2, z2⟩ := ih2 hf (b1.setIfInBounds g e₁.genState) (y1.set hh z1.state)
      exact ⟨b2, .resumeSuspended (s₁ := { s₁ with gens := b1 }) hb x1 hq x2, y2, z2⟩
  | resumeJustStarted hg hv _ ih =>
    intro hf b r
    obtain ⟨nh, hb⟩ := r.awake hg rfl
    obtain ⟨b', x, y, z⟩ := ih hf b r
    exact ⟨b', .resumeJustStarted hb hv x, y, z⟩
  | resumeThrowFresh hg _ ih =>
    intro hf b r
    obtain ⟨nh, hb⟩ := r.awake hg rfl
    obtain ⟨b', x, y, z⟩ := ih hf (b.setIfInBounds _ .finished) (r.set nh True.intro)
    exact ⟨b', .resumeThrowFresh hb x, y, z⟩
  | resumeRunning hg _ ih =>
    intro hf b r
    obtain ⟨nh, hb⟩ := r.awake hg rfl
    obtain ⟨b', x, y, z⟩ := ih hf b r
    exact ⟨b', .resumeRunning hb x, y, z⟩
  | resumeFinished hg _ ih =>
    intro hf b r
    obtain ⟨nh, hb⟩ := r.awake hg rfl
    obtain ⟨b', x, y, z⟩ := ih hf b r
    exact ⟨b', .resumeFinished hb x, y, z⟩
  | segRet _ _ ih1 ih2 =>
    intro hf b r
    obtain ⟨b1, x1, y1, _⟩ := ih1 rfl b r
    obtain ⟨b2, x2, y2, z2⟩ := ih2 (none_tail hf) b1 y1
    exact ⟨b2, .segRet x1 x2, y2, z2⟩
  | segGen _ _ _ _ => intro hf; rw [splitAtGen_gen] at hf; cases hf
  | segSuspOut hs _ ih =>
    intro hf b r
    obtain ⟨b1, x1, y1, z1⟩ := ih rfl b r
    exact ⟨b1, .segSuspOut hs x1, y1, none_app z1 hf⟩
  | segSuspGen hs _ _ _ _ _ => intro hf; rw [hf] at hs; cases hs

theorem sim_wakes {G : Array GenState} {Γ : Ctx} {p : Pos} {g : Nat} {r : Resume} {s s' : Shared} {res : GenResult} (h : Wakes M Γ p g r s res s') {b : Array GenState} (rl : Rl G s.gens b) :
    ∃ b', Wakes M Γ p g r { s with gens := b } res { s' with gens := b' } ∧ Rl G s'.gens b' := by
  unfold Wakes at h
  cases hg : s.gens[g]? with
  | none => rw [hg] at h; exact h.elim
  | some y =>
    rw [hg] at h
    have nhid : sleeps y = false → ¬ Hid G g := by
      rintro hs ⟨z, h1, h2⟩
      have := (rl.hid g z h1 h2).1
      rw [hg] at this
      cases this
      cases z <;> cases h2 <;> cases hs
    cases y with
    | fresh c =>
      have nh := nhid rfl
      have hb : ({ s with gens := b } : Shared).gens[g]? = some (.fresh c) := by rw [← hg]; exact (rl.same g nh).1.symm
      unfold Wakes
      rw [hb]
      cases r with
      | throw x =>
        obtain ⟨h1, h2⟩ := h
        subst h2
        exact ⟨b.setIfInBounds g .finished, ⟨h1, rfl⟩, rl.set nh True.intro⟩
      | send v =>
        have key : (∃ e₁ s₁, Runs M (Γ.wake c p) p (M.den c) [] (s.setGen g .running) e₁ s₁ ∧ e₁.quiet = true ∧ res = e₁.result ∧ s' = s₁.setGen g e₁.genState) →
            ∃ b', (∃ e₁ s₁, Runs M (Γ.wake c p) p (M.den c) [] (({ s with gens := b } : Shared).setGen g .running) e₁ s₁ ∧ e₁.quiet = true ∧ res = e₁.result ∧ ({ s' with gens := b' } : Shared) = s₁.setGen g e₁.genState) ∧ Rl G s'.gens b' := by
          rintro ⟨e₁, s₁, h1, h2, h3, rfl⟩
          obtain ⟨b1, x1, y1, z1⟩ := sim h1 rfl (b.setIfInBounds g .running) (rl.set nh True.intro)
          exact ⟨b1.setIfInBounds g e₁.genState, ⟨e₁, { s₁ with gens := b1 }, x1, h2, h3, rfl⟩, y1.set nh z1.state⟩
        have other : (res = .justStarted ∧ s' = s) → ∃ b', (res = .justStarted ∧ ({ s' with gens := b' } : Shared) = { s with gens := b }) ∧ Rl G s'.gens b' := by
          rintro ⟨h1, rfl⟩
          exact ⟨b, ⟨h1, rfl⟩, rl⟩
        cases v <;> first | exact key h | exact other h
    | suspended k l c q fs cl =>
      by_cases hh : Hid G g
      · exfalso
        obtain ⟨z, h1, h2⟩ := hh
        have := (rl.hid g z h1 h2).1
        rw [hg] at this
        cases z with
        | suspended =>
          cases this
          obtain ⟨e₁, s₁, hr, _⟩ := h
          exact no_unsup hr _ rfl
        | fresh => cases h2
        | running => cases h2
        | finished => cases h2
      · have hb : ({ s with gens := b } : Shared).gens[g]? = some (.suspended k l c q fs cl) := by rw [← hg]; exact (rl.same g hh).1.symm
        unfold Wakes
        rw [hb]
        obtain ⟨e₁, s₁, h1, h2, h3, rfl⟩ := h
        have hfs : splitAtGen fs = none := (rl.same g hh).2 _ hg
        obtain ⟨b1, x1, y1, z1⟩ := sim h1 hfs (b.setIfInBounds g .running) (rl.set hh True.intro)
        exact ⟨b1.setIfInBounds g e₁.genState, ⟨e₁, { s₁ with gens := b1 }, x1, h2, h3, rfl⟩, y1.set hh z1.state⟩
    | running =>
      have nh := nhid rfl
      have hb : ({ s with gens := b } : Shared).gens[g]? = some .running := by rw [← hg]; exact (rl.same g nh).1.symm
      unfold Wakes
      rw [hb]
      obtain ⟨h1, h2⟩ := h
      subst h2
      exact ⟨b, ⟨h1, rfl⟩, rl⟩
    | finished =>
      have nh := nhid rfl
      have hb : ({ s with gens := b } : Shared).gens[g]? = some .finished := by rw [← hg]; exact (rl.same g nh).1.symm
      unfold Wakes
      rw [hb]
      obtain ⟨h1, h2⟩ := h
      subst h2
      exact ⟨b, ⟨h1, rfl⟩, rl⟩

theorem wp_sim {α : Type} (G : Array GenState) (Γ : Ctx) (t : Sem α) : ∀ (Q : α → Pos → Shared → Prop) (E : Value → Pos → Shared → Prop) (p : Pos) (s : Shared) (b : Array GenState), Rl G s.gens b → wp M Γ t Q E p s →
    wp M Γ t (fun a p' s' => ∃ a', Q a p' { s' with gens := a' } ∧ Rl G a' s'.gens) (fun e p' s' => ∃ a', E e p' { s' with gens := a' } ∧ Rl G a' s'.gens) p { s with gens := b } := by
  induction t with
  | pure a => intro Q E p s b r h; exact ⟨s.gens, h, r⟩
  | raise e => intro Q E p s b r h; exact ⟨s.gens, h, r⟩
  | unsupported _ => intro Q E p s b _ h; exact h
  | finish _ => intro Q E p s b _ h; exact h
  | rule _ k ih => intro Q E p s b r h; exact ih () Q E p s b r h
  | «at» p' k ih => intro Q E p s b r h; exact ih () Q E p' s b r h
  | load a _ k ih => intro Q E p s b r h; obtain ⟨o, ho, h⟩ := h; exact ⟨o, ho, ih o Q E p s b r h⟩
  | update a _ f k ih => intro Q E p s b r h; exact ⟨h.1, ih () Q E p { s with heap := s.heap.update a f } b r h.2⟩
  | loadIfAlive a k ih => intro Q E p s b r h; exact ih _ Q E p s b r h
  | point _ k ih => intro Q E p s b r h; exact ih () Q E p s b r h
  | register _ _ => intro Q E p s b _ h; exact h
  | alloc o k ih => intro Q E p s b r h; exact ih _ Q E p { s with heap := s.heap.push o } b r h
  | fresh k ih => intro Q E p s b r h; exact ih _ Q E p { s with toks := s.toks + 1 } b r h
  | ask k ih => intro Q E p s b r h; exact ih _ Q E p s b r h
  | choose src m k ih => intro Q E p s b r h; exact ⟨h.1, ih _ Q E p { s with drawn := s.drawn.bump src } b r h.2⟩
  | os q _ k ih => intro Q E p s b r h; exact ih _ Q E p { s with os := (Os.step s.os q).1 } b r h
  | call c hd _ _ k ih =>
    intro Q E p s b r h
    obtain ⟨rr, s', hr, h⟩ := h
    obtain ⟨b', x, y, _⟩ := sim hr rfl b r
    exact ⟨rr, { s' with gens := b' }, x, ih rr Q E p s' b' y h⟩
  | handled own k ih => intro Q E p s b r h; exact ih _ Q E p s b r h
  | genState g k ih =>
    intro Q E p s b r h
    obtain ⟨st, hs, h⟩ := h
    obtain ⟨st', q1, q2⟩ := r.seen hs
    refine ⟨st', q1, ?_⟩
    rw [q2]
    exact ih _ Q E p s b r h
  | newGen c k ih =>
    intro Q E p s b r h
    have h' : wp M Γ (k s.gens.size) Q E p { s with gens := s.gens.push (.fresh c) } := h
    have := ih _ Q E p { s with gens := s.gens.push (.fresh c) } (b.push (.fresh c)) (r.push c) h'
    rw [r.size] at this
    exact this
  | resume g rr _ k ih =>
    intro Q E p s b r h
    obtain ⟨res, s', hw, h⟩ := h
    obtain ⟨b', x, y⟩ := sim_wakes hw r
    exact ⟨res, { s' with gens := b' }, x, ih res Q E p s' b' y h⟩
  | yield _ _ _ _ => intro Q E p s b _ h; exact h
  | stack k ih => intro Q E p s b r h; exact ih _ Q E p s b r h
  | fork _ _ => intro Q E p s b _ h; exact h
  | thread k ih => intro Q E p s b r h; exact ih _ Q E p s b r h
  | await _ _ _ _ _ => intro Q E p s b _ h; exact h

/-- what holds of every table holds with the sleepers kept -/
theorem wpAny_sleep {α : Type} {A : Around} {s : Shared} {t : Sem α} {Q : α → Shared → Prop} {E : Value → Shared → Prop} (h : wpAny M A t Q E { s with gens := s.gens.map stuck }) :
    wpAny M A t (fun a s' => ∃ a', Q a { s' with gens := a' } ∧ Rl s.gens a' s'.gens) (fun e s' => ∃ a', E e { s' with gens := a' } ∧ Rl s.gens a' s'.gens) s := fun Γ p hΓ =>
  wp_sim s.gens Γ t _ _ p { s with gens := s.gens.map stuck } s.gens Rl.start (h Γ p hΓ)
theorem Rl.kept {G a b : Array GenState} (r : Rl G a b) {i : Nat} {y : GenState} (h : G[i]? = some y) (hs : sleeps y = true) : b[i]? = some y := (r.hid i y h hs).2
theorem Rl.bare {G a b : Array GenState} (r : Rl G a b) (hG : ∀ y ∈ G, y.bare = true) (ha : ∀ y ∈ a, y.bare = true) : ∀ y ∈ b, y.bare = true := by
  intro y hy
  obtain ⟨i, hi, rfl⟩ := Array.mem_iff_getElem.mp hy
  by_cases hh : Hid G i
  · obtain ⟨z, h1, h2⟩ := hh
    have := (r.hid i z h1 h2).2
    rw [Array.getElem?_eq_getElem hi] at this
    cases this
    exact hG _ (Array.mem_of_getElem? h1)
  · have := (r.same i hh).1
    rw [Array.getElem?_eq_getElem hi] at this
    exact ha _ (Array.mem_of_getElem? this)
theorem bare_stuck {G : Array GenState} (hG : ∀ y ∈ G, y.bare = true) : ∀ y ∈ G.map stuck, y.bare = true := by
  intro y hy
  obtain ⟨z, hz, rfl⟩ := Array.mem_map.mp hy
  have := hG z hz
  cases z <;> exact this
end L2.K4
end
section
set_option Elab.async false
set_option linter.all false
set_option maxRecDepth 100000
set_option maxHeartbeats 4000000
/-! A generator whose body ends in a loop over a list: each turn by hand. -/
namespace L2.K4
open PySem PySem.Spec PyProof.Rows GenW
open Sem (wp)
variable {M : Model}

/-- it runs to an end that Φ tells -/
def Go (M : Model) (A : Around) (Φ : End → Shared → Prop) (c : Code) (t : Sem PySem.Fin) (fs : List Frame) (s : Shared) : Prop :=
  ∀ Γ p, Γ.code = c → Γ.Woken A → ∃ e s', Runs M Γ p t fs s e s' ∧ Φ e s'
section
variable {A : Around} {Φ : End → Shared → Prop} {c : Code} {fs : List Frame} {s : Shared}
theorem go_wrap {α : Type} {m : Sem α} {K : α → Sem PySem.Fin} {H : Value → Sem PySem.Fin} {gd lv}
    (h : wpAny M (A.over c fs) m (fun a s' => Go M A Φ c (K a) fs s') (fun x s' => Go M A Φ c (H x) fs s') s) : Go M A Φ c (m.wrap K H gd lv) fs s := by
  rintro Γ p rfl hΓ
  exact runs_wrap_of_wp K H gd lv m (h (Γ.over fs) p (hΓ.over fs)) (fun a p' s' h' => h' Γ p' rfl hΓ) (fun x p' s' h' => h' Γ p' rfl hΓ)
theorem go_bind {α : Type} {m : Sem α} {K : α → Sem PySem.Fin}
    (h : wpAny M (A.over c fs) m (fun a s' => Go M A Φ c (K a) fs s') (fun x s' => Go M A Φ c (.raise x) fs s') s) : Go M A Φ c (m >>= K) fs s := by
  rw [Sem.bind_eq_wrap']; exact go_wrap h
theorem go_at {p' : Pos} {k : Unit → Sem PySem.Fin} (h : Go M A Φ c (k ()) fs s) : Go M A Φ c (.at p' k) fs s :=
  go_wrap (m := standAt p') (K := k) (H := .raise) (gd := id) (lv := id) (wpAny_standAt h)
theorem go_point {l : List Value} {k : Unit → Sem PySem.Fin} (h : Go M A Φ c (k ()) fs s) : Go M A Φ c (.point l k) fs s :=
  go_wrap (m := point) (K := k) (H := .raise) (gd := id) (lv := fun _ => l) (wpAny_point h)
theorem go_call {c' : Code} {h g l} {k : Result → Sem PySem.Fin} (hc : ∀ p, Go M A Φ c' (M.den c') (.ret k h g l c p [] :: fs) s) : Go M A Φ c (.call c' h g l k) fs s := by
  rintro Γ p rfl hΓ
  obtain ⟨e, s', hr, he⟩ := hc p (Γ.goto c') p rfl (hΓ.goto c')
  exact ⟨e, s', runs_call_seg hr, he⟩
theorem go_leaf {k h g l c₁ p₁ kp} (r : Result) (hk : Go M A Φ c₁ (k r) fs s) : Go M A Φ c (leafOf r) (.ret k h g l c₁ p₁ kp :: fs) s := by
  rintro Γ p rfl hΓ
  obtain ⟨e, s', hr, he⟩ := hk (Γ.goto c₁) p₁ rfl (hΓ.goto c₁)
  exact ⟨e, s', Runs.pop r hr, he⟩
theorem go_again {c' : Code} (hq : c'.quiet = true) (hc : Go M A Φ c' (M.den c') fs s) : Go M A Φ c (.pure (.again c')) fs s := by
  rintro Γ p rfl hΓ
  obtain ⟨e, s', hr, he⟩ := hc (Γ.goto c') p rfl (hΓ.goto c')
  exact ⟨e, s', Runs.head (c₁ := c') (fun _ _ x => .again hq x) hr, he⟩
theorem go_mono {Φ' : End → Shared → Prop} {t : Sem PySem.Fin} (h : ∀ e s', Φ e s' → Φ' e s') (hg : Go M A Φ c t fs s) : Go M A Φ' c t fs s := fun Γ p h1 h2 =>
  let ⟨e, s', hr, he⟩ := hg Γ p h1 h2
  ⟨e, s', hr, h e s' he⟩
theorem go_gsz {t : Sem PySem.Fin} (hg : Go M A Φ c t fs s) : Go M A (fun e s' => Φ e s' ∧ s.gens.size ≤ s'.gens.size) c t fs s := fun Γ p h1 h2 =>
  let ⟨e, s', hr, he⟩ := hg Γ p h1 h2
  ⟨e, s', hr, he, runs_gsz hr⟩
theorem go_end (r : Result) (h : Φ (.ret r) s) : Go M A Φ c (leafOf r) [] s := by
  rintro Γ p rfl _
  exact ⟨.ret r, s, Runs.leaf r, h⟩
theorem go_yield {v g l} {k : Resume → Sem PySem.Fin} (hfs : splitAtGen fs = none) (h : ∀ p, Φ (.susp v g l k c p fs) s) : Go M A Φ c (.yield v g l k) fs s := by
  rintro Γ p rfl _
  exact ⟨_, s, Runs.yield' fs hfs, h p⟩
end

section
variable {prog : Program} {w : World} {A : Around} {E : Value → Shared → Prop} {s : Shared}
/-- a sleeping generator is woken and ends as Φ tells -/
def GoesBy (M : Model) (A : Around) (Φ : End → Shared → Prop) (gs : GenState) (s : Shared) : Prop :=
  match gs with
  | .fresh c => Go M A Φ c (M.den c) [] s
  | .suspended k _ c _ fs _ => Go M A Φ c (k (.send .none)) fs s
  | _ => False
theorem wpAny_resumeGo {Φ : End → Shared → Prop} {g : Nat} {gs : GenState} {l : List Value} {α : Type} {k : GenResult → Sem α} {Q : α → Shared → Prop} (hg : s.gens[g]? = some gs)
    (hgo : GoesBy M A Φ gs (s.setGen g .running)) (hQ : ∀ e s₁, Φ e s₁ → e.quiet = true ∧ wpAny M A (k e.result) Q E (s₁.setGen g e.genState)) : wpAny M A (.resume g (.send .none) l k) Q E s := by
  intro Γ p hΓ
  rw [Sem.wp_resume]
  have hB : ∀ c, (Γ.wake c p).Woken A := fun c => hΓ.wake c p
  cases gs with
  | fresh c =>
    obtain ⟨e₁, s₁, hr, he⟩ := hgo (Γ.wake c p) p rfl (hB c)
    exact ⟨_, _, by unfold Wakes; rw [hg]; exact ⟨e₁, s₁, hr, (hQ e₁ s₁ he).1, rfl, rfl⟩, (hQ e₁ s₁ he).2 Γ p hΓ⟩
  | suspended k₀ l₀ c₀ p₀ fs₀ cl =>
    obtain ⟨e₁, s₁, hr, he⟩ := hgo (Γ.wake c₀ p) p₀ rfl (hB c₀)
    exact ⟨_, _, by unfold Wakes; rw [hg]; exact ⟨e₁, s₁, hr, (hQ e₁ s₁ he).1, rfl, rfl⟩, (hQ e₁ s₁ he).2 Γ p hΓ⟩
  | running => exact hgo.elim
  | finished => exact hgo.elim
theorem wpAny_pyNext_go {a : Addr} {g : Nat} {gs : GenState} {Φ : End → Shared → Prop} {Q : Option Value → Shared → Prop} (hh : A.handled = none) (hl : s.heap.NoLimit) (hroom : A.depth < recursionLimit)
    (hg : s.heap.IsGen a g) (hgs : s.gens[g]? = some gs) (hgo : GoesBy (model prog w) A.in1 Φ gs (s.setGen g .running))
    (hQ : ∀ e s₁, Φ e s₁ → e.quiet = true ∧ match e with
      | .ret r => r = .ok (.ret .none) ∧ ∀ h', (∀ b o, s₁.heap.get? b = some o → h'.get? b = some o) → Q none { s₁.setGen g .finished with heap := h' }
      | .susp v .. => Q (some v) (s₁.setGen g e.genState)) :
    wpAny (model prog w) A (pyNext (.ref a)) Q E s := by
  unfold pyNext
  refine wpAny_bind (wpAny_attempt (wpAny_callSpecial?_slot (name := Str.ofString "__next__") hg.typeIs slot_gen_next
    (wpAny_call_entry slot_gen_next hg.typeIs entry_gen_next ?_ (args_gen_next _))))
  show wpAny _ _ (Builtin.Generator.genWake (.ref a) (.send .none)) _ _ s
  unfold Builtin.Generator.genWake
  refine wpAny_bind (wpAny_holding (wpAny_genNumber hg (wpAny_bind (wpAny_genState hgs ?_))))
  cases gs with
  | running => exact hgo.elim
  | finished => exact hgo.elim
  | _ =>
    refine wpAny_bind (wpAny_roomToWake hl hroom ?_)
    show wpAny _ _ (.resume g (.send .none) [] _) _ _ s
    refine wpAny_resumeGo hgs hgo fun e s₁ hx => ?_
    obtain ⟨hq, hx⟩ := hQ e s₁ hx
    refine ⟨hq, ?_⟩
    cases e with
    | ret r =>
      obtain ⟨rfl, hp⟩ := hx
      show wpAny _ _ (newExc (.type "StopIteration") [] >>= _) _ _ _
      refine wpAny_bind ?_
      simp only [newExc, newTuple]
      refine wpAny_bind (wpAny_newObj_type ?_ (by size_fits))
      refine wpAny_bind (m := firstArgMember _ _) (wpAny_of_eq (a := Value.none) (by first | rfl | (simp only [firstArgMember]; rfl)) ?_)
      refine wpAny_newObj_type ?_ (by size_fits)
      simp only [raiseNew]
      refine wpAny_bind (wpAny_bind (wpAny_handled ?_))
      rw [show A.in1.handled = none from hh]
      refine wpAny_throw ?_
      refine wpAny_bind (wpAny_isInstance (T := "StopIteration") (b := true) ⟨_, Heap.get?_push_size _ rfl, rfl⟩ isSubtype_stop ?_)
      exact wpAny_pure (hp _ fun b o hb => Heap.get?_push_of_some _ (Heap.get?_push_of_some _ hb))
    | susp v g₀ l₀ k₀ c₀ p₀ fs₀ => exact wpAny_pure ⟨v, rfl, wpAny_pure hx⟩
end

/-! ### the loop -/
section
variable {prog : Program} {w : World} {B : Around} {env : Env} {x : Str} {tp xp yp pos : Pos} {L I la : Addr} {fs : List Frame}
abbrev yBody (x : Str) (xp yp pos : Pos) : List Stmt := [.Expr (.Yield (some (.Name x xp)) yp) pos]
/-- the frame, the iterator (at i) and the list (its items: us) as the loop needs them -/
structure YAt (L I la : Addr) (i : Nat) (us : List Value) (h : Heap) : Prop where
  ns : ∃ m, h.Ns L m
  it : h.IsListIter I la i
  ls : h.IsList la us.toArray
/-- nothing but the frame and the iterator has changed, but for what is new -/
structure YCh (L I : Addr) (s s' : Shared) : Prop where
  keep : ∀ b o, b ≠ L → b ≠ I → s.heap.get? b = some o → s'.heap.get? b = some o
  gens : s'.gens = s.gens
  os : s'.os = s.os
theorem YCh.refl {s : Shared} : YCh L I s s := ⟨fun _ _ _ _ h => h, rfl, rfl⟩
theorem YCh.trans {s s' s'' : Shared} (a : YCh L I s s') (b : YCh L I s' s'') : YCh L I s s'' := ⟨fun c o h1 h2 h => b.keep c o h1 h2 (a.keep c o h1 h2 h), b.gens.trans a.gens, b.os.trans a.os⟩
/-- how a turn from s ends -/
def YOut (L I la : Addr) (i : Nat) (us : List Value) (nx : (Resume → Sem PySem.Fin) → Code → List Frame → Prop) (s : Shared) (e : End) (s' : Shared) : Prop :=
  e.quiet = true ∧ YCh L I s s' ∧ match us[i]? with
  | none => e = .ret (.ok (.ret .none))
  | some u => ∃ g l k c p fs', e = .susp u g l k c p fs' ∧ (∃ m, s'.heap.Ns L m) ∧ s'.heap.IsListIter I la (i + 1) ∧ splitAtGen fs' = none ∧ nx k c fs'
/-- asleep before item i: it may be woken n times -/
def YNx (M : Model) (A : Around) (L I la : Addr) : Nat → Nat → (Resume → Sem PySem.Fin) → Code → List Frame → Prop
  | 0, _, _, _, _ => True
  | n + 1, i, k, c, fs => ∀ s us, YAt L I la i us s.heap → Go M A (YOut L I la i us (fun k' c' fs' => YNx M A L I la n (i + 1) k' c' fs') s) c (k (.send .none)) fs s

theorem go_exprs_yield {A : Around} {Φ : End → Shared → Prop} {c : Code} {s : Shared} {K : Flow → Sem PySem.Fin} {H : Value → Sem PySem.Fin} {lv : List Value → List Value} {v : Value}
    (hfs : splitAtGen fs = none)
    (hx : wpAny (model prog w) (A.over c fs) (eval (.Name x xp) env) (fun u s' => u = v ∧ s' = s) (fun _ _ => False) s)
    (hi : interactive env = false) (hco : env.scope.isCoroutine = false)
    (h : ∀ l k p, (∀ (M : Model) A Φ s, Go M A Φ c (K .next) fs s → Go M A Φ c (k (.send .none)) fs s) → Φ (.susp v false l k c p fs) s) :
    Go (model prog w) A Φ c ((execs (yBody x xp yp pos) env).wrap K H id lv) fs s := by
  rw [execs_cons_wrap]
  rw [exec_Expr env _ pos hi rfl]
  show Go _ A Φ c (.at pos fun _ => ((eval (.Name x xp) env >>= fun v => (standAt yp >>= fun _ => yieldOut env v)) >>= fun y =>
    dropValue (.Yield (some (.Name x xp)) yp) pos y).wrap _ H id lv) fs s
  have hy : ∀ v, yieldOut env v = yieldValue v := fun v => by simp only [yieldOut, hco, Bool.false_eq_true, if_false]
  simp only [hy]
  refine go_at ?_
  rw [Sem.bind_eq_wrap', Sem.bind_eq_wrap', Sem.wrap_wrap, Sem.wrap_wrap]
  refine go_wrap (wpAny_mono hx (fun u s' h' => ?_) fun _ _ z => z.elim)
  obtain ⟨rfl, rfl⟩ := h'
  refine go_at (go_yield hfs fun p => h _ _ p ?_)
  intro M A Φ s hk
  exact hk

theorem go_turn {A : Around} (hB : A.over (.forLoop (.Name x tp) (.ref I) (yBody x xp yp pos) [] env) fs = B) (hh : B.handled = none) (hfs : splitAtGen fs = none) (hfg : fs.any Frame.guarded = false)
    (hend : ∀ Φ s, Φ (.ret (.ok (.ret .none))) s → Go (model prog w) A Φ (.block [] env) (leafOf (.ok .next)) fs s)
    (hL : env.locals = L) (hLI : L ≠ I) (hLl : L ≠ la) (hIl : I ≠ la) (hk : env.scope.kind = .function) (hx : env.kindOf x = some .local) (hi : interactive env = false) (hco : env.scope.isCoroutine = false) (hdb : (x == ("__debug__" : Str)) = false) :
    ∀ (n i : Nat) (s : Shared) (us : List Value), YAt L I la i us s.heap →
      Go (model prog w) A (YOut L I la i us (fun k c fs => YNx (model prog w) A L I la n (i + 1) k c fs) s) (.forLoop (.Name x tp) (.ref I) (yBody x xp yp pos) [] env) ((model prog w).den (.forLoop (.Name x tp) (.ref I) (yBody x xp yp pos) [] env)) fs s := by
  intro n
  induction n with
  | zero => ?_
  | succ n ih => ?_
  all_goals
    intro i s us hy
    obtain ⟨⟨m, hm⟩, hit, hls⟩ := hy
    show Go _ A _ _ ((forTurn (.Name x tp) (.ref I) (yBody x xp yp pos) [] env).onRaise (fun z => do noteFrame z env; theTreesLotGoes z)) fs s
    simp only [forTurn]
    rw [Sem.onRaise_eq_wrap, Sem.bind_eq_wrap', Sem.wrap_wrap]
    refine go_wrap (wpAny_standAt ?_)
    rw [Sem.bind_eq_wrap', Sem.wrap_wrap]
    refine go_wrap ?_
    rw [hB]
    refine wpAny_onRaise ?_
    cases hu : us[i]? with
    | none =>
      refine wpAny_pyNext_list_end hh hit hls (by simpa using hu) fun h' eb => ?_
      refine go_again rfl ?_
      refine hend _ _ ⟨rfl, ⟨fun b o _ hb e => eb b o hb e, rfl, rfl⟩, ?_⟩
      rw [hu]
    | some u =>
      refine wpAny_pyNext_list_item hit hls (x := u) (by simpa using hu) fun h' st' sb => ?_
      have hm1 : h'.Ns env.locals m := by rw [hL]; exact hm.sameBut sb hLI
      obtain ⟨o, e, c, d⟩ := id st'
      show Go _ A _ _ (Sem.wrap _ _ _ _ (letOwnedTupleGo (.Name x tp) (.ref I) u >>= _)) fs _
      rw [Sem.bind_eq_wrap', Sem.wrap_wrap]
      refine go_wrap ?_
      rw [hB]
      refine go_of (s := { s with heap := h' }) e c d (by decide) ?_
      rw [Sem.bind_eq_wrap', Sem.wrap_wrap]
      refine go_wrap ?_
      rw [hB]
      refine wpAny_assign_Name (wpAny_storeName_local hx hm1 (fun h2 hm2 sb2 => ?_) (by rw [hk]; rfl))
      rw [Sem.bind_eq_wrap', Sem.wrap_wrap]
      have hm3 : ∃ m, h2.Ns L m := ⟨_, hL ▸ hm2⟩
      have sb2' : Heap.SameBut L h' h2 := by rw [← hL]; exact sb2
      have it2 : h2.IsListIter I la (i + 1) := st'.at fun o e => (sb2'.2 I (Ne.symm hLI)).trans e
      refine go_exprs_yield (v := u) hfs ?_ hi hco fun l k p hk' => ?_
      · rw [hB]
        exact wpAny_Name (wpAny_loadName_local hk hx hm2 (v := u) (by simp) ⟨rfl, rfl⟩) hdb
      · refine ⟨by simp [End.quiet, hfg], ⟨fun b o hb1 hb2 e => (sb2'.2 b hb1).trans ((sb.2 b hb2).trans e), rfl, rfl⟩, ?_⟩
        rw [hu]
        refine ⟨false, l, k, _, p, fs, rfl, hm3, it2, hfs, ?_⟩
        first
          | exact True.intro
          | (intro s' us' hy'
             refine hk' _ _ _ _ ?_
             refine go_again rfl (ih (i + 1) s' us' hy'))
end
/-! ### the first turn -/
section
variable {X : Cx} {x : Str} {tp xp yp pos fp : Pos} {st0 : Stmt} {iter : Expr} {t0 : TS} {ti : TE}
/-- behind the first turn: the list at la holds xs, the iterator stands at I -/
def YOne (X : Cx) (A : Around) (N : Nat) (pins : List (Addr × Obj)) (R : Addr → List V → Hp → Prop) (e : End) (s' : Shared) : Prop :=
  ∃ (la I : Addr) (xs : List V) (its : List Value) (σ : L2.St) (H : Hp) (s3 : Shared), Inv X pins σ H s3 ∧ Rd H la (.lst xs) ∧ Vals xs its ∧ R la xs H ∧ s3.heap.IsListIter I la 0 ∧ I < s3.heap.objs.size ∧
    X.s_0.heap.objs.size ≤ I ∧ (∀ b o, s3.heap.get? b = some o → b ≠ I → b < I) ∧ FpOk X pins H I ∧
    YOut X.env.locals I la 0 its (fun k c fs => YNx (model X.prog X.w) A X.env.locals I la N 1 k c fs) s3 e s'
theorem go_first {A : Around} (hA : A.deeper X.env = X.A) (hc : X.calm = true) (hxe : ∀ e s', X.xe e s' → wpAny (model X.prog X.w) X.A (leaving X.env e) (fun _ _ => False) (fun _ _ => False) s') (hs0 : PS X st0 t0) (hit : PE X iter ti) (hx : X.env.kindOf x = some .local)
    (hi : interactive X.env = false) (hco : X.env.scope.isCoroutine = false) (hdb : (x == ("__debug__" : Str)) = false) (hfs : ∀ x, foldedSetIterable iter X.env x = pure x)
    {pins : List (Addr × Obj)} {σ : L2.St} {H : Hp} {s : Shared} {R : Addr → List V → Hp → Prop} (N : Nat) (I : Inv X pins σ H s)
    (h : t0 { nx := fun σ1 H1 => ti σ1 H1 fun v H2 => ∃ la xs, v = .ref la ∧ Rd H2 la (.lst xs) ∧ R la xs H2, rt := fun _ _ => False } σ H) :
    Go (model X.prog X.w) A (YOne X A N pins R) (.func [st0, .For (.Name x tp) iter (yBody x xp yp pos) [] fp] X.env) ((model X.prog X.w).den (.func [st0, .For (.Name x tp) iter (yBody x xp yp pos) [] fp] X.env)) [] s := by
  have hL : X.env.locals = X.env.locals := rfl
  show Go _ A _ _ (.point [] fun _ => ((execs [st0, .For (.Name x tp) iter (yBody x xp yp pos) [] fp] X.env).onRaise (leaving X.env)) >>= _) [] s
  refine go_point ?_
  rw [Sem.onRaise_eq_wrap, Sem.bind_eq_wrap', Sem.wrap_wrap]
  have ov : A.over (.func [st0, .For (.Name x tp) iter (yBody x xp yp pos) [] fp] X.env) [] = X.A := over_func.trans hA
  have esc : ∀ (e : Value) (s' : Shared), X.xe e s' → Go (model X.prog X.w) A (YOne X A N pins R) (.func [st0, .For (.Name x tp) iter (yBody x xp yp pos) [] fp] X.env) (((leaving X.env e).bind fun _ => (Sem.raise e : Sem Flow)).wrap (fun f => match f with
      | .ret v => (.pure (.done (.ret v)) : Sem PySem.Fin)
      | _ => .pure (.done (.ret .none))) .raise id id) [] s' := fun e s' z => by
    rw [Sem.bind_eq_wrap, Sem.wrap_wrap]
    refine go_wrap ?_
    rw [ov]
    exact wpAny_mono (hxe e s' z) (fun _ _ z => z.elim) fun _ _ z => z.elim
  rw [execs_cons_wrap]
  refine go_wrap ?_
  rw [ov]
  refine wpAny_mono (hs0.run pins s σ H _ I h) (fun f s1 hf => ?_) fun _ _ z => esc _ _ z
  cases f with
  | brk => obtain ⟨_, _, _, z⟩ := hf; exact z.elim
  | cont => obtain ⟨_, _, _, z⟩ := hf; exact z.elim
  | ret u => obtain ⟨_, _, _, _, _, z⟩ := hf; exact z.elim
  | next =>
    obtain ⟨σ1, H1, I1, q1⟩ := hf
    show Go _ _ _ _ ((execs [.For (.Name x tp) iter (yBody x xp yp pos) [] fp] X.env).wrap _ _ _ _) _ _
    rw [execs_cons_wrap, exec_For]
    rw [Sem.bind_eq_wrap', Sem.wrap_wrap]
    refine go_wrap (wpAny_standAt ?_)
    rw [Sem.bind_eq_wrap', Sem.wrap_wrap]
    refine go_wrap ?_
    rw [ov]
    refine wpAny_mono (hit.run pins s1 σ1 H1 _ I1 q1) (fun v s2 hv => ?_) fun _ _ z => esc _ _ z
    obtain ⟨y, H2, I2, ry, la, xs, e, hq, hR⟩ := hv
    subst e
    cases ry
    rw [hfs, pure_bind, Sem.bind_eq_wrap', Sem.wrap_wrap]
    refine go_wrap (wpAny_standAt ?_)
    rw [Sem.bind_eq_wrap', Sem.wrap_wrap]
    refine go_wrap (wpAny_holding ?_)
    rw [ov]
    obtain ⟨its, rv, p, hz⟩ := I2.list (.inl hq)
    refine wpAny_pyIter_list p.isList ?_
    have I3 := I2.kept (t' := s2.toks) (h' := s2.heap.push { cls := .type "list_iterator", data := .fields #[.ref la, .int 0 0] }) fun b o e => Heap.get?_push_of_some _ e
    have p3 := p.isList
    refine go_call fun p' => ?_
    refine go_mono ?_ (go_turn (B := X.A) (L := X.env.locals) (I := s2.heap.objs.size) (la := la) ((over_loop rfl rfl).trans ov) (I.ok.hd hc) rfl rfl (fun Φ s' hΦ => ?_) rfl ?_ ?_ ?_ I.ok.kind hx hi hco hdb N 0 _ its ?_)
    · rintro e s' hy
      have hla : la < s2.heap.objs.size := let ⟨o, n, ho, _⟩ := p; Heap.lt_size ho
      refine ⟨la, s2.heap.objs.size, xs, its, σ1, H2, _, I3, hq, rv, hR, ⟨_, Heap.get?_push_size _ rfl, rfl, rfl⟩, by rw [Heap.size_push]; exact Nat.lt_succ_self _, I2.sz, fun b o hb ne => ?_, I2.fpOk (Nat.le_refl _) (I2.hok.fresh (Nat.le_refl _)), hy⟩
      have := Heap.lt_size hb
      rw [Heap.size_push] at this
      exact Nat.lt_of_le_of_ne (Nat.le_of_lt_succ this) ne
    · refine go_leaf (.ok .next) ?_
      exact go_end (.ok (.ret .none)) hΦ
    · exact Nat.ne_of_lt I2.lt
    · intro z
      have := I2.free
      rw [z] at this
      rcases hq with q | ⟨_, q⟩ <;> rw [this] at q <;> cases q
    · intro z
      have hla : la < s2.heap.objs.size := let ⟨o, n, ho, _⟩ := p; Heap.lt_size ho
      rw [← z] at hla
      exact absurd hla (Nat.lt_irrefl _)
    · obtain ⟨m, hn, _⟩ := I3.loc
      exact ⟨⟨m, hn⟩, ⟨_, Heap.get?_push_size _ rfl, rfl, rfl⟩, p3.at fun o e => Heap.get?_push_of_some _ e⟩
end
end L2.K4
end
section
set_option Elab.async false
set_option linter.all false
set_option maxRecDepth 100000
set_option maxHeartbeats 4000000
/-! A list comprehension over a generator method. -/
namespace L2.K4
open PySem PySem.Spec PyProof.Rows GenW L2
open Sem (wp)

theorem cellsFrom_nil : ∀ (names : List (Str × NameKind)) (n : Nat) (acc : List (Str × Addr)), (∀ y ∈ names, y.2 ≠ .cell) → cellsFrom n names acc = acc
  | [], _, _, _ => rfl
  | (m, k) :: r, n, acc, h => by
    unfold cellsFrom
    have hk : ¬ (k == NameKind.cell) = true := by simpa using h (m, k) List.mem_cons_self
    rw [if_neg hk]
    exact cellsFrom_nil r n acc fun y hy => h y (List.mem_cons_of_mem _ hy)
theorem pushCells_nil : ∀ (names : List (Str × NameKind)) (h : Heap), (∀ y ∈ names, y.2 ≠ .cell) → pushCells h names = h
  | [], _, _ => rfl
  | (m, k) :: r, h, hn => by
    unfold pushCells
    have hk : ¬ (k == NameKind.cell) = true := by simpa using hn (m, k) List.mem_cons_self
    rw [if_neg hk]
    exact pushCells_nil r h fun y hy => hn y (List.mem_cons_of_mem _ hy)

theorem get?_push_ne' (h : Heap) {a : Addr} (o : Obj) (ha : a ≠ h.objs.size) : (h.push o).get? a = h.get? a := by
  cases h
  simp_all [Heap.push, Heap.get?, Array.getElem?_push]
section
variable {M : Model} {A : Around} {E : Value → Shared → Prop}
theorem bind_plain {env : Env} {s₀ : Shared} {g0 : Heap} (f : Str × Value → PUnit → Sem (ForInStep PUnit)) (hf : ∀ n v u, f (n, v) u = (do storeName env n v; pure (.yield ⟨⟩))) (hk : env.scope.kind = .function) (hcl : env.cells = []) :
    ∀ (binds : List (Str × Value)) (m cm : Str → Option Value) (s : Shared) (Q : PUnit → Shared → Prop), InCallC s₀ env.locals m env.cells cm s → Heap.SameBut env.locals g0 s.heap →
      (∀ x ∈ binds, env.kindOf x.1 = some .local) →
      (∀ s', InCallC s₀ env.locals (bindL env.kindOf binds m) env.cells (bindC env.kindOf binds cm) s' → Heap.SameBut env.locals g0 s'.heap → Q ⟨⟩ s') → wpAny M A (forIn binds ⟨⟩ f) Q E s
  | [], m, cm, s, Q, x, sb, _, h => by rw [List.forIn_nil]; exact wpAny_pure (h s x sb)
  | (n, v) :: r, m, cm, s, Q, x, sb, hkind, h => by
    rw [List.forIn_cons, hf]
    have hr : ∀ y ∈ r, env.kindOf y.1 = some .local := fun y hy => hkind y (List.mem_cons_of_mem _ hy)
    have hl := hkind (n, v) List.mem_cons_self
    refine wpAny_bind (wpAny_bind (wpAny_storeName_local hl x.toInCall.ns (fun h' hn sb2 => ?_) (by rw [hk]; rfl)))
    refine wpAny_pure (bind_plain (s₀ := s₀) f hf hk hcl r (fun y => if y = n then some v else m y) cm _ Q ?_ (sb.trans sb2) hr fun s'' x'' sb'' => h s'' ?_ sb'')
    · obtain ⟨⟨⟨h1, tk, e1⟩, ns, kp, fr⟩, c1, c2, c3⟩ := x
      subst e1
      refine ⟨⟨⟨h', _, rfl⟩, hn, fun b o e => ?_, fr⟩, fun n c e => ?_, c2, c3⟩
      · exact (sb2.2 b (Nat.ne_of_lt (Nat.lt_of_lt_of_le (Heap.lt_size e) fr))).trans (kp b o e)
      · rw [hcl] at e; cases e
    · unfold bindL bindC; rw [if_pos hl, if_pos hl]; exact x''
theorem newEnv_plain {s : Shared} {scope : Scope} {globals : Addr} {binds : List (Str × Value)} {qual : Str} {func : Option Addr} {code : Value} {builtins : Addr} {Q : Env → Shared → Prop}
    (hk : scope.kind = .function) (hnc : ∀ y ∈ scope.names, y.2 ≠ .cell) (hkind : ∀ x ∈ binds, scope.names.lookup x.1 = some .local)
    (hQ : ∀ env, env = newEnv scope s.heap.objs.size globals (cellsFrom (s.heap.objs.size + 1) scope.names []) qual func code none builtins →
      ∀ s', InCallC s env.locals (bindL env.kindOf binds fun _ => none) env.cells (bindC env.kindOf binds fun _ => none) s' → Heap.SameBut env.locals (s.heap.push { cls := .type "frame", data := .dict #[] }) s'.heap → Q env s') :
    wpAny M A (newFunctionEnv scope globals [] binds qual func code none builtins) Q E s := by
  simp only [newFunctionEnv, Option.isSome_none, Bool.false_eq_true, if_false]
  refine wpAny_bind (wpAny_alloc ?_)
  refine wpAny_bind (wpAny_layCells _ (fun name kind cells => by cases hkc : kind == NameKind.cell <;> simp [hkc]) _ _ _ _ ?_)
  rw [show ({ s with heap := s.heap.push { cls := .type "frame", data := .dict #[] } } : Shared).heap.objs.size = s.heap.objs.size + 1 from Heap.size_push ..]
  have ec := cellsFrom_nil scope.names (s.heap.objs.size + 1) [] hnc
  refine wpAny_bind (bind_plain (s₀ := s) (g0 := s.heap.push { cls := .type "frame", data := .dict #[] }) (env := newEnv scope s.heap.objs.size globals (cellsFrom (s.heap.objs.size + 1) scope.names []) qual func code none builtins)
    _ (fun _ _ _ => rfl) hk ec binds (fun _ => none) (fun _ => none) _ _
    ⟨⟨⟨_, _, rfl⟩, (Heap.Ns.new s.heap (.type "frame")).keeps (pushCells_keeps _ _), fun b o e => pushCells_keeps _ _ b o (Heap.get?_push_of_some _ e), Nat.le_refl _⟩,
      fun n c hc => ?_, ?_, fun n c hm => ?_⟩ ?_
    hkind fun s' x sb => wpAny_pure (hQ _ rfl s' x sb))
  · rw [show (newEnv scope s.heap.objs.size globals (cellsFrom (s.heap.objs.size + 1) scope.names []) qual func code none builtins).cells = [] from ec] at hc; cases hc
  · rw [show (newEnv scope s.heap.objs.size globals (cellsFrom (s.heap.objs.size + 1) scope.names []) qual func code none builtins).cells = [] from ec]; exact .nil
  · rw [show (newEnv scope s.heap.objs.size globals (cellsFrom (s.heap.objs.size + 1) scope.names []) qual func code none builtins).cells = [] from ec] at hm; cases hm
  · show Heap.SameBut _ _ (pushCells (s.heap.push _) scope.names)
    rw [pushCells_nil _ _ hnc]
    exact Heap.SameBut.refl _ _
end

/-- a generator that has just been made at sc.size + 1, its frame at sc.size -/
structure GNew (scope : Scope) (qual : Str) (f : Addr) (cdv : Value) (body : List Stmt) (ps : List Str) (sc : Shared) (us : List Value) (u : Value) (s' : Shared) : Prop where
  val : u = .ref (sc.heap.objs.size + 1)
  gens : s'.gens = sc.gens.push (.fresh (.func body (envOfC qual scope sc.heap.objs.size f cdv)))
  os : s'.os = sc.os
  gen : ∃ o nm qn, s'.heap.get? (sc.heap.objs.size + 1) = some o ∧ o.cls = .type "generator" ∧ o.data = .fields #[.int sc.gens.size 0, nm, qn] ∧ o.slots = #[]
  size : s'.heap.objs.size = sc.heap.objs.size + 2
  keep : ∀ b o, sc.heap.get? b = some o → s'.heap.get? b = some o
  old : ∀ b o, s'.heap.get? b = some o → b < sc.heap.objs.size → sc.heap.get? b = some o
  inc : ∃ s1, InCallC sc sc.heap.objs.size (bindL (envOfC qual scope sc.heap.objs.size f cdv).kindOf (ps.zip us) fun _ => none) (cellsFrom (sc.heap.objs.size + 1) scope.names []) (bindC (envOfC qual scope sc.heap.objs.size f cdv).kindOf (ps.zip us) fun _ => none) s1 ∧ s1.gens = sc.gens ∧ s1.os = sc.os ∧ s1.heap.objs.size = sc.heap.objs.size + 1 ∧
    ∀ b o, s1.heap.get? b = some o → s'.heap.get? b = some o
section
variable {P : Program} {w : World} {K : PySem.W.Frag} {mg : Str → Option Value} {base : Heap} {k : Nat} {f : Addr} {name qual : Str} {params : Arguments} {body : List Stmt} {scope : Scope} {dV kV doc pm cdv ct oc : Value} {an od : Option Addr}
    {osl : Array (Option Value)} {N ps : List Str}
theorem gen_made (lk : K.lookup f = some ⟨oc, od, .func (PySem.W.fnOf name qual params body scope dV kV doc pm an cdv ct), osl⟩) (hcd : PySem.W.codeIn K cdv qual = true) (S : GScope N ps scope) (hnc : ∀ y ∈ scope.names, y.2 ≠ .cell) (hpar : ∀ x ∈ ps, scope.names.lookup x = some .local)
    {A : Around} {outer : List Env} {s : Shared} {H : Hp} {args : Args} {us : List Value} (hr : Room (k + 1) A) (e0 : Env0 P w K mg base A outer s H) (hb : BindsTo s (PySem.W.fnOf name qual params body scope dV kV doc pm an cdv ct) args (ps.zip us)) :
    codeAny (model P w) A (.call (.ref f) args) (fun r s' => match r with | .ok (.ret u) => GNew scope qual f cdv body ps s us u s' | _ => False) s := by
  have KX : K.In s.heap := e0.mod.kin.keeps fun b o e => (e0.bs b o e).1
  have lim : s.heap.NoLimit := e0.mod.nolimit.keeps fun b o e => (e0.bs b o e).1
  have hkind : ∀ y ∈ ps.zip us, scope.names.lookup y.1 = some .local := fun ⟨n, v⟩ hy => hpar n (List.of_mem_zip hy).1
  refine codeAny_call_generator hr.depth (KX _ _ lk) rfl S.co S.gen rfl (PySem.W.codeRec_of KX hcd) (hb _ _ _ _ ?_)
  refine newEnv_plain S.kind hnc hkind fun env he s1 x sb => ?_
  subst he
  have lim1 : s1.heap.NoLimit := lim.keeps x.toInCall.keep
  refine ⟨lim1, ?_⟩
  obtain ⟨h1, tk, es1, hk1⟩ := x.done
  have sz1 : s1.heap.objs.size = s.heap.objs.size + 1 := by rw [sb.1, Heap.size_push]
  have hx := x
  refine ⟨by rw [sz1], ?_, ?_, ?_, ?_, ?_, ?_, ?_⟩
  · rw [es1]; rfl
  · rw [es1]
  · rw [← sz1]
    exact ⟨_, _, _, Heap.get?_push_size _ rfl, rfl, by rw [es1], rfl⟩
  · show (s1.heap.push _).objs.size = _
    rw [Heap.size_push, sz1]
  · exact fun b o e => Heap.get?_push_of_some _ (x.toInCall.keep b o e)
  · intro b o e hlt
    have e : (s1.heap.push _).get? b = some o := e
    rw [get?_push_ne' _ _ (by rw [sz1]; exact Nat.ne_of_lt (Nat.lt_succ_of_lt hlt)), sb.2 b (Nat.ne_of_lt hlt), get?_push_ne' _ _ (Nat.ne_of_lt hlt)] at e
    exact e
  · exact ⟨s1, x, by rw [es1], by rw [es1], sz1, fun b o e => Heap.get?_push_of_some _ e⟩
end

/-- an expression that makes a generator; R: of its arguments -/
structure PGn (X : Cx) (iter : Expr) (scope : Scope) (qual : Str) (f : Addr) (cdv : Value) (body : List Stmt) (ps : List Str) (tg : L2.St → Hp → (List V → Hp → Prop) → Prop) : Prop where
  run : ∀ (pins : List (Addr × Obj)) (s : Shared) (σ : L2.St) (H : Hp) (R : List V → Hp → Prop), Inv X pins σ H s → tg σ H R →
    wpAny (model X.prog X.w) X.A (eval iter X.env) (fun u s' => ∃ H1 sc us vs, Inv X pins σ H1 sc ∧ GNew scope qual f cdv body ps sc us u s' ∧ Vals vs us ∧ vs.length = ps.length ∧ R vs H1) X.xe s
def tGn (C : Addr) (m : Str) (ps : List Str) (ta : TE) (t : TA) : L2.St → Hp → (List V → Hp → Prop) → Prop := fun σ H R => ta σ H fun x H1 => ∃ a dx fs, x = .ref a ∧ H1 a = some (.ins C dx fs) ∧ fs.lookup m = none ∧
  t σ H1 fun vs H2 => (x :: vs).length = ps.length ∧ R (x :: vs) H2
theorem pgn_meth {X : Cx} {k : Nat} {f C : Addr} {name qual m : Str} {params : Arguments} {body : List Stmt} {scope : Scope} {dV kV doc pm cdv ct oc : Value} {an od : Option Addr} {osl : Array (Option Value)} {N ps : List Str} {o e : Expr} {es : List Expr} {ta : TE} {t : TA} {apos pos' : Pos} {pl : Sem Bool}
    (lk : X.K.lookup f = some ⟨oc, od, .func (PySem.W.fnOf name qual params body scope dV kV doc pm an cdv ct), osl⟩) (hcd : PySem.W.codeIn X.K cdv qual = true) (S : GScope N ps scope) (hnc : ∀ y ∈ scope.names, y.2 ≠ .cell) (hpar : ∀ x ∈ ps, scope.names.lookup x = some .local)
    (he : PE X o ta) (c : Cls X.K C) (hm : Meth X.K C m f) (hr : Room (k + 1) X.A) (hb : Binds X.K (PySem.W.fnOf name qual params body scope dV kV doc pm an cdv ct) ps []) (ha : PA X (e :: es) t)
    (hst : starEach (e :: es) X.env = (false, eval e X.env) :: starEach es X.env := by rfl) (hpl : (backTo pos' (starEach es X.env)).any (·.1) = false := by rfl)
    (ht : eval (.Call (.Attribute o m apos) (e :: es) [] pos') X.env = (do
      let ov ← eval o X.env
      standAt apos.atName
      let (f, first) ← holding [ov] (getMethod ov m pl)
      callWith pos' f first (backTo pos' (starEach (e :: es) X.env)) (backToKw pos' (keywordEach [] X.env))) := by rfl) :
    PGn X (.Call (.Attribute o m apos) (e :: es) [] pos') scope qual f cdv body ps (tGn C m ps ta t) := by
  refine ⟨fun pins s σ H R I h => ?_⟩
  refine PySem.W.methodCall_KW (pl := pl) (thn (he.run pins s σ H _ I h) fun u s1 ⟨x, H1, I1, rx, a, dx, fs, ex, ea, l, q⟩ => ?_) ht
  subst ex
  obtain rfl : u = Value.ref a := rx
  refine getmeth_ok I1 ea c hm l ?_
  refine PySem.W.callWith_K (first := [.ref a]) (h₀ := X.base) I.ok.mod.kin hm.kp (thn (ha.run pos' pins s1 σ H1 _ I1 q) fun us s2 ⟨vs, H2, I2, r, hl, q2⟩ => ⟨I2.kIn, ?_⟩) hst hpl
  have r2 : Vals (.ref a :: vs) (Value.ref a :: us) := .cons rfl r
  have hl2 : ((Value.ref a :: us) ++ ([] : List Value)).length = ps.length := by rw [List.append_nil, ← r2.length]; exact hl
  have hb2 := hb s2 (.ref a :: us) I2.kIn hl2
  rw [List.append_nil] at hb2
  refine wpAny_call (codeAny_mono (gen_made lk hcd S hnc hpar hr I2.env0 hb2) fun r s' hq => ?_)
  cases r with
  | error e => exact False.elim hq
  | ok fl =>
    cases fl with
    | ret u => exact ⟨H2, s2, _, _, I2, hq, r2, hl, q2⟩
    | next => exact False.elim hq
    | brk => exact False.elim hq
    | cont => exact False.elim hq
/-- the generator's own context -/
abbrev gX (X : Cx) (N : List Str) (qual : Str) (scope : Scope) (f : Addr) (cdv : Value) (sc : Shared) (H : Hp) : Cx :=
  gcxOf X.prog X.w X.K X.mg X.base N qual scope f cdv X.A.in1 X.stack sc H (fun _ _ _ => False) []
theorem Inv.gens {X : Cx} {pins : List (Addr × Obj)} {σ : L2.St} {H : Hp} {s : Shared} (I : Inv X pins σ H s) {G : Array GenState} (hb : AllBare G) : Inv X pins σ H { s with gens := G } :=
  ⟨I.ok, I.os, hb, I.base, I.loc, I.cell, I.free, I.freeC, I.pin, I.hok, I.len⟩
/-- run with what sleeps kept -/
theorem slept {α : Type} {A : Around} {M : Model} {s : Shared} {t : Sem α} {Q Q' : α → Shared → Prop} {E : Value → Shared → Prop} {g : Nat} {y : GenState} (hb : AllBare s.gens) (hg : s.gens[g]? = some y) (hy : sleeps y = true)
    (h : wpAny M A t Q (fun _ _ => False) { s with gens := s.gens.map stuck }) (hQ : ∀ a s' G, Q a { s' with gens := G } → (AllBare G → AllBare s'.gens) → s'.gens[g]? = some y → Q' a s') : wpAny M A t Q' E s := by
  refine wpAny_mono (wpAny_sleep h) (fun a s' ⟨G, q, r⟩ => hQ a s' G q (fun hG => r.bare hb hG) (r.kept hg hy)) fun _ _ ⟨_, z, _⟩ => z.elim

/-- only the generator's frame and iterator have turned -/
theorem Inv.ych {X : Cx} {pins : List (Addr × Obj)} {σ : L2.St} {H : Hp} {s s1 : Shared} {L I : Addr} {h' : Heap} {G : Array GenState} (J : Inv X pins σ H s) (y : YCh L I s s1) (hk : ∀ b o, s1.heap.get? b = some o → h'.get? b = some o)
    (fL : FpOk X pins H L) (fI : FpOk X pins H I) (hb : AllBare G) : Inv X pins σ H { s1 with heap := h', gens := G } := by
  have kp : ∀ b o, b ∉ [L, I] → s.heap.get? b = some o → h'.get? b = some o := fun b o hn e => by
    have n1 : b ≠ L := fun z => hn (by simp [z])
    have n2 : b ≠ I := fun z => hn (by simp [z])
    exact hk b o (y.keep b o n1 n2 e)
  have nt : ∀ b u, H b = some u → b ∉ [L, I] := fun b u q hm => by
    rcases List.mem_cons.mp hm with z | z
    · rw [z, fL.1] at q; cases q
    · rw [List.mem_singleton.mp z, fI.1] at q; cases q
  refine J.call' (ch := [L, I]) y.os ⟨fun b o e _ _ hx => kp b o hx e, fun b o e _ _ hx => ⟨o.slots, kp b o hx e⟩, fun _ _ _ n _ => n, fun b o e hx => ⟨o, kp b o hx e⟩, fun _ _ q => q, fun _ _ _ q => q, fun b ps q => ⟨#[], by rw [q]; simp⟩⟩ (fun b u q => ?_) hb fun b hm => ?_
  · refine (J.hok b u q).stay (fun c v hc z => kp c v ?_ z) (fun _ z => z) fun _ _ z => z
    rcases hc with z | z
    · rw [z]; exact nt b u q
    · exact nt c _ z
  · rcases List.mem_cons.mp hm with z | z
    · rw [z]; exact ⟨fL.2.2.2.1, fL.2.1, fL.2.2.2.2.1, fL.2.2.2.2.2⟩
    · rw [List.mem_singleton.mp z]; exact ⟨fI.2.2.2.1, fI.2.1, fI.2.2.2.2.1, fI.2.2.2.2.2⟩

/-- behind the generator's first turn, for the one who asked -/
theorem first_back {X Xb : Cx} {σg σw : L2.St} {H1 H2 : Hp} {sc s3 s4 s1 : Shared} {D I a C : Addr} {oa oC : Obj} {N : List Str} {qual : Str} {scope : Scope} {f : Addr} {cdv : Value} {G : Array GenState}
    (hst : Xb.stack = X.stack) (hP : Xb.prog = X.prog) (hw : Xb.w = X.w) (J4 : Inv Xb [] σw (upd H1 D (.lst [])) s4) (Ig : Inv (gX X N qual scope f cdv sc H1) [(a, oa), (C, oC)] σg H2 s3) (hD : H2 D = some (.lst []))
    (old4 : ∀ b o, s4.heap.get? b = some o → b < sc.heap.objs.size → sc.heap.get? b = some o) (new4 : ∀ b o, s4.heap.get? b = some o → b < sc.heap.objs.size ∨ b = sc.heap.objs.size ∨ b = a ∨ b = D ∨ b = C)
    (ha : s4.heap.get? a = some oa) (hC : s4.heap.get? C = some oC) (hDz : sc.heap.objs.size ≤ D) (hos : s4.os = sc.os)
    (hfs : ∀ b ∈ frs X.stack, b < sc.heap.objs.size)
    (y : YCh sc.heap.objs.size I s3 s1) (fI : FpOk (gX X N qual scope f cdv sc H1) [(a, oa), (C, oC)] H2 I) (fL : FpOk Xb [] (upd H1 D (.lst [])) sc.heap.objs.size) (hb : AllBare G) {h' : Heap} (hk : ∀ b o, s1.heap.get? b = some o → h'.get? b = some o) :
    Inv Xb [] σw H2 { s1 with heap := h', gens := G } := by
  have un := Ig.base
  have pa := Ig.pin (a, oa) (List.mem_append_right _ (by simp))
  have pC := Ig.pin (C, oC) (List.mem_append_right _ (by simp))
  have nIa : a ≠ I := fI.2.2.2.2.2 (a, oa) (List.mem_append_right _ (by simp))
  have nIC : C ≠ I := fI.2.2.2.2.2 (C, oC) (List.mem_append_right _ (by simp))
  have hIz : sc.heap.objs.size ≤ I := by
    rcases fI.2.2.2.1 with z | z
    · exact absurd (show I ∈ ([] : List Addr) from z) (by simp)
    · exact z
  have cases4 : ∀ b o, s4.heap.get? b = some o → b ≠ sc.heap.objs.size → (upd H1 D (.lst [])) b = none → (sc.heap.get? b = some o ∧ b < sc.heap.objs.size ∧ H1 b = none) ∨ (b = a ∧ o = oa) ∨ (b = C ∧ o = oC) := fun b o e hL hn => by
    have hbD : b ≠ D := fun z => by rw [z, upd_same] at hn; cases hn
    rcases new4 b o e with z | z | z | z | z
    · rw [upd_ne hbD] at hn
      exact .inl ⟨old4 b o e z, z, hn⟩
    · exact absurd z hL
    · subst z; rw [ha] at e; cases e; exact .inr (.inl ⟨rfl, rfl⟩)
    · exact absurd z hbD
    · subst z; rw [hC] at e; cases e; exact .inr (.inr ⟨rfl, rfl⟩)
  have gfs : (gX X N qual scope f cdv sc H1).fs = frs X.stack := rfl
  have gex : ∀ b : Addr, b ∉ (gX X N qual scope f cdv sc H1).ex := fun b z => absurd (show b ∈ ([] : List Addr) from z) (by simp)
  have on : ∀ b o, b ≠ sc.heap.objs.size → b ≠ I → s3.heap.get? b = some o → h'.get? b = some o := fun b o h1 h2 e => hk b o (y.keep b o h1 h2 e)
  have young : ∀ b, b < sc.heap.objs.size → b ≠ sc.heap.objs.size ∧ b ≠ I := fun b hb => ⟨Nat.ne_of_lt hb, Nat.ne_of_lt (Nat.lt_of_lt_of_le hb hIz)⟩
  refine J4.call' (ch := [sc.heap.objs.size]) ?_ ⟨?_, ?_, ?_, ?_, ?_, ?_, ?_⟩ ?_ hb fun b hm => ?_
  · show s1.os = s4.os
    rw [y.os, Ig.os, hos]
    rfl
  · intro b o e hn hf hx
    have hL : b ≠ sc.heap.objs.size := fun z => hx (by simp [z])
    rcases cases4 b o e hL hn with ⟨h1, h2, h3⟩ | ⟨rfl, rfl⟩ | ⟨rfl, rfl⟩
    · exact on b o (young b h2).1 (young b h2).2 (un.keep b o h1 h3 (by rw [gfs, ← hst]; exact hf) (gex b))
    · exact on b o hL nIa pa.1
    · exact on b o hL nIC pC.1
  · intro b o e hn hf hx
    have hL : b ≠ sc.heap.objs.size := fun z => hx (by simp [z])
    rcases cases4 b o e hL hn with ⟨h1, h2, h3⟩ | ⟨rfl, rfl⟩ | ⟨rfl, rfl⟩
    · obtain ⟨sl, e1⟩ := un.slot b o h1 h3 (by rw [gfs, ← hst]; exact hf) (gex b)
      exact ⟨sl, on b _ (young b h2).1 (young b h2).2 e1⟩
    · exact ⟨o.slots, on b o hL nIa pa.1⟩
    · exact ⟨o.slots, on b o hL nIC pC.1⟩
  · intro b o e hn hx
    have hL : b ≠ sc.heap.objs.size := fun z => hx (by simp [z])
    rcases cases4 b o e hL hn with ⟨h1, h2, h3⟩ | ⟨rfl, rfl⟩ | ⟨rfl, rfl⟩
    · exact un.free b o h1 h3 (gex b)
    · exact pa.2.1
    · exact pC.2.1
  · intro b o e hx
    have hL : b ≠ sc.heap.objs.size := fun z => hx (by simp [z])
    rcases new4 b o e with z | z | z | z | z
    · obtain ⟨o', e1⟩ := un.there b o (old4 b o e z) (gex b)
      exact ⟨o', on b o' (young b z).1 (young b z).2 e1⟩
    · exact absurd z hL
    · rw [z]; exact ⟨oa, on a oa (by rw [← z]; exact hL) nIa pa.1⟩
    · rw [z]
      obtain ⟨_, its, n, _, e1⟩ := Ig.hok D _ hD
      refine ⟨_, on D _ (by rw [← z]; exact hL) (fun q => ?_) e1⟩
      rw [q, fI.1] at hD; cases hD
    · rw [z]; exact ⟨oC, on C oC (by rw [← z]; exact hL) nIC pC.1⟩
  · intro b xs q
    have hbD : b ≠ D := fun z => by rw [z, upd_same] at q; cases q
    rw [upd_ne hbD] at q
    exact un.tups b xs q
  · intro b o u q
    have hbD : b ≠ D := fun z => by rw [z, upd_same] at q; cases q
    rw [upd_ne hbD] at q
    exact un.frzs b o u q
  · intro b ps q
    have hbD : b ≠ D := fun z => by rw [z, upd_same] at q; cases q
    rw [upd_ne hbD] at q
    exact un.tbls b ps q
  · rw [hP, hw]
    have z2 : H2 sc.heap.objs.size = none := Ig.free
    have nt : ∀ b u, H2 b = some u → b ≠ sc.heap.objs.size ∧ b ≠ I := fun b u q => ⟨fun z => (by rw [z, z2] at q; cases q), fun z => (by rw [z, fI.1] at q; cases q)⟩
    intro b u q
    refine (Ig.hok b u q).stay (fun c v hc z => ?_) (fun _ z => z) fun _ _ z => z
    have hc' : c ≠ sc.heap.objs.size ∧ c ≠ I := by
      rcases hc with z | z
      · rw [z]; exact nt b u q
      · exact nt c _ z
    exact on c v hc'.1 hc'.2 z
  · rw [List.mem_singleton.mp hm]; exact ⟨fL.2.2.2.1, fL.2.1, fL.2.2.2.2.1, fL.2.2.2.2.2⟩
end L2.K4
end
section
set_option Elab.async false
set_option linter.all false
set_option maxRecDepth 100000
set_option maxHeartbeats 4000000
/-! A list comprehension over a generator method: the loop. -/
namespace L2.K4
open PySem PySem.Spec PyProof.Rows GenW L2
open Sem (wp)

/-- [elt for target in o.m(..) if ..] over a generator method: t0, ti: its own statement ahead of the loop, what it loops over -/
def tLcg (N : List Str) (t0 : TS) (ti : TE) (tg : L2.St → Hp → (List V → Hp → Prop) → Prop) (g : TG) (tt : TT) (te : TE) (vs : List Nat) : TE := fun σ H Q => tg σ H fun args H1 => ∀ D, H1 D = none →
  t0 { rt := fun _ _ => False, nx := fun σ1 Ha => ti σ1 Ha fun v H2 => ∃ la xs, v = .ref la ∧ Rd H2 la (.lst xs) ∧ H2 D = some (.lst []) ∧ ∃ W : Nat → Hp → Prop, W 0 H2 ∧ ∀ i H3, W i H3 → Rd H3 la (.lst xs) ∧ (xs.length ≤ i → Q (.ref D) H3) ∧
      ∀ x, xs[i]? = some x → g x (wipe σ vs) H3 fun σ2 H4 => wipe σ2 vs = wipe σ vs ∧ tt σ2 H4 fun b H5 =>
        if b = true then te σ2 H5 fun y H6 => ∃ acc, H6 D = some (.lst acc) ∧ acc.length < sizeLine ∧ W (i + 1) (upd H6 D (.lst (acc ++ [y]))) else W (i + 1) H5 } (start N args) (upd H1 D (.lst []))

/-- a turn of the comprehension's loop, read -/
def LTurn (g : TG) (tt : TT) (te : TE) (vs : List Nat) (σ : L2.St) (Q : VK) (D la : Addr) (xs : List V) (W : Nat → Hp → Prop) : Prop := ∀ i H3, W i H3 → Rd H3 la (.lst xs) ∧ (xs.length ≤ i → Q (.ref D) H3) ∧
  ∀ x, xs[i]? = some x → g x (wipe σ vs) H3 fun σ2 H4 => wipe σ2 vs = wipe σ vs ∧ tt σ2 H4 fun b H5 =>
    if b = true then te σ2 H5 fun y H6 => ∃ acc, H6 D = some (.lst acc) ∧ acc.length < sizeLine ∧ W (i + 1) (upd H6 D (.lst (acc ++ [y]))) else W (i + 1) H5
/-- the generator sleeps before item i -/
structure LAt (M : Model) (A : Around) (Xb : Cx) (σw : L2.St) (gn L I la : Addr) (oa : Obj) (N i : Nat) (H : Hp) (s : Shared) : Prop where
  inv : Inv Xb [] σw H s
  gen : ∃ k l c p fs, s.gens[gn]? = some (.suspended k l c p fs false) ∧ YNx M A L I la N i k c fs
  ns : ∃ m, s.heap.Ns L m
  it : s.heap.IsListIter I la i
  obj : s.heap.get? (L + 1) = some oa
  hL : H L = none
  ha : H (L + 1) = none
  hI : FpOk Xb [] H I
  hne : L + 1 ≠ I
theorem Inv.same {X : Cx} {pins : List (Addr × Obj)} {σ : L2.St} {H : Hp} {s s' : Shared} (I : Inv X pins σ H s) (hh : s'.heap = s.heap) (ho : s'.os = s.os) (hb : AllBare s'.gens) : Inv X pins σ H s' :=
  ⟨I.ok, by rw [ho]; exact I.os, hb, by rw [hh]; exact I.base, by rw [hh]; exact I.loc, by rw [hh]; exact I.cell, I.free, I.freeC, by rw [hh]; exact I.pin, by rw [hh]; exact I.hok, I.len⟩
section
variable {X : Cx}
theorem lcg_core {pins : List (Addr × Obj)} {s : Shared} {σ : L2.St} {H : Hp} {Q : VK} {elt tgt iter : Expr} {ifs : List Expr} {scope : Scope} {own : List (Str × Nat)} {pos pos' : Pos} {g : TG} {tt : TT} {te : TE} {use : Option (Value → Sem Unit)} {Qf : Value → Shared → Prop}
    {gsc : Scope} {qual : Str} {f : Addr} {cdv : Value} {st0 : Stmt} {iter0 : Expr} {x : Str} {tp xp yp ypos fpos : Pos} {N ps : List Str} {tgen : L2.St → Hp → (List V → Hp → Prop) → Prop} {t0 : TS} {ti : TE}
    (hc : X.calm = true) (hN : X.N.Nodup) (I : Inv X pins σ H s) (hroom : X.A.depth < recursionLimit)
    (hi : PGn X iter gsc qual f cdv [st0, .For (.Name x tp) iter0 (yBody x xp yp ypos) [] fpos] ps tgen) (S : GScope N ps gsc) (hx : gsc.names.lookup x = some .local) (hdb : (x == ("__debug__" : Str)) = false)
    (hint : ∀ L, interactive (envOfC qual gsc L f cdv) = false) (hfs0 : ∀ L x, foldedSetIterable iter0 (envOfC qual gsc L f cdv) x = pure x)
    (hs0 : ∀ sc H, PS (gX X N qual gsc f cdv sc H) st0 t0) (hi0 : ∀ sc H, PE (gX X N qual gsc f cdv sc H) iter0 ti)
    (ok : BlkOk X.N X.env.scope scope own) (hnb : ∀ y ∈ scope.names, y.2 ≠ .cell)
    (hg : ∀ (s : Shared) (H : Hp) (C : Addr) (cl : List (Str × Addr)) (fp : List Addr), PG (X.blk s H scope (compEnvC scope cl C X.env) fp) tgt g) (ht : ∀ (s : Shared) (H : Hp) (C : Addr) (cl : List (Str × Addr)) (fp : List Addr), PTs (X.blk s H scope (compEnvC scope cl C X.env) fp) ifs tt)
    (he : ∀ (s : Shared) (H : Hp) (C : Addr) (cl : List (Str × Addr)) (fp : List Addr), PE (X.blk s H scope (compEnvC scope cl C X.env) fp) elt te) (hs : ∀ x, foldedSetIterable iter X.env x = pure x)
    (h : tLcg N t0 ti tgen g tt te (own.map (·.2)) σ H Q)
    (hRR : ∀ D C s' m H', Inv X pins σ H' s' → Q (.ref D) H' → s'.heap.Ns C m → FpOk X pins H' C → compPost (model X.prog X.w) X.A X.xe use Qf (.ref D) C (.ok .next) s') :
    wpAny (model X.prog X.w) X.A (comprehension (.ListComp elt [⟨tgt, iter, ifs, 0⟩] scope pos) scope X.env pos' (newList []) false (eval iter X.env) use) Qf X.xe s := by
  have hfree : ∀ y ∈ scope.names, y.2 = .free → ∃ c, X.env.cells.lookup y.1 = some c := fun y hy e => by
    rcases ok.free y hy e with k | k
    · exact I.ok.has _ (.inl k)
    · exact I.ok.has _ (.inr k)
  refine wpAny_comprehension_free (use := use) rfl hs (closure_ok hfree) ok.kind (fun y hy e => by rw [ok.uniq y hy, e])
    (thn (hi.run pins s σ H _ I h) fun xv s1 hx1 => ?_)
  obtain ⟨H1, sc, us, vs, I1, gn, rv, hl, q⟩ := hx1
  have ev := gn.val
  subst ev
  have hgen1 : s1.heap.IsGen (sc.heap.objs.size + 1) sc.gens.size := gn.gen
  refine wpAny_pyIter_gen hgen1 ?_
  refine wpAny_newObj_type (newEnv_comp ?_) (by show 0 ≤ sizeLine; decide)
  have ncl : sc.heap.objs.size + 2 = s1.heap.objs.size := gn.size.symm
  generalize hLd : sc.heap.objs.size = L
  have hsz1 : s1.heap.objs.size = L + 2 := by rw [gn.size, hLd]
  generalize hs3 : ({ s1 with heap := s1.heap.push { cls := .type "list", data := .seq ([] : List Value).toArray } } : Shared) = s3
  have h3 : s3.heap = s1.heap.push { cls := .type "list", data := .seq ([] : List Value).toArray } := by rw [← hs3]
  have hsz3 : s3.heap.objs.size = L + 3 := by rw [h3, Heap.size_push, hsz1]
  have bare1 : AllBare s1.gens := by rw [gn.gens]; exact AllBare.push I1.bare rfl
  have I1b : Inv X pins σ H1 s1 := I1.call' (ch := []) gn.os (Un.kept gn.keep) (I1.hok.kept gn.keep) bare1 fun b z => by simp at z
  have hDn : H1 (L + 2) = none := I1b.hok.fresh (Nat.le_of_eq hsz1)
  have q := q (L + 2) hDn
  have I3 : Inv X pins σ (upd H1 (L + 2) (.lst [])) s3 := by
    rw [← hs3]
    refine I1b.laid (t' := s1.toks) (fun b o e => Heap.get?_push_of_some _ e) (Nat.le_of_eq hsz1) ⟨Nat.zero_le _, [], 0, .nil, ?_⟩
    rw [← hsz1]
    exact Heap.get?_push_size _ rfl
  obtain ⟨oa, nm, qn, hoa, hoac, hoad, hoas⟩ := gn.gen
  rw [hLd] at hoa
  have f3 : ∀ b ∈ [L, L + 1], FpOk X pins (upd H1 (L + 2) (.lst [])) b ∧ b < s3.heap.objs.size := fun b hb => by
    have h1 : L ≤ b ∧ b < L + 2 := by
      rcases List.mem_cons.mp hb with z | z
      · rw [z]; exact ⟨Nat.le_refl _, Nat.lt_add_of_pos_right (by decide)⟩
      · rw [List.mem_singleton.mp z]; exact ⟨Nat.le_succ _, Nat.lt_succ_self _⟩
    refine ⟨I1.fpOk (by rw [hLd]; exact h1.1) ?_, by rw [hsz3]; exact Nat.lt_succ_of_lt h1.2⟩
    rw [upd_ne (Nat.ne_of_lt h1.2)]
    exact I1.hok.fresh (by rw [hLd]; exact h1.1)
  have I4 := block_start I3 ok hN f3
  have pg := hg s3 (upd H1 (L + 2) (.lst [])) s3.heap.objs.size (cellsFrom (s3.heap.objs.size + 1) scope.names (cloFrom X.env.cells scope.names [])) [L, L + 1]
  have pt := ht s3 (upd H1 (L + 2) (.lst [])) s3.heap.objs.size (cellsFrom (s3.heap.objs.size + 1) scope.names (cloFrom X.env.cells scope.names [])) [L, L + 1]
  have pe := he s3 (upd H1 (L + 2) (.lst [])) s3.heap.objs.size (cellsFrom (s3.heap.objs.size + 1) scope.names (cloFrom X.env.cells scope.names [])) [L, L + 1]
  rw [pushCells_nil _ _ hnb] at I4
  rw [hsz1, pushCells_nil _ _ hnb]
  show codeAny _ _ (.compStart (.ListComp elt [⟨tgt, iter, ifs, 0⟩] scope pos) 0 (.ref (L + 1)) (.ref (L + 2)) (compEnvC scope (cellsFrom (s3.heap.objs.size + 1) scope.names (cloFrom X.env.cells scope.names [])) s3.heap.objs.size X.env)) (compPost (model X.prog X.w) X.A X.xe use Qf (.ref (L + 2)) s3.heap.objs.size) { s3 with heap := s3.heap.push { cls := .type "dict", data := .dict #[] } }
  generalize hce : compEnvC scope (cellsFrom (s3.heap.objs.size + 1) scope.names (cloFrom X.env.cells scope.names [])) s3.heap.objs.size X.env = ce at I4 pg pt pe ⊢
  have cL : ce.locals = s3.heap.objs.size := by subst hce; rfl
  generalize hH3 : upd H1 (L + 2) (.lst []) = H3 at I3 I4 pg pt pe f3 q
  generalize hs4 : ({ s3 with heap := s3.heap.push { cls := .type "dict", data := .dict #[] } } : Shared) = s4 at I4 ⊢
  have h4 : s4.heap = s3.heap.push { cls := .type "dict", data := .dict #[] } := by rw [← hs4]
  have hsz4 : s4.heap.objs.size = L + 4 := by rw [h4, Heap.size_push, hsz3]
  have k14 : ∀ b o, s1.heap.get? b = some o → s4.heap.get? b = some o := fun b o e => by rw [h4, h3]; exact Heap.get?_push_of_some _ (Heap.get?_push_of_some _ e)
  have ha4 : s4.heap.get? (L + 1) = some oa := k14 _ _ hoa
  have hC4 : s4.heap.get? (L + 3) = some { cls := .type "dict", data := .dict #[] } := by rw [h4, ← hsz3]; exact Heap.get?_push_size _ rfl
  have hg4 : s4.gens = sc.gens.push (.fresh (.func [st0, .For (.Name x tp) iter0 (yBody x xp yp ypos) [] fpos] (envOfC qual gsc L f cdv))) := by
    rw [← hs4, ← hs3, ← hLd]; exact gn.gens
  have ho4 : s4.os = sc.os := by rw [← hs4, ← hs3]; exact gn.os
  have nX : ∀ b ∈ frs X.stack, b < sc.heap.objs.size := fun b hb => by
    rcases Nat.lt_or_ge b sc.heap.objs.size with z | z
    · exact z
    · rcases List.mem_cons.mp (I1.stkSub b hb) with q | q
      · rw [q]; exact I1.lt
      · exact absurd q (I1.nofs z)
  -- what follows an item
  have body : ∀ (i n' : Nat) (la I : Addr) (xs : List V) (W : Nat → Hp → Prop) (H6 : Hp) (s6 : Shared) (x : V) (u : Value), LTurn g tt te (own.map (·.2)) σ Q (L + 2) la xs W → W i H6 → xs[i]? = some x → RelV x u →
      LAt (model X.prog X.w) X.A.in1 (X.blk s3 H3 scope ce [L, L + 1]) (wipe σ (own.map (·.2))) sc.gens.size L I la oa n' (i + 1) H6 s6 →
      ∀ J : Shared → Prop, (∀ s' H', W (i + 1) H' → LAt (model X.prog X.w) X.A.in1 (X.blk s3 H3 scope ce [L, L + 1]) (wipe σ (own.map (·.2))) sc.gens.size L I la oa n' (i + 1) H' s' → J s') → ∀ E : Value → Shared → Prop,
      wpAny (model X.prog X.w) X.A (letOwnedTupleGo tgt (.ref (L + 1)) u) (fun _ s₁' => wpAny (model X.prog X.w) X.A (assign tgt ce u) (fun _ s₂ =>
          wpAny (model X.prog X.w) X.A (forIn ifs true fun c r => if r = true then do let ok ← isTrue c ce (eval c ce); pure (ForInStep.yield ok) else pure (ForInStep.yield r)) (fun ok s₃ =>
            if ok = true then wpAny (model X.prog X.w) X.A (eval elt ce) (fun x s₄ =>
              wpAny (model X.prog X.w) X.A (call (.builtin "list.append") [.ref (L + 2), x]) (fun _ s₅ => J s₅) E s₄) E s₃
            else J s₃) E s₂) E s₁') E s6 := by
    intro i n' la I xs W H6 s6 x u hT hW hxi ru la6 J hJ E
    obtain ⟨inv, ⟨k, l, c, p, fs, hgs, hnx⟩, ⟨mL, oL, esL, epL, hoL, hcL⟩, ⟨oI, hoI, hcI, hdI⟩, hob, hL, ha, hI, hne⟩ := la6
    obtain ⟨hla, _, hstep⟩ := hT i H6 hW
    have hstep := hstep x hxi
    refine go_of hob hoac hoad (by decide) ?_
    have stL : L ∈ [L, L + 1] := by simp
    have sta : L + 1 ∈ [L, L + 1] := by simp
    have I6 : Inv (X.blk s3 H3 scope ce [L, L + 1]) [(L, oL), (I, oI), (L + 1, oa)] (wipe σ (own.map (·.2))) H6 s6 := inv.pins_of fun p hp => by
      rcases List.mem_cons.mp hp with z | hp
      · rw [z]; exact ⟨hoL, hL, (inv.ok.exf L stL).1, inv.ok.exfs L stL, fun v q => by rw [hcL.1] at q; cases q⟩
      rcases List.mem_cons.mp hp with z | hp
      · rw [z]; exact ⟨hoI, hI.1, hI.2.1, hI.2.2.1, fun v q => by rw [hdI] at q; cases q⟩
      rw [List.mem_singleton.mp hp]; exact ⟨hob, ha, (inv.ok.exf (L + 1) sta).1, inv.ok.exfs (L + 1) sta, fun v q => by rw [hoad] at q; cases q⟩
    have fin : ∀ {σ8 : L2.St} {s' : Shared} {H' : Hp}, Inv (X.blk s3 H3 scope ce [L, L + 1]) [(L, oL), (I, oI), (L + 1, oa)] σ8 H' s' → wipe σ8 (own.map (·.2)) = wipe σ (own.map (·.2)) → s'.gens[sc.gens.size]? = some (.suspended k l c p fs false) → W (i + 1) H' → J s' := fun {σ8 s' H'} I' hw8 hg' nx => by
      have p1 := I'.pin (L, oL) (List.mem_append_right _ (by simp))
      have p2 := I'.pin (I, oI) (List.mem_append_right _ (by simp))
      have p3 := I'.pin (L + 1, oa) (List.mem_append_right _ (by simp))
      have hl8 : (wipe σ (own.map (·.2))).length = σ8.length := by rw [← hw8, wipe_length]
      refine hJ s' H' nx ⟨(I'.pins_of (pins' := []) fun p hp => by simp at hp).weak hl8 fun j v e => ?_, ⟨k, l, c, p, fs, hg', hnx⟩, ⟨mL, oL, esL, epL, p1.1, hcL⟩, ⟨oI, p2.1, hcI, hdI⟩, p3.1, p1.2.1, p3.2.1, ⟨p2.2.1, hI.2⟩, hne⟩
      rw [← hw8] at e
      exact (wipe_some e).1
    refine slept I6.bare hgs rfl (pg.run _ _ _ H6 x u _ (Inv.gens I6 (bare_stuck I6.bare)) ru hstep) fun _ s8 G ⟨σ8, H8, I8, hw8, q8⟩ hbG hg8 => ?_
    have I8 : Inv (X.blk s3 H3 scope ce [L, L + 1]) [(L, oL), (I, oI), (L + 1, oa)] σ8 H8 s8 := Inv.gens I8 (hbG I8.bare)
    refine slept I8.bare hg8 rfl (pt.run _ _ σ8 H8 _ (Inv.gens I8 (bare_stuck I8.bare)) q8) fun b s9 G ⟨H9, I9, q9⟩ hbG hg9 => ?_
    have I9 : Inv (X.blk s3 H3 scope ce [L, L + 1]) [(L, oL), (I, oI), (L + 1, oa)] σ8 H9 s9 := Inv.gens I9 (hbG I9.bare)
    cases b with
    | false =>
      simp only [Bool.false_eq_true, if_false] at q9 ⊢
      exact fin I9 hw8 hg9 q9
    | true =>
      simp only [if_true] at q9 ⊢
      refine slept I9.bare hg9 rfl (pe.run _ _ σ8 H9 _ (Inv.gens I9 (bare_stuck I9.bare)) q9) fun z s10 G ⟨yv, H10, I10, r10, acc, hD10, hz10, nx⟩ hbG hg10 => ?_
      have I10 : Inv (X.blk s3 H3 scope ce [L, L + 1]) [(L, oL), (I, oI), (L + 1, oa)] σ8 H10 s10 := Inv.gens I10 (hbG I10.bare)
      exact slept (Q := fun _ s' => Inv (X.blk s3 H3 scope ce [L, L + 1]) [(L, oL), (I, oI), (L + 1, oa)] σ8 (upd H10 (L + 2) (.lst (acc ++ [yv]))) s') I10.bare hg10 rfl (app_ok (X := X.blk s3 H3 scope ce [L, L + 1]) (Inv.gens I10 (bare_stuck I10.bare)) hD10 hz10 r10 fun s11 I11 => I11) fun _ s11 G I11 hbG hg11 => fin (Inv.gens I11 (hbG I11.bare)) hw8 hg11 nx
  -- what follows a turn of the generator
  have after : ∀ (i n' : Nat) (la I : Addr) (xs : List V) (its : List Value) (W : Nat → Hp → Prop) (H6 : Hp) (s5 s1' : Shared) (e : End), LTurn g tt te (own.map (·.2)) σ Q (L + 2) la xs W → W i H6 → Vals xs its →
      YOut L I la i its (fun k c fs => YNx (model X.prog X.w) X.A.in1 L I la n' (i + 1) k c fs) s5 e s1' → (∀ h' G, (∀ b o, s1'.heap.get? b = some o → h'.get? b = some o) → AllBare G → Inv (X.blk s3 H3 scope ce [L, L + 1]) [] (wipe σ (own.map (·.2))) H6 { s1' with heap := h', gens := G }) →
      AllBare s1'.gens → sc.gens.size < s1'.gens.size → s1'.heap.get? (L + 1) = some oa → H6 L = none → H6 (L + 1) = none → FpOk (X.blk s3 H3 scope ce [L, L + 1]) [] H6 I → L + 1 ≠ I →
      ∀ J : Shared → Prop, (i < xs.length → ∀ s' H', W (i + 1) H' → LAt (model X.prog X.w) X.A.in1 (X.blk s3 H3 scope ce [L, L + 1]) (wipe σ (own.map (·.2))) sc.gens.size L I la oa n' (i + 1) H' s' → J s') → ∀ E : Value → Shared → Prop,
      e.quiet = true ∧ match e with
        | .ret r => r = .ok (.ret .none) ∧ ∀ h', (∀ b o, s1'.heap.get? b = some o → h'.get? b = some o) → compPost (model X.prog X.w) X.A X.xe use Qf (.ref (L + 2)) s3.heap.objs.size (.ok .next) { s1'.setGen sc.gens.size .finished with heap := h' }
        | .susp u .. => wpAny (model X.prog X.w) X.A (letOwnedTupleGo tgt (.ref (L + 1)) u) (fun _ s₁' => wpAny (model X.prog X.w) X.A (assign tgt ce u) (fun _ s₂ =>
          wpAny (model X.prog X.w) X.A (forIn ifs true fun c r => if r = true then do let ok ← isTrue c ce (eval c ce); pure (ForInStep.yield ok) else pure (ForInStep.yield r)) (fun ok s₃ =>
            if ok = true then wpAny (model X.prog X.w) X.A (eval elt ce) (fun x s₄ =>
              wpAny (model X.prog X.w) X.A (call (.builtin "list.append") [.ref (L + 2), x]) (fun _ s₅ => J s₅) E s₄) E s₃
            else J s₃) E s₂) E s₁') E (s1'.setGen sc.gens.size e.genState) := by
    intro i n' la I xs its W H6 s5 s1' e hT hW rvs hout hinv hbare hgl hob hL ha hI hne J hJ E
    obtain ⟨hq, hych, hm⟩ := hout
    refine ⟨hq, ?_⟩
    cases hu : its[i]? with
    | none =>
      rw [hu] at hm
      have hm : e = .ret (.ok (.ret .none)) := hm
      subst hm
      refine ⟨rfl, fun h' hk => ?_⟩
      have hlen : xs.length ≤ i := by rw [rvs.length]; exact List.getElem?_eq_none_iff.mp hu
      obtain ⟨_, hend, _⟩ := hT i H6 hW
      have I6 : Inv (X.blk s3 H3 scope ce [L, L + 1]) [] (wipe σ (own.map (·.2))) H6 { s1'.setGen sc.gens.size .finished with heap := h' } := hinv h' _ hk (allBare_setGen hbare rfl)
      have I7 : Inv X pins σ H6 { s1'.setGen sc.gens.size .finished with heap := h' } := I3.call' (ch := [L, L + 1]) I6.os I6.base I6.hok I6.bare fun b hb => ⟨(f3 b hb).1.2.2.2.1, (f3 b hb).1.2.1, (f3 b hb).1.2.2.2.2.1, (f3 b hb).1.2.2.2.2.2⟩
      have nC : H6 s3.heap.objs.size = none := by
        have z : H6 ce.locals = none := I6.free
        rw [cL] at z
        exact z
      obtain ⟨m, hn, _⟩ := I6.loc
      have hn : h'.Ns ce.locals m := hn
      rw [cL] at hn
      exact hRR (L + 2) s3.heap.objs.size _ m H6 I7 (hend hlen) hn (I3.fpOk (Nat.le_refl _) nC)
    | some u =>
      rw [hu] at hm
      obtain ⟨gd, l, k, c, p, fs, he, hns, hit, hsp, hnx⟩ := hm
      subst he
      have hgd : (gd || fs.any Frame.guarded) = false := by simpa [End.quiet] using hq
      have hlt : i < xs.length := by rw [rvs.length]; exact (List.getElem?_eq_some_iff.mp hu).1
      obtain ⟨x, hxi, ru⟩ : ∃ x, xs[i]? = some x ∧ RelV x u := by
        obtain ⟨u', e', r'⟩ := Vals.get rvs (List.getElem?_eq_getElem hlt)
        rw [hu] at e'; cases e'
        exact ⟨_, List.getElem?_eq_getElem hlt, r'⟩
      refine body i n' la I xs W H6 _ x u hT hW hxi ru ⟨hinv s1'.heap _ (fun _ _ e => e) (allBare_setGen hbare (by show (!(gd || fs.any Frame.guarded)) = true; rw [hgd]; rfl)), ⟨k, l, c, p, fs, ?_, hnx⟩, hns, hit, hob, hL, ha, hI, hne⟩ J (hJ hlt) E
      show (s1'.gens.setIfInBounds sc.gens.size (.suspended k l c p fs (gd || fs.any Frame.guarded)))[sc.gens.size]? = _
      rw [hgd, Array.getElem?_setIfInBounds_self_of_lt hgl]
  have loop : codeAny (model X.prog X.w) X.A (.compLoop (.ListComp elt [⟨tgt, iter, ifs, 0⟩] scope pos) 0 (.ref (L + 1)) (.ref (L + 2)) ce) (compPost (model X.prog X.w) X.A X.xe use Qf (.ref (L + 2)) s3.heap.objs.size) s4 := by
    refine compLoop_any (fun n s' => (n = sizeLine + 2 ∧ s' = s4) ∨ ∃ (i : Nat) (la I : Addr) (xs : List V) (W : Nat → Hp → Prop) (H' : Hp), n = sizeLine + 1 - i ∧ 1 ≤ i ∧ i ≤ xs.length ∧ xs.length ≤ sizeLine ∧ LTurn g tt te (own.map (·.2)) σ Q (L + 2) la xs W ∧ W i H' ∧
      LAt (model X.prog X.w) X.A.in1 (X.blk s3 H3 scope ce [L, L + 1]) (wipe σ (own.map (·.2))) sc.gens.size L I la oa (sizeLine + 1 - i) i H' s') ?_ (sizeLine + 2) (.inl ⟨rfl, rfl⟩)
    rintro n s5 (⟨hn, hs5⟩ | ⟨i, la, I, xs, W, H5, hn, hi1, hil, hxl, hT, hW, la5⟩)
    · subst hs5
      subst hLd
      subst hH3
      obtain ⟨s1g, hin, hin1, hin2, hin4, hin3⟩ := gn.inc
      have e0w : Env0 X.prog X.w X.K X.mg X.base X.A.in1 X.stack sc H1 := ⟨I1.env0.frames, I1.env0.mod, I1.env0.bs, I1.env0.bsz, I1.env0.funs, I1.env0.frf, I1.env0.hok, I1.env0.bare⟩
      have Ig1 := inv_startG (E := fun _ _ _ => False) S (show X.A.in1.handled = none from I4.ok.hd hc) e0w hl rv hin
      have hD4 : s5.heap.get? (sc.heap.objs.size + 2) = some { cls := .type "list", data := .seq ([] : List Value).toArray } := by
        rw [h4, h3, ← hsz1]
        exact Heap.get?_push_of_some _ (Heap.get?_push_size _ rfl)
      have Ig2 := Ig1.laid (t' := s5.toks) (h' := s5.heap) (a := sc.heap.objs.size + 2) (o := .lst []) (fun b o e => k14 b o (hin3 b o e)) (by rw [hin4]; exact Nat.le_succ _) ⟨Nat.zero_le _, [], 0, .nil, hD4⟩
      have z1 : (upd H1 (sc.heap.objs.size + 2) (.lst [])) (sc.heap.objs.size + 1) = none := (f3 _ (by simp)).1.1
      have z0 : (upd H1 (sc.heap.objs.size + 2) (.lst [])) sc.heap.objs.size = none := (f3 _ (by simp)).1.1
      have z3 : (upd H1 (sc.heap.objs.size + 2) (.lst [])) (sc.heap.objs.size + 3) = none := by
        have z := I4.free
        rw [show (X.blk s3 (upd H1 (sc.heap.objs.size + 2) (.lst [])) scope ce [sc.heap.objs.size, sc.heap.objs.size + 1]).env.locals = ce.locals from rfl, cL, hsz3] at z
        exact z
      have nfr : ∀ b : Nat, sc.heap.objs.size ≤ b → b ∉ frs X.stack := fun b hb hm => absurd (nX b hm) (Nat.not_lt.mpr hb)
      have Ig3 : Inv (gX X N qual gsc f cdv sc H1) [(sc.heap.objs.size + 1, oa), (sc.heap.objs.size + 3, { cls := .type "dict", data := .dict #[] })] (start N vs) (upd H1 (sc.heap.objs.size + 2) (.lst [])) (s5.setGen sc.gens.size .running) := by
        refine (Inv.same Ig2 (s' := s5.setGen sc.gens.size .running) rfl (ho4.trans hin2.symm) (allBare_setGen I4.bare rfl)).pins_of fun p hp => ?_
        rcases List.mem_cons.mp hp with z | hp
        · rw [z]; exact ⟨ha4, z1, Nat.succ_ne_self _, nfr _ (Nat.le_succ _), fun v q => by rw [hoad] at q; cases q⟩
        · rw [List.mem_singleton.mp hp]; exact ⟨hC4, z3, Nat.ne_of_gt (Nat.lt_add_of_pos_right (by decide)), nfr _ (Nat.le_add_right _ _), fun v q => by cases q⟩
      have hgs : s5.gens[sc.gens.size]? = some (.fresh (.func [st0, .For (.Name x tp) iter0 (yBody x xp yp ypos) [] fpos] (envOfC qual gsc sc.heap.objs.size f cdv))) := by
        rw [hg4]; exact Array.getElem?_push_size
      have first := go_gsz (go_first (A := X.A.in1) (tp := tp) (xp := xp) (yp := yp) (pos := ypos) (fp := fpos) (R := fun la xs H2 => H2 (sc.heap.objs.size + 2) = some (.lst []) ∧ ∃ W : Nat → Hp → Prop, W 0 H2 ∧ LTurn g tt te (own.map (·.2)) σ Q (sc.heap.objs.size + 2) la xs W) rfl rfl
        (fun e s' z => wpAny_mono z (fun _ _ ⟨⟨_, _, _, _, _, _, _, _, _, _, _, _, hE⟩, _⟩ => hE.elim) fun _ _ z => z.elim) (hs0 sc H1) (hi0 sc H1) hx (hint _) S.co hdb (fun x => hfs0 _ x) sizeLine Ig3 q)
      refine wpAny_pyNext_go (I4.ok.hd hc) I4.nolimit hroom ⟨oa, nm, qn, ha4, hoac, hoad, hoas⟩ hgs first fun e s1' hout => ?_
      obtain ⟨⟨la, I, xs, its, σg, H2, s3g, Ig, hrd, rvs, ⟨hDD, W, hW0, hT⟩, hit0, hIlt, hIge, hall, fI, hyo⟩, hgl⟩ := hout
      have hyo : YOut sc.heap.objs.size I la 0 its (fun k c fs => YNx (model X.prog X.w) X.A.in1 sc.heap.objs.size I la sizeLine 1 k c fs) s3g e s1' := hyo
      have hych := hyo.2.1
      obtain ⟨_, _, _, hxl⟩ := Ig.list (.inl hrd)
      have pa := Ig.pin (sc.heap.objs.size + 1, oa) (List.mem_append_right _ (by simp))
      have pC := Ig.pin (sc.heap.objs.size + 3, { cls := .type "dict", data := .dict #[] }) (List.mem_append_right _ (by simp))
      have nIa : sc.heap.objs.size + 1 ≠ I := fI.2.2.2.2.2 (sc.heap.objs.size + 1, oa) (List.mem_append_right _ (by simp))
      have nIC : sc.heap.objs.size + 3 ≠ I := fI.2.2.2.2.2 (sc.heap.objs.size + 3, { cls := .type "dict", data := .dict #[] }) (List.mem_append_right _ (by simp))
      have hIC : sc.heap.objs.size + 3 < I := hall _ _ pC.1 nIC
      have fIb : FpOk (X.blk s3 (upd H1 (sc.heap.objs.size + 2) (.lst [])) scope ce [sc.heap.objs.size, sc.heap.objs.size + 1]) [] H2 I := ⟨fI.1, fun z => by
          have z : I = ce.locals := z
          rw [cL, hsz3] at z
          exact nIC z.symm, nfr I hIge, .inr (by rw [show (X.blk s3 (upd H1 (sc.heap.objs.size + 2) (.lst [])) scope ce [sc.heap.objs.size, sc.heap.objs.size + 1]).s_0 = s3 from rfl, hsz3]; exact Nat.le_of_lt hIC), fun y c e z => by
          obtain ⟨v, q⟩ := I4.cell y c e
          have := q.lt
          rw [hsz4, z] at this
          exact absurd (Nat.lt_of_lt_of_le this hIC) (Nat.lt_irrefl _), fun p hp => absurd (show p ∈ ([] : List (Addr × Obj)) ++ [] from hp) (by simp)⟩
      have fLb : FpOk (X.blk s3 (upd H1 (sc.heap.objs.size + 2) (.lst [])) scope ce [sc.heap.objs.size, sc.heap.objs.size + 1]) [] (upd H1 (sc.heap.objs.size + 2) (.lst [])) sc.heap.objs.size := ⟨z0, (I4.ok.exf _ (by simp)).1, I4.ok.exfs _ (by simp), .inl (by simp), fun x c e => (I4.ok.exf _ (by simp)).2 x c e, fun p hp => absurd (show p ∈ ([] : List (Addr × Obj)) ++ [] from hp) (by simp)⟩
      have old4 : ∀ b o, s5.heap.get? b = some o → b < sc.heap.objs.size → sc.heap.get? b = some o := fun b o e hlt => by
        rw [h4, get?_push_ne' _ _ (by rw [hsz3]; exact Nat.ne_of_lt (Nat.lt_of_lt_of_le hlt (Nat.le_add_right _ _))), h3, get?_push_ne' _ _ (by rw [hsz1]; exact Nat.ne_of_lt (Nat.lt_of_lt_of_le hlt (Nat.le_add_right _ _)))] at e
        exact gn.old b o e hlt
      have new4 : ∀ b o, s5.heap.get? b = some o → b < sc.heap.objs.size ∨ b = sc.heap.objs.size ∨ b = sc.heap.objs.size + 1 ∨ b = sc.heap.objs.size + 2 ∨ b = sc.heap.objs.size + 3 := fun b o e => by
        have hz := Heap.lt_size e
        rw [hsz4] at hz
        rcases Nat.lt_or_ge b sc.heap.objs.size with z | z
        · exact .inl z
        · obtain ⟨d, rfl⟩ := Nat.exists_eq_add_of_le z
          have hd : d < 4 := Nat.lt_of_add_lt_add_left hz
          rcases d with _ | _ | _ | _ | d
          · exact .inr (.inl rfl)
          · exact .inr (.inr (.inl rfl))
          · exact .inr (.inr (.inr (.inl rfl)))
          · exact .inr (.inr (.inr (.inr rfl)))
          · omega
      have key := after 0 sizeLine la I xs its W H2 s3g s1' e hT hW0 rvs hyo (fun h' G hk hb => first_back (X := X) (Xb := X.blk s3 (upd H1 (sc.heap.objs.size + 2) (.lst [])) scope ce [sc.heap.objs.size, sc.heap.objs.size + 1]) rfl rfl rfl I4 Ig hDD old4 new4 ha4 hC4 (Nat.le_add_right _ _) ho4 nX hych fI fLb hb hk) ?_ ?_ (hych.keep _ _ (Nat.succ_ne_self _) nIa pa.1) Ig.free pa.2.1 fIb nIa
        (fun s' => ∃ m, m < n ∧ ((m = sizeLine + 2 ∧ s' = s5) ∨ ∃ (i : Nat) (la I : Addr) (xs : List V) (W : Nat → Hp → Prop) (H' : Hp), m = sizeLine + 1 - i ∧ 1 ≤ i ∧ i ≤ xs.length ∧ xs.length ≤ sizeLine ∧ LTurn g tt te (own.map (·.2)) σ Q (sc.heap.objs.size + 2) la xs W ∧ W i H' ∧
      LAt (model X.prog X.w) X.A.in1 (X.blk s3 (upd H1 (sc.heap.objs.size + 2) (.lst [])) scope ce [sc.heap.objs.size, sc.heap.objs.size + 1]) (wipe σ (own.map (·.2))) sc.gens.size sc.heap.objs.size I la oa (sizeLine + 1 - i) i H' s')) (fun hlt s' H' hw' la' => ⟨sizeLine, by omega, .inr ⟨1, la, I, xs, W, H', rfl, Nat.le_refl _, hlt, hxl, hT, hw', la'⟩⟩)
      · refine ⟨(key fun _ _ => True).1, ?_⟩
        cases e with
        | ret r => exact (key fun _ _ => True).2
        | susp u gd l k c p fs => exact (key _).2
      · rw [hych.gens]; exact Ig.bare
      · refine Nat.lt_of_lt_of_le ?_ hgl
        show _ < (s5.gens.setIfInBounds _ _).size
        rw [Array.size_setIfInBounds, hg4, Array.size_push]
        exact Nat.lt_succ_self _
    · obtain ⟨inv, ⟨k, l, c, p, fs, hgs, hnx⟩, hns, hit, hob, hL, ha, hI, hne⟩ := la5
      obtain ⟨m, hm⟩ : ∃ m, sizeLine + 1 - i = m + 1 := ⟨sizeLine - i, by omega⟩
      rw [hm] at hnx
      obtain ⟨hla, _, _⟩ := hT i H5 hW
      obtain ⟨its, rvs, pls, hz⟩ := inv.list (.inl hla)
      have fL : FpOk (X.blk s3 H3 scope ce [L, L + 1]) [] H5 L := ⟨hL, (inv.ok.exf L (by simp)).1, inv.ok.exfs L (by simp), .inl (by simp), fun x c e => (inv.ok.exf L (by simp)).2 x c e, fun p hp => absurd (show p ∈ ([] : List (Addr × Obj)) ++ [] from hp) (by simp)⟩
      refine wpAny_pyNext_go (I4.ok.hd hc) inv.nolimit hroom ⟨oa, nm, qn, hob, hoac, hoad, hoas⟩ hgs (hnx _ its ⟨hns, hit, pls.isList⟩) fun e s1' hout => ?_
      have hych := hout.2.1
      have hgl : sc.gens.size < s1'.gens.size := by
        rw [hych.gens]
        show _ < (s5.gens.setIfInBounds _ _).size
        rw [Array.size_setIfInBounds]
        exact (Array.getElem?_eq_some_iff.mp hgs).1
      have hb1 : AllBare s1'.gens := by rw [hych.gens]; exact allBare_setGen inv.bare rfl
      have invR : Inv (X.blk s3 H3 scope ce [L, L + 1]) [] (wipe σ (own.map (·.2))) H5 (s5.setGen sc.gens.size .running) := Inv.gens inv (allBare_setGen inv.bare rfl)
      have key := after i m la I xs its W H5 _ s1' e hT hW rvs hout (fun h' G hk hb => Inv.ych invR hych hk fL hI hb) hb1 hgl (hych.keep _ _ (fun z => absurd z (Nat.succ_ne_self L)) hne hob) hL ha hI hne
        (fun s' => ∃ m, m < n ∧ ((m = sizeLine + 2 ∧ s' = s4) ∨ ∃ (i : Nat) (la I : Addr) (xs : List V) (W : Nat → Hp → Prop) (H' : Hp), m = sizeLine + 1 - i ∧ 1 ≤ i ∧ i ≤ xs.length ∧ xs.length ≤ sizeLine ∧ LTurn g tt te (own.map (·.2)) σ Q (L + 2) la xs W ∧ W i H' ∧
      LAt (model X.prog X.w) X.A.in1 (X.blk s3 H3 scope ce [L, L + 1]) (wipe σ (own.map (·.2))) sc.gens.size L I la oa (sizeLine + 1 - i) i H' s')) (fun hlt s' H' hw' la' => ⟨sizeLine + 1 - (i + 1), by omega, .inr ⟨i + 1, la, I, xs, W, H', rfl, by omega, hlt, hxl, hT, hw', by
          have e9 : sizeLine + 1 - (i + 1) = m := by omega
          rw [e9]; exact la'⟩⟩)
      refine ⟨(key fun _ _ => True).1, ?_⟩
      cases e with
      | ret r => exact (key fun _ _ => True).2
      | susp u gd l k c p fs => exact (key _).2
  refine codeAny_compStart_list loop (wpAny_pyIter_gen (g := sc.gens.size) ?_ loop)
  exact ⟨oa, nm, qn, ha4, hoac, hoad, hoas⟩
theorem pe_lcg {elt tgt iter : Expr} {ifs : List Expr} {scope : Scope} {own : List (Str × Nat)} {pos : Pos} {g : TG} {tt : TT} {te : TE}
    {gsc : Scope} {qual : Str} {f : Addr} {cdv : Value} {st0 : Stmt} {iter0 : Expr} {x : Str} {tp xp yp ypos fpos : Pos} {N ps : List Str} {tgen : L2.St → Hp → (List V → Hp → Prop) → Prop} {t0 : TS} {ti : TE}
    (hc : X.calm = true) (hN : X.N.Nodup) (hroom : X.A.depth < recursionLimit)
    (hi : PGn X iter gsc qual f cdv [st0, .For (.Name x tp) iter0 (yBody x xp yp ypos) [] fpos] ps tgen) (S : GScope N ps gsc) (hx : gsc.names.lookup x = some .local) (hdb : (x == ("__debug__" : Str)) = false)
    (hint : ∀ L, interactive (envOfC qual gsc L f cdv) = false) (hfs0 : ∀ L x, foldedSetIterable iter0 (envOfC qual gsc L f cdv) x = pure x)
    (hs0 : ∀ sc H, PS (gX X N qual gsc f cdv sc H) st0 t0) (hi0 : ∀ sc H, PE (gX X N qual gsc f cdv sc H) iter0 ti)
    (ok : BlkOk X.N X.env.scope scope own) (hnb : ∀ y ∈ scope.names, y.2 ≠ .cell)
    (hg : ∀ (s : Shared) (H : Hp) (C : Addr) (cl : List (Str × Addr)) (fp : List Addr), PG (X.blk s H scope (compEnvC scope cl C X.env) fp) tgt g) (ht : ∀ (s : Shared) (H : Hp) (C : Addr) (cl : List (Str × Addr)) (fp : List Addr), PTs (X.blk s H scope (compEnvC scope cl C X.env) fp) ifs tt)
    (he : ∀ (s : Shared) (H : Hp) (C : Addr) (cl : List (Str × Addr)) (fp : List Addr), PE (X.blk s H scope (compEnvC scope cl C X.env) fp) elt te) (hs : ∀ x, foldedSetIterable iter X.env x = pure x := by intro _; rfl) :
    PE X (.ListComp elt [⟨tgt, iter, ifs, 0⟩] scope pos) (tLcg N t0 ti tgen g tt te (own.map (·.2))) := by
  refine ⟨fun pins s σ H Q I h => ?_⟩
  rw [eval_ListComp]
  refine lcg_core hc hN I hroom hi S hx hdb hint hfs0 hs0 hi0 ok hnb hg ht he hs h fun D C s' m H' I' q hn f => ⟨m, hn, fun h'' sb => ?_⟩
  obtain ⟨f0, f1, f2, f3, f4, f5⟩ := f
  exact ⟨.ref D, H', I'.turned (t' := s'.toks) (fun b o hb e => (sb.2 b hb).trans e) f0 f1 f3 f4 f5, rfl, q⟩
end
end L2.K4
end
section
set_option Elab.async false
set_option linter.all false
set_option maxRecDepth 100000
set_option maxHeartbeats 4000000
/-! The web, made. -/
namespace L2.K4
open PySem PySem.Spec PyProof.Rows L2
theorem TabF.kd {f : Nat → Nat → Int} {m n : Nat} {H H' : Hp} {T p C dx : Addr} {rs : List Addr} {fs : List (Str × V)} (h : TabF f m n H T rs) (k : KD p H H') (hp : H p = some (.ins C dx fs)) : TabF f m n H' T rs :=
  ⟨k _ _ (by rintro rfl; have := h.at_; rw [hp] at this; cases this) h.at_, h.len, fun i r q => k _ _ (by rintro rfl; have := h.row i _ q; rw [hp] at this; cases this) (h.row i r q)⟩
theorem TbA.kd {K : PySem.W.Frag} {H H' : Hp} {t p C dx : Addr} {ls ms : List Str} {gc cc : Str → Int} (h : TbA K H t ls ms gc cc) (k : KD p H H') (hp : H p = some (.ins C dx [])) : TbA K H' t ls ms gc cc := by
  obtain ⟨tdx, ol, nl, cp, T, E, rs, rs', tb⟩ := h
  refine ⟨tdx, ol, nl, cp, T, E, rs, rs', k _ _ (by rintro rfl; have := tb.at_; rw [hp] at this; cases this) tb.at_, k _ _ (by rintro rfl; have := tb.old; rw [hp] at this; cases this) tb.old, k _ _ (by rintro rfl; have := tb.new; rw [hp] at this; cases this) tb.new, tb.cost.kd k hp, tb.beg.kd k hp, tb.end_.kd k hp⟩
theorem kd_erase {p : Addr} {H : Hp} : KD p H (er p H) := fun a o hn h => by rw [er_ne hn]; exact h
theorem er_self {p : Addr} {H : Hp} : er p H p = none := if_pos rfl
/-- the places of a web, row by row -/
def plsN (v : Pl → Bool) (m n : Nat) : List Pl := ((List.range m).flatMap fun i => (List.range n).map fun j => (i, j)).filter v
def webPls (W : K34.Web) : List Pl := plsN W.v (W.m + 1) (W.n + 1)
theorem mem_pls {W : K34.Web} {q : Pl} : q ∈ webPls W ↔ W.v q = true := by
  unfold webPls plsN
  rw [List.mem_filter, List.mem_flatMap]
  constructor
  · exact fun h => h.2
  · intro h
    have b := W.vb h
    exact ⟨⟨q.1, List.mem_range.mpr (Nat.lt_succ_of_le b.1), List.mem_map.mpr ⟨q.2, List.mem_range.mpr (Nat.lt_succ_of_le b.2), rfl⟩⟩, h⟩
def webFs (ol nl cp d : Addr) : List (Str × V) := [("own_old", .ref ol), ("own_new", .ref nl), ("own_costs", .ref cp), ("own_steps", .ref d)]
/-- at d stand the web's steps -/
def StepsAt (P : Program) (w : World) (K : PySem.W.Frag) (H : Hp) (d : Addr) (W : K34.Web) (qs : List Pl) (kvs : List (NK × V)) : Prop :=
  ND P w K H d kvs ∧ kvs.map (·.1) = qs.map plK ∧ ∀ q ∈ qs, ∃ l xs, valV kvs (plK q) = some (.ref l) ∧ H l = some (.lst xs) ∧ AtL K H ((W.wst q).map plK) xs
/-- at p stands the web W -/
def WebA (P : Program) (w : World) (K : PySem.W.Frag) (H : Hp) (p : Addr) (W : K34.Web) : Prop := ∃ dx ol nl cp d kvs, H p = some (.ins (He.ga K "Web") dx (webFs ol nl cp d)) ∧ StepsAt P w K H d W (webPls W) kvs
theorem StepsAt.ex {P : Program} {w : World} {K : PySem.W.Frag} {H H' : Hp} {d : Addr} {W : K34.Web} {qs : List Pl} {kvs : List (NK × V)} (h : StepsAt P w K H d W qs kvs) (e : Ex H H') : StepsAt P w K H' d W qs kvs :=
  ⟨h.1.ex e, h.2.1, fun q hq => let ⟨l, xs, a, b, c⟩ := h.2.2 q hq; ⟨l, xs, a, e _ _ b, AtL.keep (Ex.tk e) _ _ c⟩⟩
theorem WebA.ex {P : Program} {w : World} {K : PySem.W.Frag} {H H' : Hp} {p : Addr} {W : K34.Web} (h : WebA P w K H p W) (e : Ex H H') : WebA P w K H' p W := let ⟨dx, ol, nl, cp, d, kvs, a, b⟩ := h; ⟨dx, ol, nl, cp, d, kvs, e _ _ a, b.ex e⟩
section
variable {P : Program} {w : World} {K : PySem.W.Frag} {mg : Str → Option Value} {base : Heap}
def spWebInit (P : Program) (w : World) (K : PySem.W.Frag) : Sp := fun vs H Q _ => ∃ p dx a b cp ls ms gc cc, vs = [.ref p, .ref a, .ref b, .ref cp] ∧ H p = some (.ins (He.ga K "Web") dx []) ∧ SqL K H a (ls.map V.str) ∧ LOk ls ∧ SqL K H b (ms.map V.str) ∧ LOk ms ∧ CostAt K H cp gc cc ∧
  ∀ H', KD p H H' → WebA P w K H' p (K34.dweb ls ms gc cc) → Q .non H'
theorem plsN_nil {v : Pl → Bool} {n : Nat} : plsN v 0 n = [] := rfl
def preN (v : Pl → Bool) (i j n : Nat) : List Pl := plsN v i n ++ ((List.range j).map fun b => ((i, b) : Pl)).filter v
theorem preN_full {v : Pl → Bool} {i n : Nat} : preN v i n n = plsN v (i + 1) n := by
  unfold preN plsN
  rw [List.range_succ, List.flatMap_append, List.filter_append]
  simp
theorem preN_zero {v : Pl → Bool} {i n : Nat} : preN v i 0 n = plsN v i n := by unfold preN; simp
theorem preN_succ {v : Pl → Bool} {i j n : Nat} : preN v i (j + 1) n = preN v i j n ++ (if v (i, j) = true then [(i, j)] else []) := by
  unfold preN
  rw [List.range_succ, List.map_append, List.filter_append, List.append_assoc]
  congr 2
  by_cases h : v (i, j) = true <;> simp [h]
theorem preN_new {v : Pl → Bool} {i j n : Nat} : (i, j) ∉ preN v i j n := by
  unfold preN plsN
  rw [List.mem_append, List.mem_filter, List.mem_filter, List.mem_flatMap, List.mem_map]
  rintro (⟨⟨a, h1, h2⟩, _⟩ | ⟨⟨b, h1, h2⟩, _⟩)
  · obtain ⟨b, _, h3⟩ := List.mem_map.mp h2
    cases h3
    exact absurd (List.mem_range.mp h1) (Nat.lt_irrefl _)
  · cases h2
    exact absurd (List.mem_range.mp h1) (Nat.lt_irrefl _)
theorem preN_len {v : Pl → Bool} {i j n m : Nat} (hi : i ≤ m) (hj : j ≤ n) : (preN v i j n).length ≤ m * n + n := by
  unfold preN plsN
  rw [List.length_append]
  have h1 := List.length_filter_le v ((List.range i).flatMap fun i => (List.range n).map fun j => ((i, j) : Pl))
  have h2 := List.length_filter_le v ((List.range j).map fun b => ((i, b) : Pl))
  have h3 : ((List.range i).flatMap fun i => (List.range n).map fun j => ((i, j) : Pl)).length = i * n := by
    rw [List.length_flatMap]
    simp only [List.length_map, List.length_range]
    clear hi h1 h2
    induction i with
    | zero => simp
    | succ i ih => rw [List.range_succ, List.map_append, List.sum_append, ih, Nat.succ_mul]; simp
  rw [List.length_map, List.length_range] at h2
  have h4 := Nat.mul_le_mul_right n hi
  omega
theorem plK_inj {p q : Pl} (h : plK p = plK q) : p = q := by
  obtain ⟨a, b⟩ := p; obtain ⟨c, d⟩ := q
  unfold plK at h
  injection h with h
  injection h with h1 h
  injection h with h2 _
  injection h1 with h1
  injection h2 with h2
  have e1 : a = c := Int.ofNat.inj h1
  have e2 : b = d := Int.ofNat.inj h2
  rw [e1, e2]
theorem valV_none {kvs : List (NK × V)} {k : NK} (h : k ∉ kvs.map (·.1)) : valV kvs k = none := by
  induction kvs with
  | nil => rfl
  | cons p ps ih =>
    rw [List.map_cons, List.mem_cons] at h
    rw [valV_neg (fun e => h (.inl e.symm)), ih (fun e => h (.inr e))]
theorem putK_new {kvs : List (NK × V)} {k : NK} {v : V} (h : k ∉ kvs.map (·.1)) : putK kvs k v = kvs ++ [(k, v)] := by
  unfold putK
  rw [if_neg]
  intro e
  obtain ⟨p, hp, hk⟩ := List.any_eq_true.mp e
  exact h (List.mem_map.mpr ⟨p, hp, of_decide_eq_true hk⟩)
theorem valV_app {kvs : List (NK × V)} {k k' : NK} {v : V} (h : k ∉ kvs.map (·.1)) : valV (kvs ++ [(k, v)]) k' = if k' = k then some v else valV kvs k' := by
  induction kvs with
  | nil =>
    by_cases e : k' = k
    · rw [if_pos e]; exact valV_pos e.symm
    · rw [if_neg e]; exact (valV_neg fun z => e z.symm)
  | cons p ps ih =>
    rw [List.map_cons, List.mem_cons] at h
    rw [List.cons_append]
    by_cases e : p.1 = k'
    · rw [valV_pos e, valV_pos e, if_neg (fun z => h (.inl (z.symm.trans e.symm)))]
    · rw [valV_neg e, valV_neg e, ih (fun z => h (.inr z))]
end
end L2.K4
end
section
set_option Elab.async false
set_option linter.all false
set_option maxRecDepth 100000
set_option maxHeartbeats 4000000
/-! The web's making. -/
namespace L2.K4
open PySem PySem.Spec PyProof.Rows L2
section
variable {P : Program} {w : World} {K : PySem.W.Frag} {mg : Str → Option Value} {base : Heap}
abbrev NW : List Str := ["self", "old", "new", "costs", "tables", "begin_table", "end_table", "i", "row", "j", "number", "one"]
theorem TabF.l {f : Nat → Nat → Int} {m n : Nat} {H H' : Hp} {T : Addr} {rs : List Addr} (h : TabF f m n H T rs) (k : ∀ a xs, H a = some (.lst xs) → H' a = some (.lst xs)) : TabF f m n H' T rs := ⟨k _ _ h.at_, h.len, fun i r q => k _ _ (h.row i r q)⟩
theorem rowF_len {f : Nat → Int} {n : Nat} : (rowF f n).length = n + 1 := by unfold rowF; rw [List.length_map, List.length_range]
theorem ok_web_init (c : Cf K mg) : Kp P w K mg base 9 (He.ma K (He.ga K "Web") "__init__") (spWebInit P w K) := by
  obtain ⟨fd, F⟩ := F_Web___init__ c
  obtain ⟨fo, Fo⟩ := F_Tables_onward c
  obtain ⟨oc, od, dV, kV, doc, pm, an, cdo, ct, osl, rfl, lko, hcdo, hDo, _⟩ := Fo.ex
  have bo : Binds K (PySem.W.fnOf "onward" "Tables.onward" (defArgs s_Tables_onward) (defBody s_Tables_onward) (defScope s_Tables_onward) dV kV doc pm an cdo ct) ["self", "place"] [] := Fo.bindsN fun _ _ _ _ _ _ us hl => match us, hl with | [_, _], _ => rfl
  have nd : NW.Nodup := by decide +kernel
  have So : GScope ["self", "place", "other"] ["self", "place"] (defScope s_Tables_onward) := ⟨rfl, rfl, rfl, by decide +kernel, rfl, by decide +kernel, by decide +kernel⟩
  refine kp_of F (N := NW) (ps := ["self", "old", "new", "costs"]) ⟨rfl, rfl, rfl, nd, rfl, by decide +kernel, by decide +kernel⟩ (F.bindsN fun _ _ _ _ _ _ us hl => match us, hl with | [_, _, _, _], _ => rfl) (fun vs H Q E h => ?_) (fun cdv A outer s H vs Q E hr h => ?_)
  · obtain ⟨p, dx, a, b, cp, ls, ms, gc, cc, rfl, _⟩ := h; rfl
  · obtain ⟨p, dx, a, b, cp, ls, ms, gc, cc, rfl, hp, hA, hl, hB, hm, hC, k⟩ := h
    have cl := (c.cls "Web" (by decide +kernel)).1
    have clT := c.cls "Tables" (by decide +kernel)
    have hu9 : (A.deeper (envOfC "Web.__init__" (defScope s_Web___init__) s.heap.objs.size (He.ma K (He.ga K "Web") "__init__") cdv)).units + 9 < cLine := by have := hr.units; omega
    refine ⟨_, pss_cons (ps_set (i := 4) nd rfl (.inr rfl) (StX.pe_makeR clT.2 (ok_tables_init c) (hr.mono (by decide)) (by rfl) (c.glo "Tables" (by decide +kernel)).1 pass0 (pa_cons (pv 1) (pa_cons (pv 2) (pa_cons (pv 3) pa_nil)))))
      (pss_cons (ps_fld (pv 0) (pe_callTy call_list_of (by rfl) (c.free "list" (by decide +kernel)) (by decide +kernel) (pa_cons (pv 1) pa_nil)) rfl)
      (pss_cons (ps_fld (pv 0) (pe_callTy call_list_of (by rfl) (c.free "list" (by decide +kernel)) (by decide +kernel) (pa_cons (pv 2) pa_nil)) rfl)
      (pss_cons (ps_fld (pv 0) (pv 3) rfl)
      (pss_cons (ps_fld (pv 0) (pe_dnewN (pos := _)) rfl)
      (pss_cons (ps_par (i := 5) (j := 6) rfl nd rfl rfl (by decide) rfl rfl (pa_cons (pe_prp c (C := "Tables") (gt_begin_table c) hr (pv 4)) (pa_cons (pe_prp c (C := "Tables") (gt_end_table c) hr (pv 4)) pa_nil)) (by rfl))
      (pss_one (ps_for PassesOwn.never rfl (pi_enum (by rfl) (c.free "enumerate" (by decide +kernel)) (pa_cons (pv 5) pa_nil)) (pg_tup rfl (pgs_cons (pg_name (i := 7) nd rfl (.inr rfl)) (pgs_cons (pg_name (i := 8) nd rfl (.inl rfl)) pgs_nil)))
        (pss_one (ps_for PassesOwn.never rfl (pi_enum (by rfl) (c.free "enumerate" (by decide +kernel)) (pa_cons (pv 8) pa_nil)) (pg_tup rfl (pgs_cons (pg_name (i := 9) nd rfl (.inr rfl)) (pgs_cons (pg_name (i := 10) nd rfl (.inl rfl)) pgs_nil)))
          (pss_one (ps_if (pt_cmpR op_eq (pe_op op_add (pv 10) (pe_ix ix_list (pe_ix ix_list (pv 6) (pv 7) (fun _ _ => rfl)) (pv 9) (fun _ _ => rfl))) (pe_prp c (C := "Tables") (gt_total c) hr (pv 4)) (nomark _))
            (pss_one (ps_asg (pe_lcg (own := [("one", 11)]) (g := gName 11) (N := ["self", "place", "other"]) (t0 := tDrop (tMethR (He.ga K "Tables") "check_place" (spCheckPlace K) E0 (tVar 0) (tCons (tVar 1) tNil))) (ti := tCal (spNext K) (tCons (tFld K (tVar 0) "old_lines") (tCons (tFld K (tVar 0) "new_lines") (tCons (tVar 1) tNil))))
                (tt := tTest (tOp rEq (tMethR (He.ga K "Tables") "slack" (spSlack K) E0 (tVar 4) (tCons (tTup (tCons (tVar 7) (tCons (tVar 9) tNil))) (tCons (tVar 11) tNil))) (tC (.int 0)))) rfl nd hr.depth (pgn_meth (k := 2) (m := "onward") lko hcdo So (by decide +kernel) (by decide +kernel) (pv 4) clT.1 (c.meth ("Tables", "onward") (by decide +kernel)) (hr.mono (by decide)) bo (pa_cons (pe_tup (pa_cons (pv 7) (pa_cons (pv 9) pa_nil))) pa_nil))
                So rfl (by decide) (fun _ => rfl) (fun _ _ => rfl) ?hs0 ?hi0 (blkOk_by (N := NW) (sc := defScope s_Web___init__) (by decide +kernel)) (by decide +kernel)
                (fun _ _ _ _ _ => pg_name (i := 11) nd rfl (Or.inl rfl)) (fun _ _ _ _ _ => pts_one ?ht) (fun _ _ _ _ _ => pv 11))
              (pg_sub (pe_fld (pv 0) rfl) (pe_tup (pa_cons (pv 7) (pa_cons (pv 9) pa_nil))) (set_N hu9))))
            pss_nil))))))))))), ?_⟩
    case hs0 =>
      intro sc H'
      have hrG : Room 6 (gX (cxOf CX0 P w K mg base NW "Web.__init__" (defScope s_Web___init__) (He.ma K (He.ga K "Web") "__init__") cdv A outer s H E).nox ["self", "place", "other"] "Tables.onward" (defScope s_Tables_onward) (He.ma K (He.ga K "Tables") "onward") cdo sc H').A := (hr.in1).deeper _
      exact ps_expr (pe_met c (C := "Tables") (ok_check_place c) hrG (pv 0) (pa_cons (pv 1) pa_nil))
    case hi0 =>
      intro sc H'
      have hrG : Room 6 (gX (cxOf CX0 P w K mg base NW "Web.__init__" (defScope s_Web___init__) (He.ma K (He.ga K "Web") "__init__") cdv A outer s H E).nox ["self", "place", "other"] "Tables.onward" (defScope s_Tables_onward) (He.ma K (He.ga K "Tables") "onward") cdo sc H').A := (hr.in1).deeper _
      exact pe_cal c (ok_next_places c) hrG (pa_cons (pe_fld (pv 0) rfl) (pa_cons (pe_fld (pv 0) rfl) (pa_cons (pv 1) pa_nil)))
    case ht =>
      exact pt_cmpR op_eq (pe_met c (C := "Tables") (ok_slack c) hr (pv 4) (pa_cons (pe_tup (pa_cons (pv 7) (pa_cons (pv 9) pa_nil))) (pa_cons (pv 11) pa_nil))) pe_int (nomark _)
    refine ⟨_, rfl, _, rfl, _, rfl, fun t tdx0 ht htd hne => ?_⟩
    have E0' : Ex H (upd (upd H tdx0 (.own t)) t (.ins (He.ga K "Tables") tdx0 [])) := (Ex.laid htd).mut ht
    refine ⟨t, tdx0, a, b, cp, ls, ms, gc, cc, rfl, upd_same, exl E0' hA, hl, exl E0' hB, hm, hC.ex E0', fun H1 k1 TA1 => ⟨rfl, ?_⟩⟩
    have e1 : Ex H H1 := fun x o hx => k1 x o (ne_of_none hx ht) (E0' x o hx)
    have hp1 := e1 _ _ hp
    -- all that stood, but the web
    have B1 : Ex (er p H1) H1 := ex_er
    have hBp : (er p H1) p = none := er_self
    have hAB := sql_kd kd_erase hp1 (exl e1 hA)
    have hBB := sql_kd kd_erase hp1 (exl e1 hB)
    have TAB := TA1.kd kd_erase hp1
    generalize hB0 : er p H1 = B at B1 hBp hAB hBB TAB
    have kB : ∀ H', Ex B H' → KD p H H' := fun H' e x o hn hx => e x o (by rw [← hB0, er_ne hn]; exact e1 x o hx)
    refine ⟨_, rfl, a, _, rfl, .inl (exl e1 hA), fun ol hol => ?_⟩
    have n1 : ol ≠ p := (ne_of_none hp1 hol).symm
    refine ⟨_, rfl, p, _, dx, _, rfl, by rw [upd_ne n1.symm]; exact hp1, cl, c.noat ("Web", "own_old") (by decide +kernel), by decide, ?_⟩
    generalize hH3 : upd (upd H1 ol (.lst (ls.map V.str))) p _ = H3
    have e3 : Ex B H3 := by rw [← hH3]; exact Ex.mut (B1.trans (Ex.laid hol)) hBp
    have hp3 : H3 p = some (.ins (He.ga K "Web") dx [("own_old", .ref ol)]) := by rw [← hH3, upd_same]; rfl
    refine ⟨_, rfl, b, _, rfl, .inl (exl e3 hBB), fun nl hnl => ?_⟩
    have n2 : nl ≠ p := (ne_of_none hp3 hnl).symm
    refine ⟨_, rfl, p, _, dx, _, rfl, by rw [upd_ne n2.symm]; exact hp3, cl, c.noat ("Web", "own_new") (by decide +kernel), by show 1 < 1000; decide, ?_⟩
    generalize hH4 : upd (upd H3 nl (.lst (ms.map V.str))) p _ = H4
    have e4 : Ex B H4 := by rw [← hH4]; exact Ex.mut (e3.trans (Ex.laid hnl)) hBp
    have hp4 : H4 p = some (.ins (He.ga K "Web") dx [("own_old", .ref ol), ("own_new", .ref nl)]) := by rw [← hH4, upd_same]; rfl
    refine ⟨_, rfl, _, rfl, p, _, dx, _, rfl, hp4, cl, c.noat ("Web", "own_costs") (by decide +kernel), by show 2 < 1000; decide, ?_⟩
    generalize hH5 : upd H4 p _ = H5
    have e5 : Ex B H5 := by rw [← hH5]; exact Ex.mut e4 hBp
    have hp5 : H5 p = some (.ins (He.ga K "Web") dx [("own_old", .ref ol), ("own_new", .ref nl), ("own_costs", .ref cp)]) := by rw [← hH5, upd_same]; rfl
    refine fun d H6 hd e6 nd6 he6 => ?_
    have n3 : d ≠ p := (ne_of_none hp5 hd).symm
    have hBd : B d = none := e5.free hd
    refine ⟨_, rfl, p, _, dx, _, rfl, e6 _ _ hp5, cl, c.noat ("Web", "own_steps") (by decide +kernel), by show 3 < 1000; decide, ?_⟩
    generalize hH7 : upd H6 p _ = H7
    have e7 : Ex B H7 := by rw [← hH7]; exact Ex.mut (e5.trans e6) hBp
    have hp7 : H7 p = some (.ins (He.ga K "Web") dx (webFs ol nl cp d)) := by rw [← hH7, upd_same]; rfl
    have nd7 : ND P w K H7 d [] := nd6.keep (by rw [← hH7]; exact TK.ins (e6 _ _ hp5)) fun o ho => by rw [← hH7, upd_ne n3]; exact ho
    obtain ⟨tdx, tol, tnl, tcp, TT, TE, rs, rs', tb⟩ := TAB
    have TBx : ∀ H', Ex B H' → TbA K H' t ls ms gc cc := fun H' e => ⟨tdx, tol, tnl, tcp, TT, TE, rs, rs', tb.ex e⟩
    refine ⟨_, rfl, t, tdx, _, rfl, e7 _ _ tb.at_, t, ls, ms, gc, cc, rfl, hl, TBx H7 e7, fun H8 bt rsb e8 tb8 => ?_⟩
    refine ⟨_, rfl, t, tdx, _, rfl, (e7.trans e8) _ _ tb.at_, t, ls, ms, gc, cc, rfl, hl, TBx H8 (e7.trans e8), fun H9 et rse e9 te9 => ⟨_, _, rfl, ?_⟩⟩
    have e79 := e8.trans e9
    have nd9 : ND P w K H9 d [] := nd7.ex e79
    obtain ⟨φ, hext⟩ := nd9.isExt
    have tb9 := tb8.ex e9
    -- all that stands, but the dict
    have lst2 : ∀ x xs, H9 x = some (.lst xs) → (er d H9) x = some (.lst xs) := fun x xs hx => by rw [er_ne (by rintro rfl; rw [hext] at hx; cases hx)]; exact hx
    have tb2 := tb9.l lst2
    have te2 := te9.l lst2
    have hp2 : (er d H9) p = some (.ins (He.ga K "Web") dx (webFs ol nl cp d)) := by rw [er_ne n3.symm]; exact e79 _ _ hp7
    have eB2 : Ex B (er d H9) := fun x o hx => by rw [er_ne (ne_of_none hx hBd)]; exact (e7.trans e79) x o hx
    have B29 : Ex (er d H9) H9 := ex_er
    have hB2d : (er d H9) d = none := er_self
    generalize hB2 : er d H9 = B2 at tb2 te2 hp2 eB2 B29 hB2d
    let v : Pl → Bool := (K34.dweb ls ms gc cc).v
    have vdef : ∀ i j, i ≤ ls.length → j ≤ ms.length → (v (i, j) = true ↔ K34.Pd ls ms gc cc (i, j) + K34.Qd ls ms gc cc (i, j) = K34.Dd ls ms gc cc) := fun i j h1 h2 => ⟨fun h => ((K34.dweb_v ls ms gc cc).mp h).2, fun h => (K34.dweb_v ls ms gc cc).mpr ⟨⟨h1, h2⟩, h⟩⟩
    let St : L2.St → Prop := fun σ => ∃ o7 o8 o9 o10, σ = [some (.ref p), some (.ref a), some (.ref b), some (.ref cp), some (.ref t), some (.ref bt), some (.ref et), o7, o8, o9, o10, none]
    let Inv0 : Nat → Nat → Hp → Prop := fun i j H' => Ex B2 H' ∧ ∃ kvs, StepsAt P w K H' d (K34.dweb ls ms gc cc) (preN v i j (ms.length + 1)) kvs
    refine ⟨_, rfl, bt, _, rfl, .inl (.inl tb9.at_), ?_⟩
    have lb : (rsb.map V.ref).length = ls.length + 1 := by rw [List.length_map, tb2.len]
    refine forG (n := (rsb.map V.ref).length) (Y := fun i x H' => ∃ U y, x = V.ref U ∧ H' U = some (.tup [.int (i : Nat), y]) ∧ (rsb.map V.ref)[i]? = some y) (fun i σ' H' => St σ' ∧ Inv0 i 0 H') ⟨⟨none, none, none, none, rfl⟩, B29, [], nd9, rfl, fun q hq => by cases hq⟩
      (fun i σ' H' _ q => sw_enum (.inl (.inl (q.2.1 _ _ tb2.at_)))) (fun i x σ' H' H'' hi q ex hx => ?_) fun σ' H' q => ?_
    · obtain ⟨⟨o7, o8, o9, o10, rfl⟩, e, kvs, sa⟩ := q
      obtain ⟨U, y, rfl, hU, hy⟩ := hx
      rw [lb] at hi
      obtain ⟨r, hr1, rfl⟩ : ∃ r, rsb[i]? = some r ∧ y = V.ref r := by
        rw [List.getElem?_map] at hy
        cases q : rsb[i]? with
        | none => rw [q] at hy; cases hy
        | some r => rw [q] at hy; exact ⟨r, rfl, (Option.some.inj hy).symm⟩
      have e' := e.trans ex
      refine ⟨U, _, rfl, .inl (.inl hU), rfl, _, _, rfl, _, _, rfl, rfl, ?_⟩
      refine ⟨_, rfl, r, _, rfl, .inl (.inl (e' _ _ (tb2.row i r hr1))), ?_⟩
      refine forG (n := (rowF (fun j => K34.Pd ls ms gc cc (i, j)) ms.length).length) (Y := fun j x H' => ∃ U y, x = V.ref U ∧ H' U = some (.tup [.int (j : Nat), y]) ∧ (rowF (fun j => K34.Pd ls ms gc cc (i, j)) ms.length)[j]? = some y)
        (fun j σ' H' => (∃ o9 o10, σ' = [some (.ref p), some (.ref a), some (.ref b), some (.ref cp), some (.ref t), some (.ref bt), some (.ref et), some (.int i), some (.ref r), o9, o10, none]) ∧ Inv0 i j H')
        ⟨⟨o9, o10, rfl⟩, e', kvs, sa.ex ex⟩ (fun j σ' H' _ q => sw_enum (.inl (.inl (q.2.1 _ _ (tb2.row i r hr1))))) (fun j x σ' H3 H4 hj q ex2 hx2 => ?_) fun σ' H' q => ?_
      · obtain ⟨⟨o9, o10, rfl⟩, e3', kvs3, sa3⟩ := q
        obtain ⟨U2, y2, rfl, hU2, hy2⟩ := hx2
        rw [rowF_len] at hj
        have hjm : j ≤ ms.length := Nat.le_of_lt_succ hj
        have him : i ≤ ls.length := Nat.le_of_lt_succ hi
        rw [rowF_at hjm] at hy2
        cases hy2
        have e4' := e3'.trans ex2
        have sa4 := sa3.ex ex2
        obtain ⟨rE, hrE⟩ : ∃ r, rse[i]? = some r := ⟨_, List.getElem?_eq_getElem (by rw [te2.len]; exact hi)⟩
        refine ⟨U2, _, rfl, .inl (.inl hU2), rfl, _, _, rfl, _, _, rfl, rfl, ?_⟩
        refine ⟨_, rfl, _, rfl, _, rfl, et, _, _, _, rfl, rfl, .inl (.inl (e4' _ _ te2.at_)), atI_nat (by rw [List.getElem?_map, hrE]; rfl), _, rfl, rE, _, _, _, rfl, rfl, .inl (.inl (e4' _ _ (te2.row i rE hrE))), atI_nat (rowF_at hjm), _, _, rfl, rfl, ?_⟩
        have hdec : decide (V.int (K34.Pd ls ms gc cc (i, j) + K34.Qd ls ms gc cc (i, j)) = V.int (K34.Dd ls ms gc cc)) = v (i, j) := by
          rw [Bool.eq_iff_iff, decide_eq_true_iff, vdef i j him hjm]
          exact ⟨V.int.inj, congrArg V.int⟩
        refine ⟨_, rfl, t, tdx, _, rfl, (eB2.trans e4') _ _ tb.at_, t, ls, ms, gc, cc, rfl, TBx H4 (eB2.trans e4'), rfl, v (i, j), congrArg V.bl hdec, ?_⟩
        by_cases hv : v (i, j) = true
        · rw [hv]
          refine iteT ?_
          -- tables.onward((i, j))
          refine ⟨_, rfl, t, tdx, _, rfl, (eB2.trans e4') _ _ tb.at_, rfl, _, rfl, _, rfl, by show 2 ≤ sizeLine; decide, fun z hz => ⟨rfl, fun D hD => ?_⟩⟩
          have ez := Ex.laid (o := .tup [.int (i : Nat), .int (j : Nat)]) hz
          have eD := Ex.laid (o := .lst []) hD
          have e5' := (e4'.trans ez).trans eD
          have hz5 := eD _ _ (show (upd H4 z (.tup [.int (i : Nat), .int (j : Nat)])) z = some (.tup (plV (i, j))) from upd_same)
          have hat : At K (upd (upd H4 z (.tup [.int (i : Nat), .int (j : Nat)])) D (.lst [])) (plK (i, j)) (.ref z) := pl_at (.inl (.inl hz5))
          have tb5 := tb.ex (eB2.trans e5')
          have clT1 := clT.1
          have hib : inB ls ms (i, j) := ⟨him, hjm⟩
          refine ⟨_, rfl, t, tdx, _, rfl, tb5.at_, rfl, _, rfl, t, .ref z, (i, j), ls, ms, gc, cc, rfl, TBx _ (eB2.trans e5'), hat, hib, ?_⟩
          refine ⟨_, rfl, t, _, tdx, _, _, rfl, tb5.at_, clT1, c.noat ("Tables", "old_lines") (by decide +kernel), rfl, _, rfl, t, _, tdx, _, _, rfl, tb5.at_, clT1, c.noat ("Tables", "new_lines") (by decide +kernel), rfl, _, rfl, tol, tnl, .ref z, ls, ms, (i, j), rfl, .inl (.inl tb5.old), .inl (.inl tb5.new), hat, fun H6' l xs e6' hl0 h1 hatl => ?_⟩
          have hD6 : H6' D = some (.lst []) := e6' _ _ upd_same
          have nlD : l ≠ D := fun q => by rw [q, upd_same] at hl0; cases hl0
          have e56 := e5'.trans e6'
          have hB2D : B2 D = none := (e4'.trans ez).free hD
          -- what stands, but the new list
          have lst3 : ∀ x o, H6' x = some o → (∀ ys, o ≠ .lst ys) → (er D H6') x = some o := fun x o hx hn => by rw [er_ne (by rintro rfl; rw [hD6] at hx; exact hn _ (Option.some.inj hx).symm)]; exact hx
          have eB3 : Ex B2 (er D H6') := fun x o hx => by rw [er_ne (ne_of_none hx hB2D)]; exact e56 x o hx
          have hl3 : (er D H6') l = some (.lst xs) := by rw [er_ne nlD]; exact h1
          have at3 : AtL K (er D H6') ((K34.nxt ls ms (i, j)).map plK) xs := AtL.keep (fun x ys hq => by
            rcases hq with (hq | ⟨o, hq⟩) | hq
            · exact .inl (.inl (lst3 _ _ hq fun _ q => by cases q))
            · exact .inl (.inr ⟨o, lst3 _ _ hq fun _ q => by cases q⟩)
            · exact .inr hq) _ _ hatl
          have hz3 : (er D H6') z = some (.tup (plV (i, j))) := lst3 _ _ (e6' _ _ hz5) fun _ q => by cases q
          have sa6 : StepsAt P w K H6' d (K34.dweb ls ms gc cc) (preN v i j (ms.length + 1)) kvs3 := ((sa4.ex ez).ex eD).ex e6'
          have sa3 : StepsAt P w K (er D H6') d (K34.dweb ls ms gc cc) (preN v i j (ms.length + 1)) kvs3 := by
            have sa := sa4.ex ez
            have ee : Ex (upd H4 z (.tup [.int (i : Nat), .int (j : Nat)])) (er D H6') := fun x o hx => by
              rw [er_ne (ne_of_none hx hD)]
              exact e6' x o (eD x o hx)
            exact sa.ex ee
          have hB3D : (er D H6') D = none := er_self
          have B36 : Ex (er D H6') H6' := ex_er
          generalize hB3 : er D H6' = B3 at eB3 hl3 at3 hz3 sa3 hB3D B36
          let fl : Pl → Bool := fun q => decide (K34.Pd ls ms gc cc (i, j) + K34.cost ls ms gc cc (i, j) q + K34.Qd ls ms gc cc q - K34.Dd ls ms gc cc = 0)
          have hlen : xs.length = (K34.nxt ls ms (i, j)).length := by have q := AtL.length at3; rw [List.length_map] at q; exact q
          have h3le : (K34.nxt ls ms (i, j)).length ≤ 3 := by
            unfold K34.nxt
            rw [List.length_append, List.length_append]
            have q1 : (if i < ls.length then [((i + 1, j) : Pl)] else []).length ≤ 1 := by split <;> simp
            have q2 : (if i < ls.length ∧ j < ms.length ∧ K34.eqi ls ms i j = true then [((i + 1, j + 1) : Pl)] else []).length ≤ 1 := by split <;> simp
            have q3 : (if j < ms.length then [((i, j + 1) : Pl)] else []).length ≤ 1 := by split <;> simp
            show (if i < ls.length then [((i + 1, j) : Pl)] else []).length + ((if i < ls.length ∧ j < ms.length ∧ K34.eqi ls ms i j = true then [((i + 1, j + 1) : Pl)] else []).length + (if j < ms.length then [((i, j + 1) : Pl)] else []).length) ≤ 3
            omega
          refine ⟨l, xs, rfl, .inl h1, hD6, fun kk H' => Ex B3 H' ∧ kk ≤ xs.length ∧ ∃ acc, H' D = some (.lst acc) ∧ AtL K H' ((((K34.nxt ls ms (i, j)).take kk).filter fl).map plK) acc, ⟨B36, Nat.zero_le _, [], hD6, AtL.nil⟩, fun kk H' hW => ?_⟩
          obtain ⟨eW, hkk, acc, hacc, hatA⟩ := hW
          refine ⟨.inl (eW _ _ hl3), fun hend => ?_, fun x hx => ?_⟩
          · -- the store
            have ht : (K34.nxt ls ms (i, j)).take kk = K34.nxt ls ms (i, j) := List.take_of_length_le (by omega)
            rw [ht] at hatA
            have wst : (K34.dweb ls ms gc cc).wst (i, j) = (K34.nxt ls ms (i, j)).filter fl := K34.dweb_wst ls ms gc cc hib
            rw [← wst] at hatA
            have eW2 := eB3.trans eW
            refine ⟨_, rfl, p, _, dx, _, _, rfl, eW2 _ _ hp2, cl, c.noat ("Web", "own_steps") (by decide +kernel), rfl, _, rfl, _, rfl, by show 2 ≤ sizeLine; decide, fun z2 hz2 => ?_⟩
            have ez2 := Ex.laid (o := .tup [.int (i : Nat), .int (j : Nat)]) hz2
            have saW := (sa3.ex eW).ex ez2
            have newk : plK (i, j) ∉ kvs3.map (·.1) := by
              rw [saW.2.1]
              intro hm2
              obtain ⟨q, hq, he⟩ := List.mem_map.mp hm2
              rw [plK_inj he] at hq
              exact preN_new hq
            have kl : kvs3.length < sizeLine := by
              have q := congrArg List.length saW.2.1
              rw [List.length_map, List.length_map] at q
              have q2 := preN_len (v := v) (i := i) (j := j) (n := ms.length + 1) (m := 4) (Nat.le_trans him hl.1) (Nat.le_of_lt hj)
              have q3 := hm.1
              have q4 : 4 * (ms.length + 1) + (ms.length + 1) ≤ 25 := by omega
              exact Nat.lt_of_le_of_lt (show kvs3.length ≤ 25 by omega) (by decide)
            refine ⟨d, kvs3, plK (i, j), rfl, saW.1, pl_at (.inl (.inl upd_same)), ⟨_, rfl⟩, plK_depth _, kl, fun H'' he'' tk'' nd'' => ?_⟩
            have nDd : D ≠ d := by
              rintro rfl
              obtain ⟨φ, q⟩ := saW.1.isExt
              rw [ez2 _ _ hacc] at q; cases q
            have keep'' : ∀ x o, H' x = some o → x ≠ d → H'' x = some o := fun x o hx hn => by rw [he'' x hn]; exact ez2 x o hx
            have eN : Ex B2 H'' := fun x o hx => keep'' x o (eW2 x o hx) (ne_of_none hx hB2d)
            refine ⟨⟨_, _, rfl⟩, eN, putK kvs3 (plK (i, j)) (.ref D), nd'', ?_, fun q hq => ?_⟩
            · rw [putK_new newk, List.map_append, saW.2.1, preN_succ, if_pos hv, List.map_append]; rfl
            · rw [preN_succ, if_pos hv, List.mem_append] at hq
              rw [putK_new newk, valV_app newk]
              by_cases hqe : q = (i, j)
              · rw [hqe, if_pos rfl]
                exact ⟨D, acc, rfl, keep'' _ _ hacc nDd, AtL.keep tk'' _ _ (AtL.keep (Ex.tk ez2) _ _ hatA)⟩
              · rw [if_neg (fun q' => hqe (plK_inj q'))]
                rcases hq with hq | hq
                · obtain ⟨l', xs', g1, g2, g3⟩ := saW.2.2 q hq
                  have nl' : l' ≠ d := by
                    rintro rfl
                    obtain ⟨φ, q⟩ := saW.1.isExt
                    rw [g2] at q; cases q
                  exact ⟨l', xs', g1, by rw [he'' _ nl']; exact g2, AtL.keep tk'' _ _ g3⟩
                · exact absurd (List.mem_singleton.mp hq) hqe
          · -- a turn
            have hat' : AtL K H' ((K34.nxt ls ms (i, j)).map plK) xs := AtL.keep (Ex.tk eW) _ _ at3
            have hklt : kk < xs.length := (List.getElem?_eq_some_iff.mp hx).1
            obtain ⟨key, hk1, hk2⟩ := AtL.get hat' hx
            have hyk : (K34.nxt ls ms (i, j))[kk]? = some ((K34.nxt ls ms (i, j))[kk]'(by omega)) := List.getElem?_eq_getElem (by omega)
            rw [List.getElem?_map, hyk] at hk1
            cases hk1
            generalize hyd : (K34.nxt ls ms (i, j))[kk]'(by omega) = y at hyk hk2
            have hyn : y ∈ K34.nxt ls ms (i, j) := by rw [← hyd]; exact List.getElem_mem _
            have eW2 := eB3.trans eW
            refine ⟨rfl, _, rfl, t, tdx, _, rfl, (eB2.trans eW2) _ _ tb.at_, rfl, _, rfl, _, rfl, by show 2 ≤ sizeLine; decide, fun z2 hz2 => ?_⟩
            have ez2 := Ex.laid (o := .tup [.int (i : Nat), .int (j : Nat)]) hz2
            have hdec2 : decide (V.int (K34.Pd ls ms gc cc (i, j) + K34.cost ls ms gc cc (i, j) y + K34.Qd ls ms gc cc y - K34.Dd ls ms gc cc) = V.int 0) = fl y := by
              rw [Bool.eq_iff_iff, decide_eq_true_iff, decide_eq_true_iff]
              exact ⟨V.int.inj, congrArg V.int⟩
            refine ⟨_, rfl, t, .ref z2, x, (i, j), y, ls, ms, gc, cc, rfl, TBx _ ((eB2.trans eW2).trans ez2), hl, hm, pl_at (.inl (.inl upd_same)), At.keep (Ex.tk ez2) _ _ hk2, hib, hyn, fun H7' e7' => ⟨rfl, fl y, congrArg V.bl hdec2, ?_⟩⟩
            have eN := eW.trans (ez2.trans e7')
            have tkN := AtL.keep (Ex.tk (ez2.trans e7')) _ _ hatA
            have haccN := (ez2.trans e7') _ _ hacc
            have htake : (K34.nxt ls ms (i, j)).take (kk + 1) = (K34.nxt ls ms (i, j)).take kk ++ [y] := by rw [List.take_succ, hyk]; rfl
            cases hf : fl y with
            | true =>
              refine ⟨_, rfl, acc, haccN, ?_, ?_⟩
              · have q := AtL.length hatA
                rw [List.length_map] at q
                have q2 := List.length_filter_le fl ((K34.nxt ls ms (i, j)).take kk)
                have q3 : ((K34.nxt ls ms (i, j)).take kk).length ≤ 3 := by rw [List.length_take]; omega
                exact Nat.lt_of_le_of_lt (show acc.length ≤ 3 by omega) (by decide)
              · have tkD := TK.lst (K := K) (o := .lst (acc ++ [x])) haccN
                refine ⟨Ex.mut eN hB3D, hklt, acc ++ [x], upd_same, ?_⟩
                rw [htake, List.filter_append, List.map_append, show [y].filter fl = [y] by simp [hf]]
                exact (AtL.keep tkD _ _ tkN).append (AtL.one (At.keep tkD _ _ (At.keep (Ex.tk (ez2.trans e7')) _ _ hk2)))
            | false =>
              refine ⟨eN, hklt, acc, haccN, ?_⟩
              rw [htake, List.filter_append, show [y].filter fl = [] by simp [hf], List.append_nil]
              exact tkN
        · rw [show v (i, j) = false by simpa using hv]
          refine iteF ⟨⟨_, _, rfl⟩, e4', kvs3, ?_⟩
          rw [preN_succ, if_neg hv, List.append_nil]
          exact sa4
      · obtain ⟨⟨o9, o10, rfl⟩, e3', kvs3, sa3⟩ := q
        rw [rowF_len, preN_full] at sa3
        exact ⟨⟨_, _, _, _, rfl⟩, e3', kvs3, by rw [preN_zero]; exact sa3⟩
    · obtain ⟨_, e, kvs, sa⟩ := q
      rw [lb, preN_zero] at sa
      exact k H' (kB H' (eB2.trans e)) ⟨dx, ol, nl, cp, d, kvs, e _ _ hp2, sa⟩
end
end L2.K4
end
section
set_option Elab.async false
set_option linter.all false
set_option maxRecDepth 100000
set_option maxHeartbeats 4000000
/-! list(d) of a dict keyed by nested data. -/
namespace L2.K4
open PySem PySem.Spec PyProof.Rows
section
variable {X : Cx} {pins : List (Addr × Obj)} {σ : St} {H : Hp} {s : Shared}
def rListN (P : Program) (w : World) (K : PySem.W.Frag) : List V → Hp → VK → Prop := fun vs H Q => ∃ a kvs, vs = [.ref a] ∧ ND P w K H a kvs ∧ ∀ p xs, H p = none → AtL K H (kvs.map (·.1)) xs → Q (.ref p) (upd H p (.lst xs))
theorem rows_keys {K : PySem.W.Frag} {H : Hp} {kvs : List (NK × V)} {xs : XsT} (h : Paired (RowOk K H) kvs xs) : AtL K H (kvs.map (·.1)) (xs.map fun q => V.ref q.2.1) := by
  induction h with
  | nil => exact AtL.nil
  | cons h t ih => exact AtL.cons h.2.1 ih
theorem vals_refs {xs : XsT} {us : List Value} (hl : us.length = xs.length) (h : ∀ (j : Nat) v, us[j]? = some v → ∃ y, xs[j]? = some y ∧ v = .ref y.2.1) : Vals (xs.map fun q => V.ref q.2.1) us := by
  induction xs generalizing us with
  | nil => cases us with
    | nil => exact .nil
    | cons u us => simp at hl
  | cons x xs ih => cases us with
    | nil => simp at hl
    | cons u us =>
      obtain ⟨y, h1, h2⟩ := h 0 u rfl
      cases h1
      exact .cons h2 (ih (by simpa using hl) fun j v hv => by
        obtain ⟨y, h3, h4⟩ := h (j + 1) v (by simpa using hv)
        exact ⟨y, by simpa using h3, h4⟩)
theorem call_listN (hcalm : X.calm = true) : CallR X (.type "list") (rListN X.prog X.w X.K) := by
  intro pins s σ H vs us Q I r q
  obtain ⟨a, kvs, ex, hN, q⟩ := q
  subst ex
  obtain ⟨u, eu, rx⟩ := vals1 r
  subst eu
  cases rx
  obtain ⟨xs, h1, h2, h3, h4, h5⟩ := hN.dictOf I
  obtain ⟨es, ep, hraw, hsz, hrow⟩ := h5.raw
  have hlen : kvs.length = xs.length := Paired.length h2
  refine PySem.W.kdl_call (KdlSrc.rawDict (es := es) (ep := ep) h4) (I.ok.hd hcalm) hraw (by rw [hsz, ← hlen]; exact h3) fun h' tk acc c' hk hD hacc => ?_
  have hv : Vals (xs.map fun q => V.ref q.2.1) acc.toList := vals_refs (by rw [Array.length_toList, hacc.1, hsz]) fun j v e => by
    obtain ⟨hj, e2⟩ := hacc.2 j v (by rw [← Array.getElem?_toList]; exact e)
    obtain ⟨y, y1, y2, _⟩ := hrow j hj
    exact ⟨y, y1, by rw [e2, y2]⟩
  refine ⟨.ref s.heap.objs.size, upd H s.heap.objs.size (.lst (xs.map fun q => V.ref q.2.1)), I.laid (t' := tk) hk (Nat.le_refl _)
    (show ObjOk X.prog X.w _ _ _ (.lst (xs.map fun q => V.ref q.2.1)) from ⟨by rw [List.length_map, ← hlen]; exact h3, acc.toList, c', hv, by rw [Array.toArray_toList]; exact hD⟩), rfl, q _ _ (I.hok.fresh (Nat.le_refl _)) (rows_keys h2)⟩
end
end L2.K4
end
section
set_option Elab.async false
set_option linter.all false
set_option maxRecDepth 100000
set_option maxHeartbeats 400000
/-! zip(a, b, strict=False). -/
namespace PySem.F
open PySem
theorem typeCall_zip_strict (a b c : Value) : checkTypeCall "zip" ⟨[a, b], [(Str.ofString "strict", c)]⟩ = pure () := by kernel_rfl
theorem newCall_zip_strict (a b c : Value) : checkBuiltinCall "zip.__new__" ⟨[.type "zip", a, b], [(Str.ofString "strict", c)]⟩ = pure () := by kernel_rfl
theorem args_object_init_strict (obj a b c : Value) : argsOk "object.__init__" ⟨[obj, a, b], [(Str.ofString "strict", c)]⟩ := by unfold argsOk; kernel_rfl
end PySem.F
namespace PySem
open Sem (wp)
set_option maxHeartbeats 2000000 in
theorem meets_zip_newBK {v1 v2 : Value} {o1 o2 : Obj} {H1 H2 : Heap → Prop} (B1 : Begins v1 o1 H1) (B2 : Begins v2 o2 H2) :
    Meets (Builtin.«zip.__new__» ⟨[.type "zip", v1, v2], [(Str.ofString "strict", .bool false)]⟩) (fun _ R s => (H1 s.heap ∧ H2 s.heap) ∧
      R (.ok (.ret (.ref (gzO2 s.heap o1 o2).objs.size))) { s with heap := gzZ2 s.heap o1 o2 }) :=
  .of_wp fun prog w A R s h => by
    obtain ⟨hp, g, d, tk, os⟩ := s; obtain ⟨⟨h1, h2⟩, h⟩ := h
    have hsub := sub_zip
    have q1 : ∀ {A' : Around} {E : Value → Shared → Prop} {Q : Value → Shared → Prop}, Q (.ref hp.objs.size) ⟨(hp.push o1), g, d, tk, os⟩ → wpAny (model prog w) A' (pyIter v1) Q E ⟨hp, g, d, tk, os⟩ :=
      fun q => B1.iter prog w _ _ ⟨hp, g, d, tk, os⟩ _ (B1.keeps _ _ h1 fun b o' e => e) q
    have q2 : ∀ {A' : Around} {E : Value → Shared → Prop} {Q : Value → Shared → Prop}, Q (.ref (hp.push o1).objs.size) ⟨((hp.push o1).push o2), g, d, tk, os⟩ → wpAny (model prog w) A' (pyIter v2) Q E ⟨(hp.push o1), g, d, tk, os⟩ :=
      fun q => B2.iter prog w _ _ ⟨(hp.push o1), g, d, tk, os⟩ _ (B2.keeps _ _ h2 fun b o' e => (Heap.get?_push_of_some _ e)) q
    have e1 : (Str.ofString "strict" != ("strict" : Str)) = false := by decide +kernel
    wp_walk using q1, q2
    exact ⟨_, rfl, h⟩
end PySem
namespace L2.K4
open PySem PySem.Spec PyProof.Rows L2
section
variable {prog : Program} {w : World} {A : Around} {E : Value → Shared → Prop} {s : Shared}
/-- zip(v1, v2, strict=False): its five new cells -/
theorem zipK_begins {v1 v2 : Value} {o1 o2 : Obj} {H1 H2 : Heap → Prop} {Q : Value → Shared → Prop} (B1 : Begins v1 o1 H1) (B2 : Begins v2 o2 H2) (h1 : H1 s.heap) (h2 : H2 s.heap)
    (h : ∀ h', IsZip h' (s.heap.objs.size + 4) (s.heap.objs.size + 2) (s.heap.objs.size + 3) .none → IsPair h' (s.heap.objs.size + 2) (.ref s.heap.objs.size) (.ref (s.heap.objs.size + 1)) →
      IsPair h' (s.heap.objs.size + 3) .none .none → h'.get? s.heap.objs.size = some o1 → h'.get? (s.heap.objs.size + 1) = some o2 → h'.objs.size = s.heap.objs.size + 5 →
      (∀ c o, s.heap.get? c = some o → h'.get? c = some o) → Q (.ref (s.heap.objs.size + 4)) { s with heap := h' }) :
    wpAny (model prog w) A (call (.type "zip") [v1, v2] [(Str.ofString "strict", .bool false)]) Q E s := by
  refine callType_newKw F.called_zip (by decide) (F.typeCall_zip_strict _ _ _) (F.newCall_zip_strict _ _ _) (fun obj => F.args_object_init_strict obj _ _ _) F.entry_zip_new (meets_zip_newBK B1 B2) ⟨⟨h1, h2⟩, ?_⟩
  have z1 : (s.heap.push o1).objs.size = s.heap.objs.size + 1 := by rw [Heap.size_push]
  have z2 : ((s.heap.push o1).push o2).objs.size = s.heap.objs.size + 2 := by rw [Heap.size_push, z1]
  have z3 : (gzT2 s.heap o1 o2).objs.size = s.heap.objs.size + 3 := by rw [Heap.size_push, z2]
  have z4 : (gzO2 s.heap o1 o2).objs.size = s.heap.objs.size + 4 := by rw [Heap.size_push, z3]
  have z5 : (gzZ2 s.heap o1 o2).objs.size = s.heap.objs.size + 5 := by rw [Heap.size_push, z4]
  have g5 : (gzZ2 s.heap o1 o2).get? (gzO2 s.heap o1 o2).objs.size = some _ := Heap.get?_push_size _ rfl
  have g4 : (gzZ2 s.heap o1 o2).get? (gzT2 s.heap o1 o2).objs.size = some _ := Heap.get?_push_of_some _ (Heap.get?_push_size _ rfl)
  have g3 : (gzZ2 s.heap o1 o2).get? ((s.heap.push o1).push o2).objs.size = some _ := Heap.get?_push_of_some _ (Heap.get?_push_of_some _ (Heap.get?_push_size _ rfl))
  have g2 : (gzZ2 s.heap o1 o2).get? (s.heap.push o1).objs.size = some o2 := Heap.get?_push_of_some _ (Heap.get?_push_of_some _ (Heap.get?_push_of_some _ (Heap.get?_push_size _ B2.free)))
  have g1 : (gzZ2 s.heap o1 o2).get? s.heap.objs.size = some o1 := Heap.get?_push_of_some _ (Heap.get?_push_of_some _ (Heap.get?_push_of_some _ (Heap.get?_push_of_some _ (Heap.get?_push_size _ B1.free))))
  show _ ∧ _
  rw [z2, z3, z4] at g5
  rw [z1, z2] at g3
  rw [z3] at g4
  rw [z1] at g2
  rw [z4]
  exact ⟨⟨_, g5, rfl⟩, h _ g5 g3 g4 g1 g2 z5 fun c o x => Heap.get?_push_of_some _ (Heap.get?_push_of_some _ (Heap.get?_push_of_some _ (Heap.get?_push_of_some _ (Heap.get?_push_of_some _ x))))⟩
end
section
variable {M : Model} {A : Around} {E : Value → Shared → Prop} {s : Shared} {env : Env}
theorem callWith_tyKw0 {pos : Pos} {T : String} {first : List Value} {args : List (Bool × Sem Value)} {keywords : List (Option Str × Sem Value)} {Q : Value → Shared → Prop} (hplain : args.any (·.1) = false) (hkw : keywords.any (·.1.isNone) = false)
    (h : wpAny M A (evalArgs (.type T) true args keywords) (fun a s₁ => wpAny M A (call (.type T) (first ++ a.pos) a.kw) Q E s₁) E s) : wpAny M A (callWith pos (.type T) first args keywords) Q E s := by
  unfold callWith
  refine wpAny_bind (wpAny_holding (wpAny_mono h (fun a s₁ h₁ => wpAny_bind (wpAny_standAt ?_)) fun _ _ x => x))
  simp only [hplain, hkw, Bool.or_false]
  exact wpAny_bind (wpAny_pure (wpAny_bind (wpAny_mono h₁ (fun r s₂ hr => wpAny_bind (wpAny_holding (wpAny_point (wpAny_pure hr)))) fun _ _ x => x)))
theorem callWith_tyKw {pos : Pos} {T : String} {e : Expr} {rest : List Expr} {kws : List Keyword} {Q : Value → Shared → Prop}
    (h : wpAny M A (spliced (backTo pos (starEach (e :: rest) env))) (fun vs s₁ => wpAny M A (evalAll ((backToKw pos (keywordEach kws env)).map (·.2))) (fun kvs s₂ => wpAny M A (call (.type T) vs (((backToKw pos (keywordEach kws env)).filterMap (·.1)).zip kvs)) Q E s₂) E s₁) E s)
    (he : backTo pos (starEach (e :: rest) env) = (false, eval e env) :: backTo pos (starEach rest env)) (hplain : (backTo pos (starEach (e :: rest) env)).any (·.1) = false)
    (hall : (backToKw pos (keywordEach kws env)).all (·.1.isSome) = true) (hkw : (backToKw pos (keywordEach kws env)).any (·.1.isNone) = false) :
    wpAny M A (callWith pos (.type T) [] (backTo pos (starEach (e :: rest) env)) (backToKw pos (keywordEach kws env))) Q E s := by
  refine callWith_tyKw0 hplain hkw ?_
  rw [he] at h ⊢
  exact evalArgs_kwB hall h
end
def iZipK (K : PySem.W.Frag) (ta tk : TA) : TI := fun σ H R => ta σ H fun vs H1 => tk σ H1 fun zs H2 => ∃ a b xs ys, vs = [.ref a, .ref b] ∧ zs = [.bl false] ∧ SqL K H2 a xs ∧ SqL K H2 b ys ∧ R (Itz K a b) H2
theorem pi_zipK {X : Cx} {e e2 : Expr} {kws : List Keyword} {ta tk : TA} {p pos tpos : Pos} {elts : List Expr} {kk : Nat} (hg : Gl X "zip") (hm : X.mg "zip" = none) (ha : PA X [e, e2] ta) (hk : PK X kws tk)
    (he : backTo pos (starEach [e, e2] X.env) = (false, eval e X.env) :: backTo pos (starEach [e2] X.env) := by rfl) (hpl : (backTo pos (starEach [e, e2] X.env)).any (·.1) = false := by rfl)
    (hall : (backToKw pos (keywordEach kws X.env)).all (·.1.isSome) = true := by rfl) (hnone : (backToKw pos (keywordEach kws X.env)).any (·.1.isNone) = false := by rfl) (hks : (backToKw pos (keywordEach kws X.env)).filterMap (·.1) = [Str.ofString "strict"] := by rfl) :
    PI X (.Tuple elts kk tpos) (.Call (.Name "zip" p) [e, e2] kws pos) (iZipK X.K ta tk) := by
  refine ⟨fun pins s σ H R I h => ?_⟩
  refine wpAny_Call_Name_kw (ld_blt I hg hm PyProof.Rows.boot_zip ?_)
  refine callWith_tyKw (thn (ha.run pos pins s σ H _ I h) fun us s0 ⟨vs, H0, I0, r0, q0⟩ => thn (hk.run pos pins s0 σ H0 _ I0 q0) fun ws s1 ⟨zs, H1, I1, r2, q1⟩ => ?_) he hpl hall hnone
  rw [hks]
  obtain ⟨a, b, xs, ys, ex, ez, hqx, hqy, q⟩ := q1
  subst ex ez
  obtain ⟨w1, rfl, e1⟩ := vals1 r2
  obtain rfl : w1 = Value.bool false := e1
  cases r0 with
  | cons r rr =>
    cases rr with
    | cons r' rr =>
      cases rr
      cases r
      cases r'
      obtain ⟨its, rv, p1, _⟩ := I1.list hqx
      obtain ⟨its2, rv2, p2, _⟩ := I1.list hqy
      refine zipK_begins (begins_list a its.toArray) (begins_list b its2.toArray) p1.isList p2.isList fun h' hz hTI hTO h1 h2 hsz hk => wpAny_pyIter_zip hz ?_
      have I2 : Inv X pins σ H1 { s1 with heap := h' } := I1.kept (t' := s1.toks) hk
      refine ⟨s1.heap.objs.size + 4, [s1.heap.objs.size + 4, s1.heap.objs.size + 2, s1.heap.objs.size + 3, s1.heap.objs.size, s1.heap.objs.size + 1], _, _, H1, rfl, I2, turn_zip (PySem.W.ktu_apart s1.heap.objs.size a b p1.lt p2.lt), ⟨hz, hTI, ⟨_, _, hTO⟩, ⟨_, h1, rfl, rfl⟩, ⟨_, h2, rfl, rfl⟩⟩, fun c hcm => ?_, q⟩
      have e' : c = s1.heap.objs.size + 4 ∨ c = s1.heap.objs.size + 2 ∨ c = s1.heap.objs.size + 3 ∨ c = s1.heap.objs.size ∨ c = s1.heap.objs.size + 1 := by simpa using hcm
      have hle : s1.heap.objs.size ≤ c := by
        rcases e' with z | z | z | z | z <;> rw [z] <;> first | exact Nat.le_add_right _ _ | exact Nat.le_refl _
      exact I1.fpOk hle (I1.hok.fresh hle)
end L2.K4
end
section
set_option Elab.async false
set_option linter.all false
set_option maxRecDepth 100000
set_option maxHeartbeats 4000000
/-! list(zip(a, b, strict=False)) of two tuples. -/
namespace L2.K4
open PySem PySem.Spec PyProof.Rows L2
theorem no_len_zip : typeLookup (.type "zip") "__len__" = pure none := by rw [typeLookup_type, builtinLookup_eq_fast]; kernel_rfl
theorem no_hint_zip : typeLookup (.type "zip") "__length_hint__" = pure none := by rw [typeLookup_type, builtinLookup_eq_fast]; kernel_rfl
section
variable {prog : Program} {w : World} {A : Around} {E : Value → Shared → Prop} {s : Shared}
variable {z TI TO T p q lp lq : Addr} {f : Bool} {oT : Obj} {m : Nat} {us vs : Array Value} {u v : Value}
theorem zth_item {Q : Value → Shared → Prop} (D : ZipApart z TI TO p q lp lq) (gz : IsZipHeld s.heap z TI TO T f) (gT : s.heap.get? T = some oT) (gI : IsPair s.heap TI (.ref p) (.ref q))
    (g1 : s.heap.IsTupleIter p lp m) (g2 : s.heap.IsTupleIter q lq m) (t1 : s.heap.IsTuple lp us) (t2 : s.heap.IsTuple lq vs) (eu : us[m]? = some u) (ev : vs[m]? = some v)
    (fin : ∀ h', IsZipHeld h' z TI TO T true → h'.IsTupleIter p lp (m + 1) → h'.IsTupleIter q lq (m + 1) → IsPair h' s.heap.objs.size u v → h'.objs.size = s.heap.objs.size + 1 →
      (∀ c o, c ≠ z → c ≠ p → c ≠ q → s.heap.get? c = some o → h'.get? c = some o) → Q (.ref s.heap.objs.size) { s with heap := h' }) :
    wpAny (model prog w) A (Builtin.«zip.__next__» ⟨[.ref z], []⟩) (fun r s' => ∃ y, r = .done (.ret y) ∧ Q y s') E s := by
  show wpAny _ _ (field (.ref z) 2 >>= _) _ E s
  refine wpAny_bind (wpAny_field gz rfl (x := .bool false) rfl ?_)
  show wpAny _ _ (field (.ref z) 3 >>= _) _ E s
  refine wpAny_bind (wpAny_field gz rfl (x := .ref TI) rfl (wpAny_bind (wpAny_seqItems gI rfl ?_)))
  show wpAny _ _ (Builtin.SmallTypes.ownedTupleIsFree (.ref z) >>= _) _ E s
  refine wpAny_bind (wpAny_tupleHeld_zip gz gT fun h₁ gz₁ k₁ => ?_)
  simp only [Bool.false_eq_true, if_false]
  refine wpAny_bind ?_
  rw [← Array.forIn_toList]; simp only [List.forIn_cons, List.forIn_nil]
  refine wpAny_bind (wpAny_bind (wpAny_holding ?_))
  show wpAny _ _ (Builtin.SmallTypes.nextOf (.ref p) >>= _) _ E _
  refine wpAny_bind (RZ.nextOf_tuple_item (s := { s with heap := h₁ }) (g1.extBut k₁.extBut D.i1z) (t1.extBut k₁.extBut D.l1z) eu fun h₂ g1₂ k₂ => wpAny_pure (wpAny_pure ?_))
  refine wpAny_bind (wpAny_bind (wpAny_holding ?_))
  show wpAny _ _ (Builtin.SmallTypes.nextOf (.ref q) >>= _) _ E _
  refine wpAny_bind (RZ.nextOf_tuple_item (s := { s with heap := h₂ }) ((g2.extBut k₁.extBut D.i2z).extBut k₂.extBut D.i12.symm) ((t2.extBut k₁.extBut D.l2z).extBut k₂.extBut D.l2i1) ev fun h₃ g2₃ k₃ => wpAny_pure (wpAny_pure (wpAny_pure ?_)))
  show wpAny _ _ (newTuple [u, v] >>= _) _ E _
  refine wpAny_bind (wpAny_newTuple ?_)
  have sz : h₃.objs.size = s.heap.objs.size := by rw [k₃.1, k₂.1, k₁.1]
  have gz₃ : IsZipHeld h₃ z TI TO T true := k₃.extBut _ _ D.i2z.symm (k₂.extBut _ _ D.i1z.symm gz₁)
  have kk : ∀ c o, c ≠ z → c ≠ p → c ≠ q → s.heap.get? c = some o → h₃.get? c = some o := fun c o c1 c2 c3 e => k₃.extBut _ _ c3 (k₂.extBut _ _ c2 (k₁.extBut _ _ c1 e))
  have g1₃ : h₃.IsTupleIter p lp (m + 1) := g1₂.extBut k₃.extBut D.i12
  refine wpAny_pure ⟨_, rfl, ?_⟩
  show Q (.ref h₃.objs.size) _
  have hp : IsPair (h₃.push { cls := .type "tuple", data := .seq #[u, v] }) h₃.objs.size u v := Heap.get?_push_size _ rfl
  have z4 : (h₃.push { cls := .type "tuple", data := .seq #[u, v] }).objs.size = h₃.objs.size + 1 := Heap.size_push ..
  rw [sz] at hp z4 ⊢
  exact fin _ (Heap.get?_push_of_some _ gz₃) (g1₃.at fun o e => Heap.get?_push_of_some _ e) (g2₃.at fun o e => Heap.get?_push_of_some _ e) hp z4 fun c o c1 c2 c3 e => Heap.get?_push_of_some _ (kk c o c1 c2 c3 e)
theorem zth_end {Q : Fin → Shared → Prop} (hh : A.handled = none) (D : ZipApart z TI TO p q lp lq) (gz : IsZipHeld s.heap z TI TO T f) (gT : s.heap.get? T = some oT) (gI : IsPair s.heap TI (.ref p) (.ref q))
    (g1 : s.heap.IsTupleIter p lp m) (g2 : s.heap.IsTupleIter q lq m) (t1 : s.heap.IsTuple lp us) (t2 : s.heap.IsTuple lq vs) (he : us[m]? = none ∨ vs[m]? = none)
    (fin : ∀ h' e, (∀ c o, c ≠ z → c ≠ p → c ≠ q → s.heap.get? c = some o → h'.get? c = some o) → (∃ o, h'.get? e = some o ∧ o.cls = .type "StopIteration") → E (.ref e) { s with heap := h' }) :
    wpAny (model prog w) A (Builtin.«zip.__next__» ⟨[.ref z], []⟩) Q E s := by
  show wpAny _ _ (field (.ref z) 2 >>= _) _ E s
  refine wpAny_bind (wpAny_field gz rfl (x := .bool false) rfl ?_)
  show wpAny _ _ (field (.ref z) 3 >>= _) _ E s
  refine wpAny_bind (wpAny_field gz rfl (x := .ref TI) rfl (wpAny_bind (wpAny_seqItems gI rfl ?_)))
  show wpAny _ _ (Builtin.SmallTypes.ownedTupleIsFree (.ref z) >>= _) _ E s
  refine wpAny_bind (wpAny_tupleHeld_zip gz gT fun h₁ gz₁ k₁ => ?_)
  simp only [Bool.false_eq_true, if_false]
  refine wpAny_bind ?_
  rw [← Array.forIn_toList]; simp only [List.forIn_cons, List.forIn_nil]
  refine wpAny_bind (wpAny_bind (wpAny_holding ?_))
  show wpAny _ _ (Builtin.SmallTypes.nextOf (.ref p) >>= _) _ E _
  cases eu : us[m]? with
  | none => exact wpAny_bind (RZ.nextOf_tuple_end (s := { s with heap := h₁ }) hh (g1.extBut k₁.extBut D.i1z) (t1.extBut k₁.extBut D.l1z) eu fun h₂ e k₂ ho => fin h₂ e (fun c o c1 c2 _ x => k₂ _ _ c2 (k₁.extBut _ _ c1 x)) ho)
  | some u =>
    have ev : vs[m]? = none := by rcases he with h | h; rw [eu] at h; cases h; exact h
    refine wpAny_bind (RZ.nextOf_tuple_item (s := { s with heap := h₁ }) (g1.extBut k₁.extBut D.i1z) (t1.extBut k₁.extBut D.l1z) eu fun h₂ g1₂ k₂ => wpAny_pure (wpAny_pure ?_))
    refine wpAny_bind (wpAny_bind (wpAny_holding ?_))
    show wpAny _ _ (Builtin.SmallTypes.nextOf (.ref q) >>= _) _ E _
    exact wpAny_bind (RZ.nextOf_tuple_end (s := { s with heap := h₂ }) hh ((g2.extBut k₁.extBut D.i2z).extBut k₂.extBut D.i12.symm) ((t2.extBut k₁.extBut D.l2z).extBut k₂.extBut D.l2i1) ev fun h₃ e k₃ ho => fin h₃ e (fun c o c1 c2 c3 x => k₃ _ _ c3 (k₂.extBut _ _ c2 (k₁.extBut _ _ c1 x))) ho)
/-- the zip has handed out m pairs -/
structure ZS (S z TI TO p q lp lq : Addr) (us vs : Array Value) (m : Nat) (h : Heap) : Prop where
  ti : IsPair h TI (.ref p) (.ref q)
  i1 : h.IsTupleIter p lp m
  i2 : h.IsTupleIter q lq m
  l1 : h.IsTuple lp us
  l2 : h.IsTuple lq vs
  zz : (∃ a b, IsZip h z TI TO .none ∧ IsPair h TO a b) ∨ ∃ T f oT, IsZipHeld h z TI TO T f ∧ h.get? T = some oT ∧ T ≠ z ∧ T ≠ p ∧ T ≠ q ∧ T ≠ S
theorem ZS.at {S : Addr} {h h' : Heap} (x : ZS S z TI TO p q lp lq us vs m h) (k : ∀ b o, b ≠ S → h.get? b = some o → h'.get? b = some o) (n1 : TI ≠ S) (n2 : TO ≠ S) (n3 : z ≠ S) (n4 : p ≠ S) (n5 : q ≠ S) (n6 : lp ≠ S) (n7 : lq ≠ S) : ZS S z TI TO p q lp lq us vs m h' :=
  ⟨k _ _ n1 x.ti, x.i1.at fun o e => k _ _ n4 e, x.i2.at fun o e => k _ _ n5 e, x.l1.at fun o e => k _ _ n6 e, x.l2.at fun o e => k _ _ n7 e, x.zz.imp (fun ⟨a, b, e1, e2⟩ => ⟨a, b, k _ _ n3 e1, k _ _ n2 e2⟩) fun ⟨T, f, oT, e1, e2, a, b, c, d⟩ => ⟨T, f, oT, k _ _ n3 e1, k _ _ d e2, a, b, c, d⟩⟩
theorem zs_item {S : Addr} {Q : Option Value → Shared → Prop} (D : ZipApart z TI TO p q lp lq) (st : ZS S z TI TO p q lp lq us vs m s.heap) (hS : S < s.heap.objs.size) (eu : us[m]? = some u) (ev : vs[m]? = some v)
    (fin : ∀ h', ZS S z TI TO p q lp lq us vs (m + 1) h' → IsPair h' s.heap.objs.size u v → h'.objs.size = s.heap.objs.size + 1 → (∀ c o, c ≠ z → c ≠ TO → c ≠ p → c ≠ q → s.heap.get? c = some o → h'.get? c = some o) → Q (some (.ref s.heap.objs.size)) { s with heap := h' }) :
    wpAny (model prog w) A (pyNext (.ref z)) Q E s := by
  have hz : z < s.heap.objs.size := by
    rcases st.zz with ⟨a, b, e, _⟩ | ⟨T, f, oT, e, _⟩ <;> exact Heap.lt_size e
  have hp : p < s.heap.objs.size := by obtain ⟨o, e, _⟩ := st.i1; exact Heap.lt_size e
  have hq : q < s.heap.objs.size := by obtain ⟨o, e, _⟩ := st.i2; exact Heap.lt_size e
  have hlt : ∀ {h' : Heap} {l : Addr} {xs : Array Value}, (∀ c o, c ≠ z → c ≠ TO → c ≠ p → c ≠ q → s.heap.get? c = some o → h'.get? c = some o) → l ≠ z → l ≠ TO → l ≠ p → l ≠ q → s.heap.IsTuple l xs → h'.IsTuple l xs := fun k a b c d e => e.at fun o x => k _ _ a b c d x
  rcases st.zz with ⟨a, b, gz, gO⟩ | ⟨T, f, oT, gz, gT, n1, n2, n3, n4⟩
  · refine RZ.pyNext_zipT_item D gz st.ti gO st.i1 st.i2 st.l1 st.l2 eu ev fun h' a1 a2 a3 a4 a5 a6 a7 => ?_
    exact fin h' ⟨a7 _ _ D.TIz D.TITO D.TIi1 D.TIi2 st.ti, a3, a4, hlt a7 D.l1z D.l1TO D.l1i1 D.l1i2 st.l1, hlt a7 D.l2z D.l2TO D.l2i1 D.l2i2 st.l2, .inr ⟨_, false, _, a1, a5, Nat.ne_of_gt hz, Nat.ne_of_gt hp, Nat.ne_of_gt hq, Nat.ne_of_gt hS⟩⟩ a5 a6 a7
  · have ty : s.TypeIs (.ref z) "zip" := ⟨_, gz, rfl⟩
    unfold pyNext
    refine wpAny_bind (wpAny_attempt (wpAny_callSpecial?_slot (name := Str.ofString "__next__") ty F.slot_zip_next (wpAny_call_entry F.slot_zip_next ty F.entry_zip_next (zth_item D gz gT st.ti st.i1 st.i2 st.l1 st.l2 eu ev fun h' a1 a3 a4 a5 a6 a7 => wpAny_pure ?_) (F.args_zip_next_1 _))))
    have k' : ∀ c o, c ≠ z → c ≠ TO → c ≠ p → c ≠ q → s.heap.get? c = some o → h'.get? c = some o := fun c o c1 _ c2 c3 e => a7 c o c1 c2 c3 e
    exact fin h' ⟨a7 _ _ D.TIz D.TIi1 D.TIi2 st.ti, a3, a4, hlt k' D.l1z D.l1TO D.l1i1 D.l1i2 st.l1, hlt k' D.l2z D.l2TO D.l2i1 D.l2i2 st.l2, .inr ⟨T, true, oT, a1, a7 _ _ n1 n2 n3 gT, n1, n2, n3, n4⟩⟩ a5 a6 k'
theorem zs_done {S : Addr} {Q : Option Value → Shared → Prop} (hh : A.handled = none) (D : ZipApart z TI TO p q lp lq) (st : ZS S z TI TO p q lp lq us vs m s.heap) (he : us[m]? = none ∨ vs[m]? = none)
    (fin : ∀ h', (∀ c o, c ≠ z → c ≠ TO → c ≠ p → c ≠ q → s.heap.get? c = some o → h'.get? c = some o) → Q none { s with heap := h' }) : wpAny (model prog w) A (pyNext (.ref z)) Q E s := by
  rcases st.zz with ⟨a, b, gz, gO⟩ | ⟨T, f, oT, gz, gT, n1, n2, n3, n4⟩
  · exact RZ.pyNext_zipT_end hh D gz st.ti gO st.i1 st.i2 st.l1 st.l2 he fin
  · have ty : s.TypeIs (.ref z) "zip" := ⟨_, gz, rfl⟩
    unfold pyNext
    refine wpAny_bind (wpAny_attempt (wpAny_callSpecial?_slot (name := Str.ofString "__next__") ty F.slot_zip_next (wpAny_call_entry F.slot_zip_next ty F.entry_zip_next (zth_end hh D gz gT st.ti st.i1 st.i2 st.l1 st.l2 he fun h' e hk ⟨o, ho, hc⟩ => ?_) (F.args_zip_next_1 _))))
    exact wpAny_bind (wpAny_isInstance (T := "StopIteration") (b := true) ⟨o, ho, hc⟩ isSubtype_stop (wpAny_pure (fin _ fun c o c1 _ c2 c3 e => hk c o c1 c2 c3 e)))
end

structure LzG (us vs : Array Value) (lo : Addr) (h : Heap) (as : List Addr) : Prop where
  rise : as.Pairwise (· < ·)
  above : ∀ a ∈ as, lo ≤ a
  pairs : ∀ (j : Nat) (a : Addr), as[j]? = some a → ∃ u v, us[j]? = some u ∧ vs[j]? = some v ∧ h.get? a = some { cls := .type "tuple", data := .seq #[u, v] }
theorem LzG.there {us vs : Array Value} {lo : Addr} {h : Heap} {as : List Addr} (g : LzG us vs lo h as) {a : Addr} (ha : a ∈ as) : a < h.objs.size := by
  obtain ⟨j, hj⟩ := List.mem_iff_getElem?.mp ha
  obtain ⟨_, _, _, _, e⟩ := g.pairs j a hj
  exact Heap.lt_size e
theorem LzG.low {us vs : Array Value} {lo lo' : Addr} {h : Heap} {as : List Addr} (g : LzG us vs lo h as) (hl : lo' ≤ lo) : LzG us vs lo' h as := ⟨g.rise, fun a ha => Nat.le_trans hl (g.above a ha), g.pairs⟩
section
variable {prog : Program} {w : World} {A : Around} {s : Shared} {R : Result → Shared → Prop} {z TI TO p q lp lq S lo : Addr} {us vs : Array Value}
theorem lz_loop (hh : A.handled = none) (D : ZipApart z TI TO p q lp lq) (n1 : TI ≠ S) (n2 : TO ≠ S) (n3 : z ≠ S) (n4 : p ≠ S) (n5 : q ≠ S) (n6 : lp ≠ S) (n7 : lq ≠ S) (hlo : ∀ b, (b = z ∨ b = TO ∨ b = p ∨ b = q ∨ b = S) → b < lo) (hn : min us.size vs.size ≤ sizeLine) (res : Value) {h₁ : Heap}
    (fin : ∀ h' tk acc c as, (∀ b o, b ≠ S → b ≠ z → b ≠ TO → b ≠ p → b ≠ q → h₁.get? b = some o → h'.get? b = some o) → h'.get? S = some { cls := .type "list", dict := none, data := .seq acc c, slots := #[] } → as.length = min us.size vs.size → LzG us vs lo h' as →
      acc.toList = as.map Value.ref → R (.ok (.ret res)) { s with heap := h', toks := tk }) :
    ∀ (k i : Nat) (h : Heap) (tk c : Nat) (acc : Array Value) (as : List Addr), min us.size vs.size - i = k → i ≤ min us.size vs.size → ZS S z TI TO p q lp lq us vs i h → (∀ b o, b ≠ S → b ≠ z → b ≠ TO → b ≠ p → b ≠ q → h₁.get? b = some o → h.get? b = some o) →
      h.get? S = some { cls := .type "list", dict := none, data := .seq acc c, slots := #[] } → acc.toList = as.map Value.ref → as.length = i → LzG us vs lo h as → lo ≤ h.objs.size →
      codeAny (model prog w) A (.builtin "list.extend.loop" ⟨[.ref S, .ref z, res], []⟩) R { s with heap := h, toks := tk } := by
  intro k
  induction k with
  | zero =>
    intro i h tk c acc as hk hi st kp gS eacc len hG hls
    have he : us[i]? = none ∨ vs[i]? = none := by
      have : us.size ≤ i ∨ vs.size ≤ i := by omega
      exact this.imp (fun h => Array.getElem?_eq_none h) fun h => Array.getElem?_eq_none h
    refine codeAny_builtin PySem.F.entry_extend_loop ?_; rw [Around.under_plainId PySem.F.plain_extend_loop _]
    show wpAny _ A.in1 (pyNext (.ref z) >>= _) _ _ { s with heap := h, toks := tk }
    refine wpAny_bind (zs_done (s := { s with heap := h, toks := tk }) (A := A.in1) hh D st he fun h' k' => ?_)
    refine wpAny_pure (fin h' tk acc c as (fun b o a1 a2 a3 a4 a5 e => k' b o a2 a3 a4 a5 (kp b o a1 a2 a3 a4 a5 e)) (k' S _ n3.symm n2.symm n4.symm n5.symm gS) (by omega) ⟨hG.rise, hG.above, fun j a hj => ?_⟩ eacc)
    obtain ⟨u, v, e1, e2, e3⟩ := hG.pairs j a hj
    have ha := hG.above a (List.mem_of_getElem? hj)
    exact ⟨u, v, e1, e2, k' a _ (Nat.ne_of_gt (Nat.lt_of_lt_of_le (hlo z (by simp)) ha)) (Nat.ne_of_gt (Nat.lt_of_lt_of_le (hlo TO (by simp)) ha)) (Nat.ne_of_gt (Nat.lt_of_lt_of_le (hlo p (by simp)) ha)) (Nat.ne_of_gt (Nat.lt_of_lt_of_le (hlo q (by simp)) ha)) e3⟩
  | succ k ih =>
    intro i h tk c acc as hk hi st kp gS eacc len hG hls
    have hlt : i < min us.size vs.size := by omega
    have eu : us[i]? = some (us[i]'(by omega)) := Array.getElem?_eq_getElem (by omega)
    have ev : vs[i]? = some (vs[i]'(by omega)) := Array.getElem?_eq_getElem (by omega)
    have hsz : acc.size = i := by rw [← Array.length_toList, eacc, List.length_map, len]
    refine codeAny_builtin PySem.F.entry_extend_loop ?_; rw [Around.under_plainId PySem.F.plain_extend_loop _]
    show wpAny _ A.in1 (pyNext (.ref z) >>= _) _ _ { s with heap := h, toks := tk }
    refine wpAny_bind (zs_item (s := { s with heap := h, toks := tk }) D st (Heap.lt_size gS) eu ev fun h' st' gt sz k' => ?_)
    dsimp only at gt sz k' ⊢
    have gS' := k' S _ n3.symm n2.symm n4.symm n5.symm gS
    have up : ∀ b o, b ≠ S → h'.get? b = some o → (h'.update S (Obj.mapSeq (·.push (Value.ref h.objs.size)))).get? b = some o := fun b o hb e => (Heap.get?_update_other _ _ (Ne.symm hb)).trans e
    have hSl : S < h.objs.size := Heap.lt_size gS
    show wpAny _ A.in1 (updateSeq S (·.push (Value.ref h.objs.size)) >>= _) _ _ { s with heap := h', toks := tk }
    refine wpAny_bind (wpAny_updateSeq gS' rfl (wpAny_pure ⟨plainId_quiet PySem.F.plain_extend_loop _, ih (i + 1) _ tk _ (acc.push (Value.ref h.objs.size)) (as ++ [h.objs.size]) (by omega) hlt (st'.at up n1 n2 n3 n4 n5 n6 n7)
      (fun b o a1 a2 a3 a4 a5 e => up b o a1 (k' b o a2 a3 a4 a5 (kp b o a1 a2 a3 a4 a5 e))) (Heap.get?_update_self _ gS' rfl) (by rw [Array.toList_push, eacc, List.map_append]; rfl) (by rw [List.length_append, len]; rfl) ⟨?_, ?_, ?_⟩ ?_⟩) (by rw [hsz]; omega) (by show (acc.push (Value.ref h.objs.size)).size ≤ sizeLine + 1; rw [Array.size_push, hsz]; omega))
    · exact List.pairwise_append.mpr ⟨hG.rise, List.pairwise_singleton _ _, fun a ha b hb => by rw [List.mem_singleton.mp hb]; exact hG.there ha⟩
    · intro a ha
      rcases List.mem_append.mp ha with ha | ha
      · exact hG.above a ha
      · rw [List.mem_singleton.mp ha]; exact hls
    · intro j b hj
      rcases Nat.lt_trichotomy j as.length with h1 | h1 | h1
      · rw [List.getElem?_append_left h1] at hj
        obtain ⟨u, v, e1, e2, e3⟩ := hG.pairs j b hj
        have hb := hG.above b (List.mem_of_getElem? hj)
        have nb : ∀ x, (x = z ∨ x = TO ∨ x = p ∨ x = q ∨ x = S) → b ≠ x := fun x hx => Nat.ne_of_gt (Nat.lt_of_lt_of_le (hlo x hx) hb)
        exact ⟨u, v, e1, e2, up b _ (nb S (by simp)) (k' b _ (nb z (by simp)) (nb TO (by simp)) (nb p (by simp)) (nb q (by simp)) e3)⟩
      · subst h1
        have hb : h.objs.size = b := by simpa using hj
        subst hb len
        exact ⟨_, _, eu, ev, up _ _ (Nat.ne_of_gt hSl) gt⟩
      · rw [List.getElem?_eq_none (by rw [List.length_append, List.length_singleton]; omega)] at hj; cases hj
    · have e : (h'.update S (Obj.mapSeq (·.push (Value.ref h.objs.size)))).get? h.objs.size = _ := up _ _ (Nat.ne_of_gt hSl) gt
      exact Nat.le_of_lt (Nat.lt_of_le_of_lt hls (Heap.lt_size e))
theorem lz_extend (hh : A.handled = none) (D : ZipApart z TI TO p q lp lq) (n1 : TI ≠ S) (n2 : TO ≠ S) (n3 : z ≠ S) (n4 : p ≠ S) (n5 : q ≠ S) (n6 : lp ≠ S) (n7 : lq ≠ S) (hn : min us.size vs.size ≤ sizeLine) (res : Value) {c₀ : Nat} (gz : IsZip s.heap z TI TO .none) (st : ZS S z TI TO p q lp lq us vs 0 s.heap)
    (gS : s.heap.get? S = some { cls := .type "list", data := .seq #[] c₀ })
    (fin : ∀ h' tk acc c as, (∀ b o, b ≠ S → b ≠ z → b ≠ TO → b ≠ p → b ≠ q → s.heap.get? b = some o → h'.get? b = some o) → h'.get? S = some { cls := .type "list", dict := none, data := .seq acc c, slots := #[] } → as.length = min us.size vs.size → LzG us vs s.heap.objs.size h' as →
      acc.toList = as.map Value.ref → R (.ok (.ret res)) { s with heap := h', toks := tk }) :
    wpAny (model prog w) A.in1 (Builtin.List.listExtendWith (.ref S) (.ref z) res)
      (fun r s' => match r with | .done f => R (.ok f) s' | .again c' => c'.quiet = true ∧ codeAny (model prog w) A c' R s') (fun e s' => R (.error e) s') s := by
  have ty : s.TypeIs (.ref z) "zip" := ⟨_, gz, rfl⟩
  have b1 : Builtin.List.listSameRef (.ref S) (.ref z) = false := by simp [Builtin.List.listSameRef, n3.symm]
  have b2 : (Value.type "zip" == Value.type "list") = false := by decide
  have b3 : (Value.type "zip" == Value.type "tuple") = false := by decide
  have hlo : ∀ b, (b = z ∨ b = TO ∨ b = p ∨ b = q ∨ b = S) → b < s.heap.objs.size := by
    rintro b (e | e | e | e | e) <;> subst e
    · exact Heap.lt_size gz
    · rcases st.zz with ⟨a, c, _, e⟩ | ⟨T, f, oT, e, _⟩
      · exact Heap.lt_size e
      · exact absurd (gz.symm.trans e) (by simp [rawInt])
    · obtain ⟨o, e, _⟩ := st.i1; exact Heap.lt_size e
    · obtain ⟨o, e, _⟩ := st.i2; exact Heap.lt_size e
    · exact Heap.lt_size gS
  unfold Builtin.List.listExtendWith
  refine wpAny_bind (wpAny_typeOf ty ?_)
  simp only [b1, b2, b3, Bool.or_false, Bool.false_eq_true, if_false]
  refine wpAny_bind (wpAny_pyIter_zip gz (wpAny_bind (wpAny_holding ?_)))
  unfold Builtin.List.listLengthHint
  refine wpAny_bind (wpAny_specialOf ty no_len_zip ?_)
  show wpAny _ A.in1 (specialOf (Value.ref z) (Str.ofString "__length_hint__") >>= _) _ _ s
  refine wpAny_bind (wpAny_specialOf ty no_hint_zip (wpAny_pure ?_))
  show wpAny _ A.in1 (rule "list.extend.makes-room" >>= fun _ => Builtin.List.listTouch (.ref S) >>= fun _ => again (.builtin "list.extend.loop" ⟨[.ref S, .ref z, res], []⟩)) _ _ s
  refine wpAny_bind (wpAny_rule (wpAny_bind ?_))
  show wpAny _ A.in1 (updateSeq S (·.push .none) >>= fun _ => updateSeq S (·.pop)) _ _ s
  refine wpAny_bind (wpAny_updateSeq gS rfl ?_)
  have gS₂ := Heap.get?_update_self (Obj.mapSeq (·.push Value.none)) gS rfl
  refine wpAny_updateSeq (hz := by seq_fits) gS₂ rfl ?_
  have gS₃ := Heap.get?_update_self (Obj.mapSeq (·.pop)) gS₂ rfl
  have oth : ∀ b o, b ≠ S → s.heap.get? b = some o → ((s.heap.update S (Obj.mapSeq (·.push Value.none))).update S (Obj.mapSeq (·.pop))).get? b = some o := fun b o hb e => (Heap.get?_update_other _ _ (Ne.symm hb)).trans ((Heap.get?_update_other _ _ (Ne.symm hb)).trans e)
  exact wpAny_pure ⟨plainId_quiet PySem.F.plain_extend_loop _, lz_loop (s := s) (h₁ := s.heap) (lo := s.heap.objs.size) hh D n1 n2 n3 n4 n5 n6 n7 hlo hn res fin _ 0 _ s.toks _ #[] [] rfl (Nat.zero_le _) (st.at oth n1 n2 n3 n4 n5 n6 n7) (fun b o hb _ _ _ _ e => oth b o hb e) gS₃ rfl rfl ⟨List.Pairwise.nil, (fun _ ha => nomatch ha), (fun j a hj => by simp at hj)⟩ (by simp [Heap.size_update])⟩
end
section
variable {prog : Program} {w : World} {A : Around} {E : Value → Shared → Prop} {s : Shared} {z TI TO p q lp lq : Addr} {us vs : Array Value}
theorem lz_call {Q : Value → Shared → Prop} (hh : A.handled = none) (D : ZipApart z TI TO p q lp lq) (hn : min us.size vs.size ≤ sizeLine) (gz : IsZip s.heap z TI TO .none) (gI : IsPair s.heap TI (.ref p) (.ref q)) (gO : IsPair s.heap TO .none .none) (g1 : s.heap.IsTupleIter p lp 0) (g2 : s.heap.IsTupleIter q lq 0) (t1 : s.heap.IsTuple lp us) (t2 : s.heap.IsTuple lq vs)
    (fin : ∀ h' tk acc c as, (∀ b o, b ≠ z → b ≠ TO → b ≠ p → b ≠ q → s.heap.get? b = some o → h'.get? b = some o) → h'.get? s.heap.objs.size = some { cls := .type "list", dict := none, data := .seq acc c, slots := #[] } → as.length = min us.size vs.size → LzG us vs (s.heap.objs.size + 1) h' as →
      acc.toList = as.map Value.ref → Q (.ref s.heap.objs.size) { s with heap := h', toks := tk }) :
    wpAny (model prog w) A (call (.type "list") [.ref z]) Q E s := by
  refine callType_codes (Q₁ := fun obj s₁ => obj = .ref s.heap.objs.size ∧ s₁ = { s with heap := s.heap.push { cls := .type "list", data := .seq #[] } }) PySem.F.called_list (PySem.F.typeCall_list_1 _) PySem.F.entry_list_init (code_list_new _ ⟨rfl, rfl⟩) fun obj s₁ h₁ => ?_
  obtain ⟨rfl, rfl⟩ := h₁
  have up : ∀ b o, s.heap.get? b = some o → (s.heap.push { cls := .type "list", data := .seq #[] }).get? b = some o := fun b o e => Heap.get?_push_of_some _ e
  have gS : (s.heap.push { cls := .type "list", data := .seq #[] }).get? s.heap.objs.size = some { cls := .type "list", data := .seq #[] } := Heap.get?_push_size _ rfl
  have nS : ∀ {b o}, s.heap.get? b = some o → b ≠ s.heap.objs.size := fun e => Nat.ne_of_lt (Heap.lt_size e)
  have nit : ∀ {it l k}, s.heap.IsTupleIter it l k → it ≠ s.heap.objs.size := fun ⟨_, e, _⟩ => nS e
  have ntu : ∀ {l xs}, s.heap.IsTuple l xs → l ≠ s.heap.objs.size := fun ⟨_, e, _⟩ => nS e
  have oth : ∀ b o, b ≠ s.heap.objs.size → (s.heap.push { cls := .type "list", data := .seq #[] }).get? b = some o → ((s.heap.push { cls := .type "list", data := .seq #[] }).update s.heap.objs.size (Obj.mapSeq (fun _ => (#[] : Array Value)))).get? b = some o := fun b o hb e => (Heap.get?_update_other _ _ (Ne.symm hb)).trans e
  refine ⟨⟨_, gS, rfl⟩, PySem.F.args_list_init_2 _ _, ?_⟩
  show wpAny _ _ (do let old ← Builtin.List.listItems (.ref s.heap.objs.size); Builtin.List.listUpdate (.ref s.heap.objs.size) (fun _ => #[]); letGo old.toList.reverse; Builtin.List.listExtendWith (.ref s.heap.objs.size) (.ref z) .none) _ _ _
  refine wpAny_bind ?_
  unfold Builtin.List.listItems
  refine wpAny_bind (wpAny_seqItems gS rfl (wpAny_pure ?_))
  show wpAny _ _ (updateSeq s.heap.objs.size (fun _ => #[]) >>= fun _ => letGo (#[] : Array Value).toList.reverse >>= fun _ => Builtin.List.listExtendWith (.ref s.heap.objs.size) (.ref z) .none) _ _ _
  refine wpAny_bind (wpAny_updateSeq gS rfl ?_)
  have gS₂ := Heap.get?_update_self (Obj.mapSeq (fun _ => (#[] : Array Value))) gS rfl
  refine wpAny_bind (wpAny_letGo ?_)
  have st : ZS s.heap.objs.size z TI TO p q lp lq us vs 0 s.heap := ⟨gI, g1, g2, t1, t2, .inl ⟨_, _, gz, gO⟩⟩
  have kk : ∀ b o, b ≠ s.heap.objs.size → s.heap.get? b = some o → ((s.heap.push { cls := .type "list", data := .seq #[] }).update s.heap.objs.size (Obj.mapSeq (fun _ => (#[] : Array Value)))).get? b = some o := fun b o hb e => oth b o hb (up b o e)
  refine lz_extend (A := A.in1) hh D (nS gI) (nS gO) (nS gz) (nit g1) (nit g2) (ntu t1) (ntu t2) hn .none (kk _ _ (nS gz) gz) (st.at kk (nS gI) (nS gO) (nS gz) (nit g1) (nit g2) (ntu t1) (ntu t2)) gS₂ fun h' tk acc c as k' gS' len hG ea => ?_
  have z1 : ((s.heap.push { cls := .type "list", data := .seq #[] }).update s.heap.objs.size (Obj.mapSeq (fun _ => (#[] : Array Value)))).objs.size = s.heap.objs.size + 1 := by rw [Heap.size_update, Heap.size_push]
  exact ⟨rfl, fin h' tk acc c as (fun b o a2 a3 a4 a5 e => k' b o (nS e) a2 a3 a4 a5 (kk b o (nS e) e)) gS' len (z1 ▸ hG) ea⟩
end
end L2.K4
end
section
set_option Elab.async false
set_option linter.all false
set_option maxRecDepth 100000
set_option maxHeartbeats 4000000
/-! Many objects laid at once; list(zip(a, b, strict=False)) over the abstract heap. -/
namespace L2.K4
open PySem PySem.Spec PyProof.Rows L2
section
variable {X : Cx} {pins : List (Addr × Obj)} {σ : St} {H : Hp} {s : Shared}
theorem grow_inv {H' : Hp} {h' : Heap} {t' : Nat} (I : Inv X pins σ H s) (k : ∀ b u, s.heap.get? b = some u → h'.get? b = some u) (e : Ex H H') (n : ∀ b, b < s.heap.objs.size → H b = none → H' b = none)
    (new : ∀ a o, H a = none → H' a = some o → ObjOk X.prog X.w H' h' a o) : Inv X pins σ H' { s with heap := h', toks := t' } := by
  refine I.un ⟨fun b u q _ _ _ => k b u q, fun b u q _ _ _ => ⟨u.slots, k b u q⟩, fun b u q z _ => n b (Heap.lt_size q) z, fun b u q _ => ⟨u, k b u q⟩, fun b xs q => e b _ q, fun b u xs q => e b _ q, fun b ps q => ⟨#[], by rw [e b _ q]; simp⟩⟩ fun b u q => ?_
  cases hb : H b with
  | none => exact new b u hb q
  | some u' =>
    have := e b u' hb
    rw [q] at this
    cases this
    exact (I.hok b u hb).stay (fun c v _ z => k c v z) (fun c z => e c _ z) fun c xs z => e c _ z
end
/-- H with tuples laid -/
def prsH (H : Hp) (D : Addr) (as : List Addr) (ps : List (V × V)) : Hp := fun b => if b = D then some (.lst (as.map V.ref)) else match (as.zip ps).lookup b with
  | some q => some (.tup [q.1, q.2])
  | none => H b
theorem look_zip {β : Type} : ∀ {as : List Addr} {ps : List β} {j : Nat} {a : Addr} {q : β}, as.Pairwise (· < ·) → as[j]? = some a → ps[j]? = some q → (as.zip ps).lookup a = some q
  | [], _, _, _, _, _, h, _ => by cases h
  | _ :: _, [], _, _, _, _, _, h => by cases h
  | x :: xs, y :: ys, 0, a, q, _, h, h' => by cases h; cases h'; simp
  | x :: xs, y :: ys, j + 1, a, q, hp, h, h' => by
    obtain ⟨h1, h2⟩ := List.pairwise_cons.mp hp
    have e : xs[j]? = some a := by simpa using h
    have e' : ys[j]? = some q := by simpa using h'
    have ne : (a == x) = false := beq_eq_false_iff_ne.mpr (Nat.ne_of_gt (h1 a (List.mem_of_getElem? e)))
    rw [List.zip_cons_cons, List.lookup_cons, ne]
    exact look_zip h2 e e'
theorem look_zip_inv {β : Type} : ∀ {as : List Addr} {ps : List β} {a : Addr} {q : β}, (as.zip ps).lookup a = some q → ∃ j : Nat, as[j]? = some a ∧ ps[j]? = some q
  | [], _, _, _, h => by cases h
  | _ :: _, [], _, _, h => by cases h
  | x :: xs, y :: ys, a, q, h => by
    rw [List.zip_cons_cons, List.lookup_cons] at h
    cases e : a == x with
    | true =>
      rw [e] at h
      cases h
      exact ⟨0, by rw [eq_of_beq e]; rfl, rfl⟩
    | false =>
      rw [e] at h
      obtain ⟨j, h1, h2⟩ := look_zip_inv h
      exact ⟨j + 1, by simpa using h1, by simpa using h2⟩
theorem vals_refs' : ∀ as : List Addr, Vals (as.map V.ref) (as.map Value.ref)
  | [] => .nil
  | a :: as => .cons rfl (vals_refs' as)
theorem zip_at {α β : Type} {xs : List α} {ys : List β} {j : Nat} {x : α} {y : β} (h : xs[j]? = some x) (h' : ys[j]? = some y) : (xs.zip ys)[j]? = some (x, y) := by
  rw [List.getElem?_zip_eq_some]; exact ⟨h, h'⟩
section
variable {X : Cx} {e e2 : Expr} {kws : List Keyword} {ta tk : TA} {p p2 pos pos2 : Pos}
def tLZ (K : PySem.W.Frag) (ta tk : TA) : TE := fun σ H Q => ta σ H fun vs H1 => tk σ H1 fun zs H2 => ∃ a b xs ys, vs = [.ref a, .ref b] ∧ zs = [.bl false] ∧ SqT K H2 a xs ∧ SqT K H2 b ys ∧
  ∀ D ts, H2 D = none → (∀ t ∈ ts, H2 t = none ∧ t ≠ D) → ts.length = min xs.length ys.length → ts.Pairwise (· < ·) → Q (.ref D) (prsH H2 D ts (xs.zip ys))
theorem pe_listzip (hg : Gl X "zip") (hm : X.mg "zip" = none) (hg2 : Gl X "list") (hm2 : X.mg "list" = none) (ha : PA X [e, e2] ta) (hk : PK X kws tk) (hc : X.calm = true := by rfl)
    (he : backTo pos2 (starEach [e, e2] X.env) = (false, eval e X.env) :: backTo pos2 (starEach [e2] X.env) := by rfl) (hpl : (backTo pos2 (starEach [e, e2] X.env)).any (·.1) = false := by rfl)
    (hall : (backToKw pos2 (keywordEach kws X.env)).all (·.1.isSome) = true := by rfl) (hnone : (backToKw pos2 (keywordEach kws X.env)).any (·.1.isNone) = false := by rfl) (hks : (backToKw pos2 (keywordEach kws X.env)).filterMap (·.1) = [Str.ofString "strict"] := by rfl)
    (na : starEach [.Call (.Name "zip" p2) [e, e2] kws pos2] X.env = (false, eval (.Call (.Name "zip" p2) [e, e2] kws pos2) X.env) :: starEach [] X.env := by rfl) :
    PE X (.Call (.Name "list" p) [.Call (.Name "zip" p2) [e, e2] kws pos2] [] pos) (tLZ X.K ta tk) := by
  refine ⟨fun pins s σ H Q I h => ?_⟩
  refine Call_ (ld_blt I hg2 hm2 (by rfl) ?_)
  refine PyProof.Rows.callWith_type1 (PyProof.Rows.args_cons ?_ na) na rfl
  refine wpAny_Call_Name_kw (ld_blt I hg hm PyProof.Rows.boot_zip ?_)
  refine callWith_tyKw (thn (ha.run pos2 pins s σ H _ I h) fun us s0 ⟨vs, H0, I0, r0, q0⟩ => thn (hk.run pos2 pins s0 σ H0 _ I0 q0) fun ws s1 ⟨zs, H1, I1, r2, q1⟩ => ?_) he hpl hall hnone
  rw [hks]
  obtain ⟨a, b, xs, ys, ex, ez, hqx, hqy, q⟩ := q1
  subst ex ez
  obtain ⟨w1, rfl, e1⟩ := vals1 r2
  obtain rfl : w1 = Value.bool false := e1
  cases r0 with
  | cons r rr =>
    cases rr with
    | cons r' rr =>
      cases rr
      cases r
      cases r'
      obtain ⟨its, rv, pa, ha1⟩ := I1.tuple hqx
      obtain ⟨its2, rv2, pb, hb1⟩ := I1.tuple hqy
      have l1 : its.length = xs.length := rv.length.symm
      have l2 : its2.length = ys.length := rv2.length.symm
      obtain ⟨oa, hoa, hoa2⟩ := id pa
      obtain ⟨ob, hob, hob2⟩ := id pb
      refine zipK_begins (begins_tuple a its.toArray) (begins_tuple b its2.toArray) (show s1.heap.IsTuple a its.toArray from pa) (show s1.heap.IsTuple b its2.toArray from pb) fun h' hz hTI hTO h1 h2 hsz hk => ?_
      refine PyProof.Rows.args_nil ?_
      have D := PySem.W.ktu_apart s1.heap.objs.size a b (Heap.lt_size hoa) (Heap.lt_size hob)
      refine lz_call (s := { s1 with heap := h' }) (us := its.toArray) (vs := its2.toArray) (I1.ok.hd hc) D (by rw [List.size_toArray, List.size_toArray, l1]; exact Nat.le_trans (Nat.min_le_left _ _) ha1) hz hTI hTO ⟨_, h1, rfl, rfl⟩ ⟨_, h2, rfl, rfl⟩ ((show s1.heap.IsTuple a its.toArray from pa).at fun o e => hk _ _ e) ((show s1.heap.IsTuple b its2.toArray from pb).at fun o e => hk _ _ e) fun h2' tk acc c as k2 gS len hG ea => ?_
      dsimp only at k2 gS hG ⊢
      rw [hsz] at gS hG ⊢
      rw [List.size_toArray, List.size_toArray, l1, l2] at len
      have kk : ∀ c o, s1.heap.get? c = some o → h2'.get? c = some o := fun c o x => by
        have n5 : ∀ i, c ≠ s1.heap.objs.size + i := fun i => Nat.ne_of_lt (Nat.lt_of_lt_of_le (Heap.lt_size x) (Nat.le_add_right _ _))
        exact k2 c o (n5 4) (n5 3) (n5 0) (n5 1) (hk c o x)
      have hD : H1 (s1.heap.objs.size + 5) = none := I1.hok.fresh (Nat.le_add_right _ _)
      have hts : ∀ t ∈ as, H1 t = none ∧ t ≠ s1.heap.objs.size + 5 := fun t ht => by
        have q1 := hG.above t ht
        exact ⟨I1.hok.fresh (Nat.le_trans (Nat.le_add_right _ 6) q1), Nat.ne_of_gt (Nat.lt_of_lt_of_le (Nat.lt_succ_self _) q1)⟩
      have q' := q _ as hD hts len hG.rise
      have E1 : Ex H1 (prsH H1 (s1.heap.objs.size + 5) as (xs.zip ys)) := fun b o hb => by
        unfold prsH
        rw [if_neg (by rintro rfl; rw [hD] at hb; cases hb)]
        cases hl : (as.zip (xs.zip ys)).lookup b with
        | none => exact hb
        | some w =>
          obtain ⟨j, hj, _⟩ := look_zip_inv hl
          rw [(hts b (List.mem_of_getElem? hj)).1] at hb
          cases hb
      refine ⟨.ref (s1.heap.objs.size + 5), _, grow_inv (t' := tk) I1 kk E1 (fun b hb hn => ?_) (fun b o hn hb => ?_), rfl, q'⟩
      · unfold prsH
        rw [if_neg (Nat.ne_of_lt (Nat.lt_of_lt_of_le hb (Nat.le_add_right _ _)))]
        cases hl : (as.zip (xs.zip ys)).lookup b with
        | none => exact hn
        | some w =>
          obtain ⟨j, hj, _⟩ := look_zip_inv hl
          exact absurd (Nat.lt_of_lt_of_le hb (Nat.le_trans (Nat.le_add_right _ 6) (hG.above b (List.mem_of_getElem? hj)))) (Nat.lt_irrefl _)
      · unfold prsH at hb
        by_cases e : b = s1.heap.objs.size + 5
        · rw [if_pos e] at hb
          cases hb
          subst e
          refine ⟨by rw [List.length_map, len]; exact Nat.le_trans (Nat.min_le_left _ _) ha1, acc.toList, c, ?_, by rw [Array.toArray_toList]; exact gS⟩
          rw [ea]
          exact vals_refs' as
        · rw [if_neg e] at hb
          cases hl : (as.zip (xs.zip ys)).lookup b with
          | none => rw [hl] at hb; rw [hn] at hb; cases hb
          | some w =>
            rw [hl] at hb
            cases hb
            obtain ⟨j, hj, hw⟩ := look_zip_inv hl
            obtain ⟨u, v, hu, hv, hg⟩ := hG.pairs j b hj
            obtain ⟨x, y⟩ := w
            rw [List.getElem?_zip_eq_some] at hw
            obtain ⟨hx, hy⟩ := hw
            obtain ⟨u', hu', ru⟩ := rv.get hx
            obtain ⟨v', hv', rw'⟩ := rv2.get hy
            have eu : u' = u := Option.some.inj (hu'.symm.trans (by simpa using hu))
            have ev : v' = v := Option.some.inj (hv'.symm.trans (by simpa using hv))
            rw [eu] at ru
            rw [ev] at rw'
            exact ⟨by show 2 ≤ sizeLine; decide, [u, v], .cons ru (.cons rw' .nil), ⟨_, hg, rfl, 0, rfl⟩⟩
end
end L2.K4
end
section
set_option Elab.async false
set_option linter.all false
set_option maxRecDepth 100000
set_option maxHeartbeats 4000000
/-! The web asked; sides. -/
namespace L2.K4
open PySem PySem.Spec PyProof.Rows L2
abbrev Wy := K34.Wy
abbrev Fc := K34.Fc
def stK (s : Pl × Pl) : NK := .tup [plK s.1, plK s.2]
def wyK (w : Wy) : NK := .tup (w.map plK)
def fcK (f : Fc) : NK := .tup [wyK f.1, wyK f.2]
section
variable {P : Program} {w : World} {K : PySem.W.Frag} {mg : Str → Option Value} {base : Heap}
def spIsPt (K : PySem.W.Frag) : Sp := fun vs H Q _ => ∃ v p, vs = [v] ∧ At K H (plK p) v ∧ ∀ H', Ex H H' → Q (.bl true) H'
theorem ok_is_place_tuple (c : Cf K mg) : Kp P w K mg base 1 (He.ga K "is_place_tuple") (spIsPt K) := by
  obtain ⟨fd, F⟩ := F_is_place_tuple c
  have nd : (["value", "one"] : List Str).Nodup := by decide +kernel
  refine kp_of F (N := ["value", "one"]) (ps := ["value"]) ⟨rfl, rfl, rfl, nd, rfl, by decide +kernel, by decide +kernel⟩ (F.bindsN fun _ _ _ _ _ _ us hl => match us, hl with | [_], _ => rfl) (fun vs H Q E h => ?_) (fun cdv A outer s H vs Q E hr h => ?_)
  · obtain ⟨v, p, rfl, _⟩ := h; rfl
  · obtain ⟨v, p, rfl, hp, k⟩ := h
    obtain ⟨t, rfl, ht⟩ := at_pl hp
    refine ⟨_, pss_cons (ps_if (PW.pt (pw_or (pt_not (pt_val (pe_callB call_isi (by rfl) (c.free "isinstance" (by decide +kernel)) (by decide +kernel) (pa_cons (pv 0) (pa_cons (pe_bltn (v := .ty "tuple") (by rfl) (c.free "tuple" (by decide +kernel)) (by decide +kernel) rfl) pa_nil)))))
      (pw_or1 (pt_cmpR op_ne (pe_callB call_len_seq (by rfl) (c.free "len" (by decide +kernel)) PySem.boot_len (pa_cons (pv 0) pa_nil)) pe_int (nomark _))))) (pss_one ps_never) pss_nil)
      (pss_one (ps_ret (pe_callB (cr_all rfl) (by rfl) (c.free "all" (by decide +kernel)) (by decide +kernel) (pa_cons (pe_lc (own := [("one", 1)]) (g := gName 1) (tt := tYes) (te := tAndV (tCB (rIsi K) (tCons (tVar 1) (tCons (tC (.ty "int")) tNil))) (tNotV (tCB (rIsi K) (tCons (tVar 1) (tCons (tC (.ty "bool")) tNil))))) rfl nd (pi_tup (pv 0)) (blkOk_by (N := ["value", "one"]) (sc := defScope s_is_place_tuple) (by decide +kernel)) (fun _ _ _ _ _ => pg_name (i := 1) nd rfl (Or.inl rfl)) (fun _ _ _ _ _ => pts_nil)
        (fun _ _ _ _ _ => pe_and (pe_callB call_isi (by rfl) (c.free "isinstance" (by decide +kernel)) (by decide +kernel) (pa_cons (pv 1) (pa_cons (pe_bltn (v := .ty "int") (by rfl) (c.free "int" (by decide +kernel)) (by decide +kernel) rfl) pa_nil)))
          (pe_one (pe_not (pe_callB call_isi (by rfl) (c.free "isinstance" (by decide +kernel)) (by decide +kernel) (pa_cons (pv 1) (pa_cons (pe_bltn (v := .ty "bool") (by rfl) (c.free "bool" (by decide +kernel)) (by decide +kernel) rfl) pa_nil))))))) pa_nil)))), ?_⟩
    refine ⟨_, rfl, _, _, _, _, true, rfl, .ty _, ty_tup ht, kit_ty (r := true) (by decide +kernel), true, rfl, ?_⟩
    refine iteF ⟨_, rfl, t, _, rfl, .inr ht, rfl, false, rfl, iteF ?_⟩
    refine ⟨_, rfl, t, rfl, ⟨_, ht⟩, fun D hD => ?_⟩
    refine lcG (n := 2) (Y := fun i' x _ => (plV p)[i']? = some x) hD (fun _ => some (V.bl true)) IsV IsV.mono (by decide) (fun H' e => sw_tup (ext' e ht)) (fun i' x H1 zs hi' e2 hx hDl Q2 q2 => ?_) fun H2 ys e2 h2 hpp => ?_
    · suffices key : ∃ i : Int, x = .int i by
        obtain ⟨i, rfl⟩ := key
        exact ⟨rfl, _, rfl, _, _, _, _, true, rfl, .ty _, .base (.int i), kit_ty (r := true) (by decide +kernel), true, rfl, _, rfl, _, _, _, _, _, rfl, .ty _, .base (.int i), kit_ty (r := false) (by decide +kernel), false, rfl, q2 (some (.bl true)) H1 Ex.refl rfl⟩
      rcases i' with _ | _ | i'
      · cases hx; exact ⟨_, rfl⟩
      · cases hx; exact ⟨_, rfl⟩
      · omega
    · rw [IsV.all hpp, made_const] at h2
      exact ⟨D, [true, true], rfl, .inl (.inl h2), k H2 e2⟩
def spPlaces (P : Program) (w : World) (K : PySem.W.Frag) : Sp := fun vs H Q _ => ∃ p W, vs = [.ref p] ∧ WebA P w K H p W ∧ ∀ H' l xs, Ex H H' → H l = none → H' l = some (.lst xs) → AtL K H' ((webPls W).map plK) xs → Q (.ref l) H'
theorem ok_places (c : Cf K mg) : Kp P w K mg base 1 (He.ma K (He.ga K "Web") "places") (spPlaces P w K) := by
  obtain ⟨fd, F⟩ := F_Web_places c
  refine kp_of F (N := ["self"]) (ps := ["self"]) ⟨rfl, rfl, rfl, by decide +kernel, rfl, by decide +kernel, by decide +kernel⟩ (F.bindsN fun _ _ _ _ _ _ us hl => match us, hl with | [_], _ => rfl) (fun vs H Q E h => ?_) (fun cdv A outer s H vs Q E hr h => ?_)
  · obtain ⟨p, W, rfl, _⟩ := h; rfl
  · obtain ⟨p, W, rfl, ⟨dx, ol, nl, cp, d, kvs, h1, h2⟩, k⟩ := h
    have cl := (c.cls "Web" (by decide +kernel)).1
    refine ⟨_, pss_one (ps_ret (pe_callTy (call_listN rfl) (by rfl) (c.free "list" (by decide +kernel)) (by decide +kernel) (pa_cons (pe_fld (pv 0) rfl) pa_nil))), ?_⟩
    refine ⟨_, rfl, p, _, dx, _, _, rfl, h1, cl, c.noat ("Web", "own_steps") (by decide +kernel), rfl, d, kvs, rfl, h2.1, fun l xs hl ha => ?_⟩
    have e := Ex.laid (o := .lst xs) hl
    refine k _ l xs e hl upd_same ?_
    rw [← h2.2.1]
    exact AtL.keep (Ex.tk e) _ _ ha
def spSteps (P : Program) (w : World) (K : PySem.W.Frag) : Sp := fun vs H Q _ => ∃ p v W q, vs = [.ref p, v] ∧ WebA P w K H p W ∧ At K H (plK q) v ∧ W.v q = true ∧
  ∀ H' l xs, Ex H H' → H l = none → H' l = some (.lst xs) → AtL K H' ((W.wst q).map fun o => stK (q, o)) xs → Q (.ref l) H'
theorem wst_len (W : K34.Web) (q : Pl) : (W.wst q).length ≤ 3 := by unfold K34.Web.wst; exact List.length_filter_le _ _
theorem ok_steps (c : Cf K mg) : Kp P w K mg base 2 (He.ma K (He.ga K "Web") "steps") (spSteps P w K) := by
  obtain ⟨fd, F⟩ := F_Web_steps c
  have nd : (["self", "place", "other"] : List Str).Nodup := by decide +kernel
  refine kp_of F (N := ["self", "place", "other"]) (ps := ["self", "place"]) ⟨rfl, rfl, rfl, nd, rfl, by decide +kernel, by decide +kernel⟩ (F.bindsN fun _ _ _ _ _ _ us hl => match us, hl with | [_, _], _ => rfl) (fun vs H Q E h => ?_) (fun cdv A outer s H vs Q E hr h => ?_)
  · obtain ⟨p, v, W, q, rfl, _⟩ := h; rfl
  · obtain ⟨p, v, W, q, rfl, ⟨dx, ol, nl, cp, d, kvs, h1, h2⟩, hv, hq, k⟩ := h
    have cl := (c.cls "Web" (by decide +kernel)).1
    have na := c.noat ("Web", "own_steps") (by decide +kernel)
    have hu9 : (A.deeper (envOfC "Web.steps" (defScope s_Web_steps) s.heap.objs.size (He.ma K (He.ga K "Web") "steps") cdv)).units + 9 < cLine := by have := hr.units; omega
    obtain ⟨l0, xs0, g1, g2, g3⟩ := h2.2.2 q (mem_pls.mpr hq)
    refine ⟨_, pss_cons (ps_if (PW.pt (pw_or (pt_not (pt_val (pe_cal c (ok_is_place_tuple c) hr (pa_cons (pv 1) pa_nil)))) (pw_or1 (pt_cmpR (op_notInN hu9) (pv 1) (pe_fld (pv 0) rfl) (by rfl))))) (pss_one ps_never) pss_nil)
      (pss_one (ps_ret (pe_lc (own := [("other", 2)]) (g := gName 2) (tt := tYes) (te := tTup (tCons (tVar 1) (tCons (tVar 2) tNil))) rfl nd (pi_list (pe_getN hu9 (pe_fld (pv 0) rfl) (pv 1) (fun _ _ => rfl))) (blkOk_by (N := ["self", "place", "other"]) (sc := defScope s_Web_steps) (by decide +kernel)) (fun _ _ _ _ _ => pg_name (i := 2) nd rfl (Or.inl rfl)) (fun _ _ _ _ _ => pts_nil)
        (fun _ _ _ _ _ => pe_tup (pa_cons (pv 1) (pa_cons (pv 2) pa_nil)))))), ?_⟩
    refine ⟨_, rfl, v, q, rfl, hv, fun H1 e1 => ⟨true, rfl, iteF ?_⟩⟩
    refine ⟨_, rfl, _, rfl, p, _, dx, _, _, rfl, e1 _ _ h1, cl, na, rfl, d, kvs, plK q, rfl, h2.1.ex e1, At.keep (Ex.tk e1) _ _ hv, ⟨_, rfl⟩, plK_depth _, false, congrArg V.bl (by rw [g1]; rfl), iteF ?_⟩
    refine ⟨_, rfl, p, _, dx, _, _, rfl, e1 _ _ h1, cl, na, rfl, _, rfl, d, kvs, plK q, _, rfl, h2.1.ex e1, At.keep (Ex.tk e1) _ _ hv, ⟨_, rfl⟩, plK_depth _, g1, l0, rfl, ⟨_, .inl (.inl (e1 _ _ g2))⟩, fun D hD => ?_⟩
    have hlen : xs0.length = (W.wst q).length := by rw [AtL.length g3, List.length_map]
    refine lcG (n := xs0.length) (Y := fun i x _ => xs0[i]? = some x) hD (fun i => ((W.wst q)[i]?).map fun o => stK (q, o)) (AtD K) AtD.mono (by rw [hlen]; exact Nat.lt_of_le_of_lt (wst_len W q) (by decide)) (fun H' e => sw_list (.inl (.inl (e _ _ (e1 _ _ g2))))) (fun i x H2 zs hi e2 hx hDl Q2 q2 => ?_) fun H2 ys e2 hy hpp => ?_
    · have e12 := e1.trans e2
      obtain ⟨kx, k1, k2⟩ := AtL.get (AtL.keep (Ex.tk e12) _ _ g3) hx
      rw [List.getElem?_map] at k1
      cases ho : (W.wst q)[i]? with
      | none => rw [ho] at k1; cases k1
      | some o =>
        rw [ho] at k1
        cases k1
        refine ⟨rfl, _, rfl, _, rfl, by show 2 ≤ sizeLine; decide, fun u hu => ?_⟩
        have e3 := Ex.laid (o := .tup [v, x]) hu
        refine q2 (some (.ref u)) _ e3 ?_
        rw [ho]
        exact AtD.of (At.tup (.inl (.inl upd_same)) (AtL.two (At.keep (Ex.tk (e12.trans e3)) _ _ hv) (At.keep (Ex.tk e3) _ _ k2))) (e3 _ _ hDl)
    · have e : made (fun i => ((W.wst q)[i]?).map fun o => stK (q, o)) xs0.length = (W.wst q).map fun o => stK (q, o) := by
        have := made_all ((W.wst q).map fun o => stK (q, o))
        rw [List.length_map] at this
        rw [hlen]
        simpa only [List.getElem?_map] using this
      rw [e] at hpp
      exact k H2 D ys (e1.trans e2) (e1.free hD) hy (AtD.all hpp)
end
end L2.K4
end
section
set_option Elab.async false
set_option linter.all false
set_option maxRecDepth 100000
set_option maxHeartbeats 4000000
/-! Sides and faces: their small defs. -/
namespace L2.K4
open PySem PySem.Spec PyProof.Rows L2
section
variable {K : PySem.W.Frag} {H : Hp} {D : Addr} {ts : List Addr} {ps : List (V × V)}
theorem prs_ex (hD : H D = none) (ht : ∀ t ∈ ts, H t = none ∧ t ≠ D) : Ex H (prsH H D ts ps) := fun b o hb => by
  unfold prsH
  rw [if_neg (by rintro rfl; rw [hD] at hb; cases hb)]
  cases hl : (ts.zip ps).lookup b with
  | none => exact hb
  | some w =>
    obtain ⟨j, hj, _⟩ := look_zip_inv hl
    rw [(ht b (List.mem_of_getElem? hj)).1] at hb
    cases hb
theorem prs_at {j : Nat} {t : Addr} {q : V × V} (hp : ts.Pairwise (· < ·)) (ht : ts[j]? = some t) (hq : ps[j]? = some q) (hn : t ≠ D) : prsH H D ts ps t = some (.tup [q.1, q.2]) := by
  unfold prsH
  rw [if_neg hn, look_zip hp ht hq]
theorem prs_D : prsH H D ts ps D = some (.lst (ts.map V.ref)) := if_pos rfl
theorem AtL.ofGet : ∀ {ks : List NK} {xs : List V}, xs.length = ks.length → (∀ (i : Nat) k x, ks[i]? = some k → xs[i]? = some x → At K H k x) → AtL K H ks xs
  | [], [], _, _ => AtL.nil
  | [], _ :: _, h, _ => by simp at h
  | _ :: _, [], h, _ => by simp at h
  | k :: ks, x :: xs, h, q => AtL.cons (q 0 k x rfl rfl) (AtL.ofGet (by simpa using h) fun i k' x' h1 h2 => q (i + 1) k' x' (by simpa using h1) (by simpa using h2))
theorem cutV_tail (xs : List V) : cutV xs (some 1) none = xs.tail := by
  unfold cutV
  have e : HT.sIx xs.length 0 (some (1 : Int)) = min 1 xs.length := HT.sIx_nat _ _ 1
  rw [e, HT.sIx_none]
  cases xs with
  | nil => rfl
  | cons x xs =>
    rw [show min 1 (x :: xs).length = 1 by simp]
    simp
theorem at_wy {p : Wy} {v : V} (h : At K H (wyK p) v) : ∃ t xs, v = .ref t ∧ SqT K H t xs ∧ AtL K H (p.map plK) xs := At.tup_inv h
theorem at_fc {f : Fc} {v : V} (h : At K H (fcK f) v) : ∃ t x y, v = .ref t ∧ SqT K H t [x, y] ∧ At K H (wyK f.1) x ∧ At K H (wyK f.2) y := by
  obtain ⟨t, xs, rfl, hs, ha⟩ := At.tup_inv h
  obtain ⟨y, ys, rfl, h1, h2⟩ := ha.cons_inv
  obtain ⟨z, zs, rfl, h3, h4⟩ := h2.cons_inv
  rw [h4.nil_inv] at hs
  exact ⟨t, y, z, rfl, hs, h1, h3⟩
theorem at_st {p : Pl × Pl} {v : V} (h : At K H (stK p) v) : ∃ t x y, v = .ref t ∧ SqT K H t [x, y] ∧ At K H (plK p.1) x ∧ At K H (plK p.2) y := by
  obtain ⟨t, xs, rfl, hs, ha⟩ := At.tup_inv h
  obtain ⟨y, ys, rfl, h1, h2⟩ := ha.cons_inv
  obtain ⟨z, zs, rfl, h3, h4⟩ := h2.cons_inv
  rw [h4.nil_inv] at hs
  exact ⟨t, y, z, rfl, hs, h1, h3⟩
end
theorem stK_depth (y : Pl × Pl) : (stK y).depth ≤ 8 := by unfold stK plK; simp [NestedKey.depth, NestedKey.depthAll]
theorem depthAll_le {n : Nat} : ∀ ks : List NK, (∀ k ∈ ks, k.depth ≤ n) → NestedKey.depthAll ks ≤ n
  | [], _ => by simp [NestedKey.depthAll]
  | k :: ks, h => by
    have h1 := h k (List.mem_cons_self ..)
    have h2 := depthAll_le ks fun x hx => h x (List.mem_cons_of_mem _ hx)
    simp only [NestedKey.depthAll]
    omega
theorem plK_d2 (p : Pl) : (plK p).depth ≤ 2 := by unfold plK; simp [NestedKey.depth, NestedKey.depthAll]
theorem wyK_d (w : Wy) : (wyK w).depth ≤ 3 := by
  unfold wyK
  have := depthAll_le (n := 2) (w.map plK) fun k hk => by obtain ⟨p, _, rfl⟩ := List.mem_map.mp hk; exact plK_d2 p
  simp only [NestedKey.depth]
  omega
theorem fcK_d (f : Fc) : (fcK f).depth ≤ 4 := by
  unfold fcK
  have := depthAll_le (n := 3) [wyK f.1, wyK f.2] fun k hk => by
    rcases List.mem_cons.mp hk with h | h
    · rw [h]; exact wyK_d _
    · rw [List.mem_singleton.mp h]; exact wyK_d _
  simp only [NestedKey.depth]
  omega
theorem stK_inj {p q : Pl × Pl} (h : stK p = stK q) : p = q := by
  obtain ⟨a, b⟩ := p; obtain ⟨c, d⟩ := q
  unfold stK at h
  injection h with h
  injection h with h1 h
  injection h with h2 _
  exact Prod.ext (plK_inj h1) (plK_inj h2)
theorem wyK_inj {p q : Wy} (h : wyK p = wyK q) : p = q := by
  unfold wyK at h
  injection h with h
  exact List.map_inj_right (fun _ _ => plK_inj) |>.mp h
theorem fcK_inj {p q : Fc} (h : fcK p = fcK q) : p = q := by
  obtain ⟨a, b⟩ := p; obtain ⟨c, d⟩ := q
  unfold fcK at h
  injection h with h
  injection h with h1 h
  injection h with h2 _
  exact Prod.ext (wyK_inj h1) (wyK_inj h2)
section
variable {P : Program} {w : World} {K : PySem.W.Frag} {mg : Str → Option Value} {base : Heap}
def spSide (K : PySem.W.Frag) : Sp := fun vs H Q _ => ∃ v a, vs = [v] ∧ At K H (wyK a) v ∧ ∀ H' l xs, Ex H H' → H l = none → H' l = some (.lst xs) → AtL K H' ((K34.steps a).map stK) xs → Q (.ref l) H'
theorem ok_side_steps (c : Cf K mg) : Kp P w K mg base 1 (He.ga K "side_steps") (spSide K) := by
  obtain ⟨fd, F⟩ := F_side_steps c
  refine kp_of F (N := ["side"]) (ps := ["side"]) ⟨rfl, rfl, rfl, by decide +kernel, rfl, by decide +kernel, by decide +kernel⟩ (F.bindsN fun _ _ _ _ _ _ us hl => match us, hl with | [_], _ => rfl) (fun vs H Q E h => ?_) (fun cdv A outer s H vs Q E hr h => ?_)
  · obtain ⟨v, a, rfl, _⟩ := h; rfl
  · obtain ⟨v, a, rfl, hv, k⟩ := h
    obtain ⟨t, xs, rfl, ht, hx⟩ := at_wy hv
    refine ⟨_, pss_one (ps_ret (pe_listzip (by rfl) (c.free "zip" (by decide +kernel)) (by rfl) (c.free "list" (by decide +kernel)) (pa_cons (pv 0) (pa_cons (pe_slice sl_tupA (pv 0) (po_some pe_int) po_none) pa_nil)) (pk_cons pe_bl pk_nil))), ?_⟩
    have lx : xs.length = a.length := by rw [AtL.length hx, List.length_map]
    have fin : ∀ H2 u ys, Ex H H2 → SqT K H2 u ys → ys = xs.tail → ∀ D ts, H2 D = none → (∀ t ∈ ts, H2 t = none ∧ t ≠ D) → ts.length = min xs.length ys.length → ts.Pairwise (· < ·) → Q (.ref D) (prsH H2 D ts (xs.zip ys)) := by
      intro H2 u ys e2 hu ey D ts hD hts hl hp
      subst ey
      have e3 := prs_ex (ps := xs.zip xs.tail) hD hts
      refine k _ D _ (e2.trans e3) (e2.free hD) prs_D (AtL.ofGet ?_ fun i kk x h1 h2 => ?_)
      · rw [List.length_map, hl, List.length_map]
        unfold K34.steps
        rw [List.length_zip, List.length_tail, List.length_tail, lx]
      · rw [List.getElem?_map] at h1 h2
        cases hz : (K34.steps a)[i]? with
        | none => rw [hz] at h1; cases h1
        | some st =>
          rw [hz] at h1
          cases h1
          cases ht2 : ts[i]? with
          | none => rw [ht2] at h2; cases h2
          | some t2 =>
            rw [ht2] at h2
            cases h2
            obtain ⟨z1, z2⟩ := st
            unfold K34.steps at hz
            rw [List.getElem?_zip_eq_some] at hz
            obtain ⟨q1, q2⟩ := hz
            have hx3 := AtL.keep (Ex.tk (e2.trans e3)) _ _ hx
            obtain ⟨x1, p1, p2⟩ := AtL.getK (k := plK z1) (i := i) hx3 (by rw [List.getElem?_map, q1]; rfl)
            have q2' : a[i + 1]? = some z2 := by rw [← List.getElem?_tail]; exact q2
            obtain ⟨x2, p3, p4⟩ := AtL.getK (k := plK z2) (i := i + 1) hx3 (by rw [List.getElem?_map, q2']; rfl)
            refine At.tup (.inl (.inl (prs_at (q := (x1, x2)) hp ht2 ?_ (hts t2 (List.mem_of_getElem? ht2)).2))) (AtL.two p2 p4)
            rw [List.getElem?_zip_eq_some]
            exact ⟨p1, by rw [List.getElem?_tail]; exact p3⟩
    refine ⟨_, rfl, _, rfl, 1, rfl, t, xs, rfl, ht, fun hw => ?_, fun _ u hu => ?_⟩
    · have e : HT.sIx xs.length 0 (some (1 : Int)) = min 1 xs.length := HT.sIx_nat _ _ 1
      rw [e] at hw
      have h0 : xs = [] := List.length_eq_zero_iff.mp (by omega)
      refine ⟨t, t, xs, xs, rfl, rfl, ht, ht, fin H t xs Ex.refl ht (by rw [h0]; rfl)⟩
    · have e := Ex.laid (o := .tup (cutV xs (some 1) none)) hu
      exact ⟨t, u, xs, _, rfl, rfl, ext' e ht, .inl (.inl upd_same), fin _ u _ e (.inl (.inl upd_same)) (cutV_tail xs)⟩
/-- what faces are sorted by -/
def keyK (f : Fc) : NK := .tup [plK (f.1.head?.getD (0, 0)), plK (f.1.getLast?.getD (0, 0)), wyK f.1]
def spKey (K : PySem.W.Frag) : Sp := fun vs H Q _ => ∃ v f, vs = [v] ∧ At K H (fcK f) v ∧ f.1 ≠ [] ∧ ∀ H' u, Ex H H' → At K H' (keyK f) u → Q u H'
theorem ok_face_key (c : Cf K mg) : Kp P w K mg base 1 (He.ga K "face_key") (spKey K) := by
  obtain ⟨fd, F⟩ := F_face_key c
  refine kp_of F (N := ["face"]) (ps := ["face"]) ⟨rfl, rfl, rfl, by decide +kernel, rfl, by decide +kernel, by decide +kernel⟩ (F.bindsN fun _ _ _ _ _ _ us hl => match us, hl with | [_], _ => rfl) (fun vs H Q E h => ?_) (fun cdv A outer s H vs Q E hr h => ?_)
  · obtain ⟨v, f, rfl, _⟩ := h; rfl
  · obtain ⟨v, f, rfl, hv, hne, k⟩ := h
    obtain ⟨t, x, y, rfl, ht, hx, hy⟩ := at_fc hv
    obtain ⟨u, xs, rfl, hu, hxs⟩ := at_wy hx
    obtain ⟨p, ps, hp⟩ : ∃ p ps, f.1 = p :: ps := by cases h : f.1 with | nil => exact absurd h hne | cons p ps => exact ⟨p, ps, rfl⟩
    obtain ⟨qs, q, hq⟩ : ∃ qs q, f.1 = qs ++ [q] := ⟨_, _, (List.dropLast_concat_getLast hne).symm⟩
    refine ⟨_, pss_one (ps_ret (pe_tup (pa_cons (pe_ix ix_tup (pe_ix ix_tup (pv 0) pe_int (fun _ _ => rfl)) pe_int (fun _ _ => rfl)) (pa_cons (pe_ix ix_tup (pe_ix ix_tup (pv 0) pe_int (fun _ _ => rfl)) (pe_un un_neg pe_int) (fun _ _ => rfl)) (pa_cons (pe_ix ix_tup (pv 0) pe_int (fun _ _ => rfl)) pa_nil))))), ?_⟩
    have g0 : atI ([V.ref u, y]) ((0 : Nat) : Int) = some (V.ref u) := atI_nat rfl
    obtain ⟨x0, e0, a0⟩ := AtL.getK (k := plK p) (i := 0) hxs (by rw [hp]; rfl)
    have hl : xs.length = qs.length + 1 := by rw [AtL.length hxs, hq]; simp
    obtain ⟨x1, e1, a1⟩ := AtL.getK (k := plK q) (i := qs.length) hxs (by rw [hq]; simp)
    obtain ⟨ys, ey⟩ : ∃ ys, xs = ys ++ [x1] := by
      refine ⟨xs.take qs.length, ?_⟩
      have := List.take_succ_eq_append_getElem (l := xs) (i := qs.length) (by omega)
      rw [List.take_of_length_le (by omega)] at this
      rw [List.getElem?_eq_getElem (by omega)] at e1
      rw [← Option.some.inj e1]
      exact this
    refine ⟨_, rfl, t, _, _, _, rfl, rfl, ht, g0, u, _, _, _, rfl, rfl, hu, atI_nat (j := 0) e0, _, rfl, t, _, _, _, rfl, rfl, ht, g0, 1, rfl, u, _, _, x1, rfl, rfl, hu, by rw [ey]; exact atI_last _ _, _, rfl, t, _, _, _, rfl, rfl, ht, g0, by show 3 ≤ sizeLine; decide, fun n hn => ?_⟩
    have e := Ex.laid (o := .tup [x0, x1, V.ref u]) hn
    refine k _ _ e (At.tup (.inl (.inl upd_same)) (AtL.cons ?_ (AtL.cons ?_ (AtL.one (At.keep (Ex.tk e) _ _ hx)))))
    · rw [hp]; exact At.keep (Ex.tk e) _ _ a0
    · rw [hq]; simp only [List.getLast?_append, List.getLast?_singleton, Option.some_or, Option.getD_some]; exact At.keep (Ex.tk e) _ _ a1
end
end L2.K4
end
section
set_option Elab.async false
set_option linter.all false
set_option maxRecDepth 100000
set_option maxHeartbeats 4000000
/-! == of nested data; sum of a pair. -/
namespace L2.K4
open PySem PySem.Spec PyProof.Rows L2
mutual
theorem eqv_data : ∀ a b : NK, PyData.eqv a.data b.data = NestedKey.beq a b
  | .none, .none => rfl
  | .num i, .num j => by simp only [NestedKey.data, PyData.eqv, NestedKey.beq]; rfl
  | .text i, .text j => by simp only [NestedKey.data, PyData.eqv, NestedKey.beq]; exact Bool.eq_iff_iff.mpr (by simp)
  | .tup xs, .tup ys => by simp only [NestedKey.data, PyData.eqv, NestedKey.beq]; exact eqv_datas xs ys
  | .none, .num _ | .none, .text _ | .none, .tup _ => rfl
  | .num _, .none | .num _, .text _ | .num _, .tup _ => rfl
  | .text _, .none | .text _, .num _ | .text _, .tup _ => rfl
  | .tup _, .none | .tup _, .num _ | .tup _, .text _ => rfl
theorem eqv_datas : ∀ a b : List NK, PyData.eqvAll (NestedKey.datas a) (NestedKey.datas b) = NestedKey.beqAll a b
  | [], [] => rfl
  | x :: xs, y :: ys => by simp only [NestedKey.datas, PyData.eqvAll, NestedKey.beqAll]; rw [eqv_data x y, eqv_datas xs ys]
  | [], _ :: _ => rfl
  | _ :: _, [] => rfl
end
mutual
/-- no texts -/
def numK : NK → Bool
  | .text _ => false
  | .tup ks => numKs ks
  | _ => true
def numKs : List NK → Bool
  | [] => true
  | k :: ks => numK k && numKs ks
end
mutual
theorem can_data : ∀ k : NK, numK k = true → PyData.canLay0 k.data = true
  | .none, _ => rfl
  | .num _, _ => rfl
  | .text _, h => by cases h
  | .tup ks, h => by simp only [NestedKey.data, PyData.canLay0]; exact can_datas ks h
theorem can_datas : ∀ ks : List NK, numKs ks = true → PyData.canLayAll0 (NestedKey.datas ks) = true
  | [], _ => rfl
  | k :: ks, h => by
    have h' := Bool.and_eq_true_iff.mp h
    simp only [NestedKey.datas, PyData.canLayAll0]
    rw [can_data k h'.1, can_datas ks h'.2]; rfl
end
mutual
theorem depth_data : ∀ k : NK, k.data.depth ≤ k.depth + 1
  | .none => by decide
  | .num _ => by simp [NestedKey.data, PyData.depth]
  | .text _ => by simp [NestedKey.data, PyData.depth]
  | .tup ks => by
    have := depth_datas ks
    simp only [NestedKey.data, PyData.depth, NestedKey.depth]
    omega
theorem depth_datas : ∀ ks : List NK, PyData.depthAll (NestedKey.datas ks) ≤ NestedKey.depthAll ks + 1
  | [] => by simp [NestedKey.datas, PyData.depthAll]
  | k :: ks => by
    have h1 := depth_data k
    have h2 := depth_datas ks
    simp only [NestedKey.datas, PyData.depthAll, NestedKey.depthAll]
    omega
end
theorem shaped_data {k : NK} (h : numK k = true) (hd : k.depth ≤ 8) : SeqAt.shaped k.data = true := by
  unfold SeqAt.shaped
  rw [can_data k h, decide_eq_true (by have := depth_data k; omega)]; rfl
theorem numKs_all {ks : List NK} (h : ∀ k ∈ ks, numK k = true) : numKs ks = true := by
  induction ks with
  | nil => rfl
  | cons k ks ih => simp only [numKs]; rw [h k (List.mem_cons_self ..), ih fun x hx => h x (List.mem_cons_of_mem _ hx)]; rfl
section
variable {X : Cx}
open Classical in
def rEqA (K : PySem.W.Frag) (neg : Bool) : R2 := fun x y H Q => ∃ k l, At K H k x ∧ At K H l y ∧ numK k = true ∧ numK l = true ∧ k.depth ≤ 8 ∧ l.depth ≤ 8 ∧ Q (.bl (if neg then !decide (k = l) else decide (k = l))) H
theorem eqv_dec (k l : NK) [Decidable (k = l)] : PyData.eqv k.data l.data = decide (k = l) := by
  rw [eqv_data, ← NestedKey.decide_eq]
  exact decide_eq_decide.mpr Iff.rfl
theorem op_eqA (hu : X.A.units + 64 < cLine) : OpR X (compareOp .Eq) (rEqA X.K false) := by
  intro pins s σ H x y v u Q I rx ry ⟨k, l, h1, h2, a, b, c, d, q⟩
  refine op_eqD hu pins s σ H x y v u Q I rx ry ⟨k.data, l.data, h1, h2, shaped_data a c, shaped_data b d, ?_⟩
  classical
  rw [eqv_dec]; exact q
theorem op_neA (hu : X.A.units + 64 < cLine) : OpR X (compareOp .NotEq) (rEqA X.K true) := by
  intro pins s σ H x y v u Q I rx ry ⟨k, l, h1, h2, a, b, c, d, q⟩
  refine op_neD hu pins s σ H x y v u Q I rx ry ⟨k.data, l.data, h1, h2, shaped_data a c, shaped_data b d, ?_⟩
  classical
  rw [eqv_dec]; exact q
/-- sum(t) of a pair -/
def rSumP (K : PySem.W.Frag) : List V → Hp → VK → Prop := fun vs H Q => ∃ a i j, vs = [.ref a] ∧ SqT K H a [.int i, .int j] ∧ (-(2 ^ 62) ≤ i ∧ i < 2 ^ 62) ∧ (-(2 ^ 62) ≤ j ∧ j < 2 ^ 62) ∧ Q (.int (i + j)) H
theorem cr_sumP (hc : X.calm = true) : CallR X (.builtin "sum") (rSumP X.K) := by
  intro pins s σ H vs us Q I r ⟨a, i, j, ex, hT, bi, bj, q⟩
  subst ex
  obtain ⟨u, eu, rx⟩ := vals1 r
  subst eu
  cases rx
  obtain ⟨its, rv, pt, _⟩ := I.tuple hT
  cases rv with
  | @cons _ u1 _ us1 r1 rv =>
  cases rv with
  | @cons _ u2 _ us2 r2 rv =>
  cases rv
  obtain ⟨t1, rfl⟩ := r1
  obtain ⟨t2, rfl⟩ := r2
  have hlt : a < s.heap.objs.size := by obtain ⟨o, ho, _⟩ := id pt; exact Heap.lt_size ho
  have tp : s.heap.IsTuple a ([Value.int i t1, Value.int j t2] : List Value).toArray := pt
  refine call_sum_walk (wpAny_pyIter_tuple tp ?_)
  refine ⟨s.heap.objs.size, _, _, _, _, _, fun n => if n = 0 then i else j, rfl, Walks.tuple (A := X.A.in1) (I.ok.hd hc) s.heap.objs.size a (Nat.ne_of_lt hlt) ([Value.int i t1, Value.int j t2] : List Value).toArray, ⟨⟨_, Heap.get?_push_size _ rfl, rfl, rfl⟩, tp.at fun o e => Heap.get?_push_of_some _ e⟩, fun b hb => ?_, fun n v hv => ?_, fun n hn => ?_, fun h' tk t' hk => ?_⟩
  · show b < (s.heap.push _).objs.size
    rw [Heap.size_push]
    rcases List.mem_cons.mp hb with e | hb
    · rw [e]; exact Nat.lt_succ_self _
    · rw [List.mem_singleton.mp hb]; exact Nat.lt_succ_of_lt hlt
  · rcases n with _ | _ | n
    · exact ⟨t1, (Option.some.inj hv).symm⟩
    · exact ⟨t2, (Option.some.inj hv).symm⟩
    · simp at hv
  · have hn2 : n < 2 := hn
    rcases n with _ | _ | n
    · simp only [InLong, preSum, if_pos rfl]; omega
    · simp only [InLong, preSum]; simp; omega
    · omega
  · have e : preSum (fun n => if n = 0 then i else j) 2 = i + j := by simp [preSum]
    refine ⟨.int (i + j), H, I.kept (t' := tk) (fun b o x => hk b o (fun hm => ?_) (Heap.get?_push_of_some _ x)), ⟨t', ?_⟩, q⟩
    · rw [List.mem_singleton.mp hm] at x
      exact absurd (Heap.lt_size x) (Nat.lt_irrefl _)
    · show Value.int (preSum (fun n => if n = 0 then i else j) 2) t' = _
      rw [e]
end
end L2.K4
end
section
/-! The sides of a face, found step by step. -/
namespace K34
def sm (p : Pl) : Nat := p.1 + p.2
theorem cand_sm {p q : Pl} (h : q ∈ cand p) : sm p < sm q := by
  unfold cand at h
  simp only [List.mem_cons, List.not_mem_nil, or_false] at h
  unfold sm
  rcases h with rfl | rfl | rfl <;> dsimp only <;> omega
theorem wst_cand {W : Web} {p q : Pl} (h : q ∈ W.wst p) : q ∈ cand p ∧ W.e p q = true := by
  unfold Web.wst at h
  exact List.mem_filter.mp h
theorem steps_get {α : Type} {w : List α} {i : Nat} {p q : α} (h1 : w[i]? = some p) (h2 : w[i + 1]? = some q) : (p, q) ∈ steps w := by
  refine List.mem_of_getElem? (i := i) ?_
  unfold steps
  rw [List.getElem?_zip_eq_some]
  exact ⟨h1, by rw [List.getElem?_tail]; exact h2⟩
theorem steps_inv {α : Type} {w : List α} {s : α × α} (h : s ∈ steps w) : ∃ i : Nat, w[i]? = some s.1 ∧ w[i + 1]? = some s.2 := by
  obtain ⟨i, hi⟩ := List.mem_iff_getElem?.mp h
  obtain ⟨p, q⟩ := s
  unfold steps at hi
  rw [List.getElem?_zip_eq_some] at hi
  exact ⟨i, hi.1, by rw [← List.getElem?_tail]; exact hi.2⟩
theorem inc_of {w : Wy} (h : ∀ p q, (p, q) ∈ steps w → sm p < sm q) : ∀ {i j : Nat} {p q : Pl}, i < j → w[i]? = some p → w[j]? = some q → sm p < sm q := by
  intro i j
  induction j with
  | zero => intro p q h1; omega
  | succ j ih =>
    intro p q h1 hp hq
    have hj : j < w.length := by have := (List.getElem?_eq_some_iff.mp hq).1; omega
    have hr : w[j]? = some w[j] := List.getElem?_eq_getElem hj
    have h2 := h _ _ (steps_get hr hq)
    rcases Nat.lt_or_ge i j with h3 | h3
    · exact Nat.lt_trans (ih h3 hp hr) h2
    · have e : i = j := by omega
      subst e
      rw [hr] at hp
      rw [← Option.some.inj hp]; exact h2
theorem inc_len {w : Wy} (h : ∀ p q, (p, q) ∈ steps w → sm p < sm q) {B : Nat} (hb : ∀ p ∈ w, sm p ≤ B) : w.length ≤ B + 1 := by
  have key : ∀ (i : Nat) (p : Pl), w[i]? = some p → i ≤ sm p := by
    intro i
    induction i with
    | zero => intro p _; exact Nat.zero_le _
    | succ i ih =>
      intro p hp
      have hi : i < w.length := by have := (List.getElem?_eq_some_iff.mp hp).1; omega
      have hr : w[i]? = some w[i] := List.getElem?_eq_getElem hi
      have := ih _ hr
      have := h _ _ (steps_get hr hp)
      omega
  rcases Nat.eq_zero_or_pos w.length with e | e
  · omega
  · have hr : w[w.length - 1]? = some w[w.length - 1] := List.getElem?_eq_getElem (by omega)
    have h1 := key _ _ hr
    have h2 := hb _ (List.getElem_mem (l := w) (n := w.length - 1) (by omega))
    omega
variable {W : Web} {b x y : Pl} {U L : Wy}
theorem TR.swapInc (T : TR W b x y U L) : (∀ p q, (p, q) ∈ steps U.tail → sm p < sm q) ∧ (∀ p q, (p, q) ∈ steps L.tail → sm p < sm q) :=
  ⟨fun p q h => cand_sm (wst_cand (List.mem_of_getLast? (T.su p q h).2)).1, fun p q h => cand_sm (wst_cand (List.mem_of_head? (T.sl p q h).2)).1⟩
theorem getLast_ix {w : Wy} {p : Pl} (h : w.getLast? = some p) : w[w.length - 1]? = some p := by rw [← List.getLast?_eq_getElem?]; exact h
/-- while the ends differ, the one that lies less far goes on -/
theorem side_next {U L : Wy} {i j : Nat} {u l : Pl} (en : U.getLast? = L.getLast?) (il : ∀ p q, (p, q) ∈ steps L.tail → sm p < sm q) (hi : 1 ≤ i) (hj : 1 ≤ j) (hu : U[i]? = some u) (hl : L[j]? = some l) (hne : u ≠ l) (hs : sm u ≤ sm l) : i + 1 < U.length := by
  have h1 : i < U.length := (List.getElem?_eq_some_iff.mp hu).1
  have h2 : j < L.length := (List.getElem?_eq_some_iff.mp hl).1
  rcases Nat.lt_or_ge (i + 1) U.length with h | h
  · exact h
  · exfalso
    have e : U.length - 1 = i := by omega
    have hul : U.getLast? = some u := by rw [List.getLast?_eq_getElem?, e]; exact hu
    rw [en] at hul
    have hL := getLast_ix hul
    rcases Nat.lt_or_ge (j + 1) L.length with h3 | h3
    · have := inc_of il (i := j - 1) (j := L.length - 1 - 1) (p := l) (q := u) (by omega) (by rw [List.getElem?_tail, show j - 1 + 1 = j by omega]; exact hl) (by rw [List.getElem?_tail, show L.length - 1 - 1 + 1 = L.length - 1 by omega]; exact hL)
      omega
    · have e2 : L.length - 1 = j := by omega
      rw [e2, hl] at hL
      exact hne (Option.some.inj hL).symm
theorem side_done {U L : Wy} {i j : Nat} {u : Pl} (iu : ∀ p q, (p, q) ∈ steps U.tail → sm p < sm q) (dj : ∀ p, p ∈ U.tail → p ∈ L.tail → U.getLast? = some p) (hi : 1 ≤ i) (hj : 1 ≤ j) (hu : U[i]? = some u) (hl : L[j]? = some u) : i + 1 = U.length := by
  have h1 : i < U.length := (List.getElem?_eq_some_iff.mp hu).1
  have m1 : u ∈ U.tail := List.mem_of_getElem? (i := i - 1) (by rw [List.getElem?_tail, show i - 1 + 1 = i by omega]; exact hu)
  have m2 : u ∈ L.tail := List.mem_of_getElem? (i := j - 1) (by rw [List.getElem?_tail, show j - 1 + 1 = j by omega]; exact hl)
  have e := getLast_ix (dj u m1 m2)
  rcases Nat.lt_or_ge (i + 1) U.length with h | h
  · exfalso
    have := inc_of iu (i := i - 1) (j := U.length - 1 - 1) (p := u) (q := u) (by omega) (by rw [List.getElem?_tail, show i - 1 + 1 = i by omega]; exact hu) (by rw [List.getElem?_tail, show U.length - 1 - 1 + 1 = U.length - 1 by omega]; exact e)
    omega
  · omega
theorem TR.v_all (T : TR W b x y U L) : (∀ i u, 1 ≤ i → i + 1 < U.length → U[i]? = some u → ∃ u', U[i + 1]? = some u' ∧ W.v u = true ∧ (W.wst u).getLast? = some u') ∧ (∀ i u, 1 ≤ i → i + 1 < L.length → L[i]? = some u → ∃ u', L[i + 1]? = some u' ∧ W.v u = true ∧ (W.wst u).head? = some u') := by
  constructor
  · intro i u h1 h2 hu
    refine ⟨U[i + 1], List.getElem?_eq_getElem h2, T.su u _ ?_⟩
    exact steps_get (i := i - 1) (by rw [List.getElem?_tail, show i - 1 + 1 = i by omega]; exact hu) (by rw [List.getElem?_tail, show i - 1 + 1 + 1 = i + 1 by omega]; exact List.getElem?_eq_getElem h2)
  · intro i u h1 h2 hu
    refine ⟨L[i + 1], List.getElem?_eq_getElem h2, T.sl u _ ?_⟩
    exact steps_get (i := i - 1) (by rw [List.getElem?_tail, show i - 1 + 1 = i by omega]; exact hu) (by rw [List.getElem?_tail, show i - 1 + 1 + 1 = i + 1 by omega]; exact List.getElem?_eq_getElem h2)
theorem TR.vU (T : TR W b x y U L) (hx : W.v x = true) : ∀ (i : Nat) (p : Pl), 1 ≤ i → U[i]? = some p → W.v p = true := by
  obtain ⟨t, hU⟩ := T.hu
  rintro (_ | _ | i) p h1 hi
  · omega
  · rw [hU] at hi; cases hi; exact hx
  · have hi' : i + 1 < U.length := by have := (List.getElem?_eq_some_iff.mp hi).1; omega
    obtain ⟨h1, h2⟩ := T.su _ _ (steps_get (i := i) (by rw [List.getElem?_tail]; exact List.getElem?_eq_getElem hi') (by rw [List.getElem?_tail]; exact hi))
    have hc := wst_cand (List.mem_of_getLast? h2)
    exact (W.ev hc.1 hc.2).2
theorem TR.vL (T : TR W b x y U L) (hy : W.v y = true) : ∀ (i : Nat) (p : Pl), 1 ≤ i → L[i]? = some p → W.v p = true := by
  obtain ⟨t, hL⟩ := T.hl
  rintro (_ | _ | i) p h1 hi
  · omega
  · rw [hL] at hi; cases hi; exact hy
  · have hi' : i + 1 < L.length := by have := (List.getElem?_eq_some_iff.mp hi).1; omega
    obtain ⟨h1, h2⟩ := T.sl _ _ (steps_get (i := i) (by rw [List.getElem?_tail]; exact List.getElem?_eq_getElem hi') (by rw [List.getElem?_tail]; exact hi))
    have hc := wst_cand (List.mem_of_head? h2)
    exact (W.ev hc.1 hc.2).2
/-- sides are short -/
theorem TR.short (T : TR W b x y U L) (hx : W.v x = true) (hy : W.v y = true) : U.length ≤ W.m + W.n + 2 ∧ L.length ≤ W.m + W.n + 2 := by
  have bd : ∀ p, W.v p = true → sm p ≤ W.m + W.n := fun p h => by have := W.vb h; unfold sm; omega
  obtain ⟨i1, i2⟩ := T.swapInc
  obtain ⟨t, hU⟩ := T.hu
  obtain ⟨s, hL⟩ := T.hl
  have a1 : U.tail.length ≤ W.m + W.n + 1 := inc_len i1 fun p hp => by
    obtain ⟨i, hi⟩ := List.mem_iff_getElem?.mp hp
    rcases i with _ | i
    · rw [hU] at hi; cases hi; exact bd x hx
    · have hi' : i < U.tail.length := by have := (List.getElem?_eq_some_iff.mp hi).1; omega
      obtain ⟨h1, h2⟩ := T.su _ _ (steps_get (List.getElem?_eq_getElem hi') hi)
      have hc := wst_cand (List.mem_of_getLast? h2)
      exact bd p (W.ev hc.1 hc.2).2
  have a2 : L.tail.length ≤ W.m + W.n + 1 := inc_len i2 fun p hp => by
    obtain ⟨i, hi⟩ := List.mem_iff_getElem?.mp hp
    rcases i with _ | i
    · rw [hL] at hi; cases hi; exact bd y hy
    · have hi' : i < L.tail.length := by have := (List.getElem?_eq_some_iff.mp hi).1; omega
      obtain ⟨h1, h2⟩ := T.sl _ _ (steps_get (List.getElem?_eq_getElem hi') hi)
      have hc := wst_cand (List.mem_of_head? h2)
      exact bd p (W.ev hc.1 hc.2).2
  rw [List.length_tail] at a1 a2
  omega
end K34
end
section
set_option Elab.async false
set_option linter.all false
set_option maxRecDepth 100000
set_option maxHeartbeats 4000000
/-! A face, traced. -/
namespace L2.K4
open PySem PySem.Spec PyProof.Rows L2
theorem numK_pl (p : Pl) : numK (plK p) = true := rfl
theorem numK_wy (w : Wy) : numK (wyK w) = true := numKs_all fun k hk => by obtain ⟨p, _, rfl⟩ := List.mem_map.mp hk; exact numK_pl p
theorem AtL.last {K : PySem.W.Frag} {H : Hp} {ks : List NK} {xs : List V} {k : NK} (h : AtL K H ks xs) (e : ks.getLast? = some k) : ∃ ys x, xs = ys ++ [x] ∧ At K H k x := by
  rw [List.getLast?_eq_getElem?] at e
  have hl := AtL.length h
  have h0 : ks.length - 1 < ks.length := (List.getElem?_eq_some_iff.mp e).1
  obtain ⟨x, h1, h2⟩ := AtL.getK h e
  refine ⟨xs.take (ks.length - 1), x, ?_, h2⟩
  have q := List.take_succ_eq_append_getElem (l := xs) (i := ks.length - 1) (by omega)
  rw [List.take_of_length_le (by omega)] at q
  rw [List.getElem?_eq_getElem (by omega)] at h1
  rw [← Option.some.inj h1]
  exact q
theorem AtL.head {K : PySem.W.Frag} {H : Hp} {ks : List NK} {xs : List V} {k : NK} (h : AtL K H ks xs) (e : ks.head? = some k) : ∃ x, xs[0]? = some x ∧ At K H k x := by
  rw [List.head?_eq_getElem?] at e
  exact AtL.getK h e
theorem take_last {α β : Type} {U : List α} {i : Nat} {u : α} (f : α → β) (h : U[i]? = some u) : ((U.take (i + 1)).map f).getLast? = some (f u) := by
  rw [List.take_add_one, h, List.map_append, Option.toList_some, List.map_singleton, List.getLast?_append, List.getLast?_singleton]; rfl
section
variable {P : Program} {w : World} {K : PySem.W.Frag} {mg : Str → Option Value} {base : Heap}
def spTraced (P : Program) (w : World) (K : PySem.W.Frag) : Sp := fun vs H Q _ => ∃ p dx fs wp v u W b x y U L, vs = [.ref p, v, u] ∧ H p = some (.ins (He.ga K "Faces") dx fs) ∧ fs.lookup ("faces_web" : Str) = some (V.ref wp) ∧ fs.lookup ("traced" : Str) = none ∧ WebA P w K H wp W ∧ W.m ≤ 4 ∧ W.n ≤ 4 ∧
  At K H (stK (b, x)) v ∧ At K H (stK (b, y)) u ∧ W.v x = true ∧ W.v y = true ∧ K34.TR W b x y U L ∧ ∀ H' r, Ex H H' → At K H' (fcK (U, L)) r → Q r H'
/-- a growing side -/
structure Sd (K : PySem.W.Frag) (H0 H : Hp) (l : Addr) (U : Wy) (i : Nat) : Prop where
  i1 : 1 ≤ i
  i2 : i < U.length
  new : H0 l = none
  at_ : ∃ xs, H l = some (.lst xs) ∧ AtL K H ((U.take (i + 1)).map plK) xs
theorem Sd.ex {H0 H H' : Hp} {l : Addr} {U : Wy} {i : Nat} (h : Sd K H0 H l U i) (e : Ex H H') : Sd K H0 H' l U i := ⟨h.i1, h.i2, h.new, let ⟨xs, a, b⟩ := h.at_; ⟨xs, e _ _ a, AtL.keep (Ex.tk e) _ _ b⟩⟩
theorem Sd.len {H0 H : Hp} {l : Addr} {U : Wy} {i : Nat} (h : Sd K H0 H l U i) : ∃ xs, H l = some (.lst xs) ∧ AtL K H ((U.take (i + 1)).map plK) xs ∧ xs.length = i + 1 := by
  obtain ⟨xs, a, b⟩ := h.at_
  refine ⟨xs, a, b, ?_⟩
  have := h.i2
  rw [AtL.length b, List.length_map, List.length_take]; omega
theorem Sd.other {H0 H : Hp} {l l' : Addr} {U : Wy} {i : Nat} {xs ys : List V} (h : Sd K H0 H l U i) (hne : l ≠ l') (hl : H l' = some (.lst xs)) : Sd K H0 (upd H l' (.lst ys)) l U i := by
  obtain ⟨zs, a, b⟩ := h.at_
  exact ⟨h.i1, h.i2, h.new, zs, by rw [upd_ne hne]; exact a, AtL.keep (TK.lst hl) _ _ b⟩
theorem Sd.push {H0 H : Hp} {l : Addr} {U : Wy} {i : Nat} {xs : List V} {x : V} {u : Pl} (h : Sd K H0 H l U i) (hl : H l = some (.lst xs)) (hu : U[i + 1]? = some u) (hx : At K H (plK u) x) : Sd K H0 (upd H l (.lst (xs ++ [x]))) l U (i + 1) := by
  obtain ⟨zs, a, b⟩ := h.at_
  rw [hl] at a
  cases a
  have tk := TK.lst (K := K) (o := .lst (xs ++ [x])) hl
  refine ⟨by omega, (List.getElem?_eq_some_iff.mp hu).1, h.new, _, upd_same, ?_⟩
  rw [List.take_add_one, hu, List.map_append]
  exact (AtL.keep tk _ _ b).append (AtL.one (At.keep tk _ _ hx))
theorem ok_traced (c : Cf K mg) : Kp P w K mg base 3 (He.ma K (He.ga K "Faces") "traced") (spTraced P w K) := by
  obtain ⟨fd, F⟩ := F_Faces_traced c
  have nd : (["self", "one", "other", "upper", "lower"] : List Str).Nodup := by decide +kernel
  refine kp_of F (N := ["self", "one", "other", "upper", "lower"]) (ps := ["self", "one", "other"]) ⟨rfl, rfl, rfl, nd, rfl, by decide +kernel, by decide +kernel⟩ (F.bindsN fun _ _ _ _ _ _ us hl => match us, hl with | [_, _, _], _ => rfl) (fun vs H Q E h => ?_) (fun cdv A outer s H vs Q E hr h => ?_)
  · obtain ⟨p, dx, fs, wp, v, u, W, b, x, y, U, L, rfl, _⟩ := h; rfl
  · obtain ⟨p, dx, fs, wp, v, u, W, b, x, y, U, L, rfl, hp, hf, hf2, hW, hm, hn, hv, hu, vx, vy, T, k⟩ := h
    have cl := (c.cls "Faces" (by decide +kernel)).1
    have na := c.noat ("Faces", "faces_web") (by decide +kernel)
    obtain ⟨tv, v0, v1, rfl, sv, av0, av1⟩ := at_st hv
    obtain ⟨tu, u0, u1, rfl, su, au0, au1⟩ := at_st hu
    refine ⟨_, pss_cons (ps_par (i := 3) (j := 4) rfl nd rfl rfl (by decide) rfl rfl (pa_cons (pe_callTy call_list_of (by rfl) (c.free "list" (by decide +kernel)) (by decide +kernel) (pa_cons (pv 1) pa_nil)) (pa_cons (pe_callTy call_list_of (by rfl) (c.free "list" (by decide +kernel)) (by decide +kernel) (pa_cons (pv 2) pa_nil)) pa_nil)) (by rfl))
      (pss_cons (ps_while PassesOwn.never (pt_cmpR (op_neA hr.units) (pe_ix ix_list (pv 3) (pe_un un_neg pe_int) (fun _ _ => rfl)) (pe_ix ix_list (pv 4) (pe_un un_neg pe_int) (fun _ _ => rfl)) (nomark _))
        (pss_one (ps_if (pt_cmpR op_le (pe_callB (cr_sumP rfl) (by rfl) (c.free "sum" (by decide +kernel)) (by decide +kernel) (pa_cons (pe_ix ix_list (pv 3) (pe_un un_neg pe_int) (fun _ _ => rfl)) pa_nil)) (pe_callB (cr_sumP rfl) (by rfl) (c.free "sum" (by decide +kernel)) (by decide +kernel) (pa_cons (pe_ix ix_list (pv 4) (pe_un un_neg pe_int) (fun _ _ => rfl)) pa_nil)) (nomark _))
          (pss_one (ps_expr (pe_bm PySem.F.plainAttrs_list PySem.F.slot_list_append PySem.F.type_list_append mt_append (pv 3) (pa_cons (pe_ix ix_tup (pe_ix ix_list (pe_met c (C := "Web") (ok_steps c) hr (pe_fld (pv 0) rfl) (pa_cons (pe_ix ix_list (pv 3) (pe_un un_neg pe_int) (fun _ _ => rfl)) pa_nil)) (pe_un un_neg pe_int) (fun _ _ => rfl)) pe_int (fun _ _ => rfl)) pa_nil))))
          (pss_one (ps_expr (pe_bm PySem.F.plainAttrs_list PySem.F.slot_list_append PySem.F.type_list_append mt_append (pv 4) (pa_cons (pe_ix ix_tup (pe_ix ix_list (pe_met c (C := "Web") (ok_steps c) hr (pe_fld (pv 0) rfl) (pa_cons (pe_ix ix_list (pv 4) (pe_un un_neg pe_int) (fun _ _ => rfl)) pa_nil)) pe_int (fun _ _ => rfl)) pe_int (fun _ _ => rfl)) pa_nil)))))))
      (pss_one (ps_ret (pe_tup (pa_cons (pe_callTy call_tuple_of (by rfl) (c.free "tuple" (by decide +kernel)) (by decide +kernel) (pa_cons (pv 3) pa_nil)) (pa_cons (pe_callTy call_tuple_of (by rfl) (c.free "tuple" (by decide +kernel)) (by decide +kernel) (pa_cons (pv 4) pa_nil)) pa_nil)))))), ?_⟩
    refine ⟨_, rfl, tv, _, rfl, .inr sv, fun lu hlu => ?_⟩
    have e1 := Ex.laid (o := .lst [v0, v1]) hlu
    refine ⟨_, rfl, tu, _, rfl, .inr (ext' e1 su), fun ll hll => ⟨_, _, rfl, ?_⟩⟩
    have e2 := e1.trans (Ex.laid (o := .lst [u0, u1]) hll)
    have nll : lu ≠ ll := fun e => by rw [← e, upd_same] at hll; cases hll
    have hlu2 : (upd (upd H lu (.lst [v0, v1])) ll (.lst [u0, u1])) lu = some (.lst [v0, v1]) := by rw [upd_ne nll, upd_same]
    generalize hH2 : upd (upd H lu (.lst [v0, v1])) ll (.lst [u0, u1]) = H2 at e2 hlu2
    have hll2 : H2 ll = some (.lst [u0, u1]) := by rw [← hH2]; exact upd_same
    have hll0 : H ll = none := e1.free hll
    obtain ⟨t1, hU⟩ := T.hu
    obtain ⟨s1, hL⟩ := T.hl
    obtain ⟨iu, il⟩ := T.swapInc
    obtain ⟨nu, nl⟩ := T.v_all
    obtain ⟨sU, sL⟩ := T.short vx vy
    have bd : ∀ q, W.v q = true → (-(2 ^ 62) ≤ (q.1 : Int) ∧ (q.1 : Int) < 2 ^ 62) ∧ (-(2 ^ 62) ≤ (q.2 : Int) ∧ (q.2 : Int) < 2 ^ 62) := fun q hq => by have := W.vb hq; omega
    refine ⟨fun m σ' H' => ∃ i j, m = U.length + L.length - i - j ∧ σ' = [some (.ref p), some (.ref tv), some (.ref tu), some (.ref lu), some (.ref ll)] ∧ Ex H H' ∧ Sd K H H' lu U i ∧ Sd K H H' ll L j, ⟨_, 1, 1, rfl, rfl, e2, ⟨Nat.le_refl _, by rw [hU]; simp, hlu, _, hlu2, ?_⟩, ⟨Nat.le_refl _, by rw [hL]; simp, hll0, _, hll2, ?_⟩⟩, ?_⟩
    · rw [hU]; exact AtL.two (At.keep (Ex.tk e2) _ _ av0) (At.keep (Ex.tk e2) _ _ av1)
    · rw [hL]; exact AtL.two (At.keep (Ex.tk e2) _ _ au0) (At.keep (Ex.tk e2) _ _ au1)
    rintro m σ' H' ⟨i, j, rfl, rfl, e, S1, S2⟩
    obtain ⟨xs, x1, x2, x3⟩ := S1.len
    obtain ⟨ys, y1, y2, y3⟩ := S2.len
    have hui : U[i]? = some (U[i]'S1.i2) := List.getElem?_eq_getElem S1.i2
    have hlj : L[j]? = some (L[j]'S2.i2) := List.getElem?_eq_getElem S2.i2
    generalize U[i]'S1.i2 = q at hui
    generalize L[j]'S2.i2 = r at hlj
    obtain ⟨xs', xl, ex, ax⟩ := AtL.last x2 (take_last plK hui)
    obtain ⟨ys', yl, ey, ay⟩ := AtL.last y2 (take_last plK hlj)
    have gx : atI xs (-1) = some xl := by rw [ex]; exact atI_last _ _
    have gy : atI ys (-1) = some yl := by rw [ey]; exact atI_last _ _
    have vq := T.vU vx i q S1.i1 hui
    have vr := T.vL vy j r S2.i1 hlj
    have l1 : SqL K H' lu xs := .inl (.inl x1)
    have l2 : SqL K H' ll ys := .inl (.inl y1)
    refine ⟨_, rfl, 1, rfl, lu, _, _, _, rfl, rfl, l1, gx, _, rfl, 1, rfl, ll, _, _, _, rfl, rfl, l2, gy, plK q, plK r, ax, ay, numK_pl q, numK_pl r, plK_depth q, plK_depth r, _, rfl, ?_⟩
    by_cases hqr : q = r
    · subst hqr
      rw [show (!decide (plK q = plK q)) = false by simp]
      refine iteF ⟨_, rfl, lu, _, rfl, .inl ⟨l1, fun a ha => ⟨_, rfl, ll, _, rfl, .inl ⟨exl (Ex.laid ha) l2, fun a2 ha2 => ⟨by show 2 ≤ sizeLine; decide, fun n hn => ?_⟩⟩⟩⟩⟩
      have d1 := Ex.laid (o := .tup xs) ha
      have d2 := d1.trans (Ex.laid (o := .tup ys) ha2)
      have d3 := d2.trans (Ex.laid (o := .tup [V.ref a, V.ref a2]) hn)
      have f1 : i + 1 = U.length := K34.side_done iu T.dj S1.i1 S2.i1 hui hlj
      have f2 : j + 1 = L.length := K34.side_done il (fun p h1 h2 => by rw [← T.en]; exact T.dj p h2 h1) S2.i1 S1.i1 hlj hui
      rw [f1, List.take_length] at x2
      rw [f2, List.take_length] at y2
      refine k _ _ (e.trans d3) (At.tup (.inl (.inl upd_same)) (AtL.two (At.tup (.inl (.inl ?_)) (AtL.keep (Ex.tk d3) _ _ x2)) (At.tup (.inl (.inl ?_)) (AtL.keep (Ex.tk d3) _ _ y2))))
      · exact (Ex.laid hn) _ _ ((Ex.laid ha2) _ _ upd_same)
      · exact (Ex.laid hn) _ _ upd_same
    · have hpk : ¬ plK q = plK r := fun h => hqr (plK_inj h)
      rw [show (!decide (plK q = plK r)) = true by simp [hpk]]
      obtain ⟨tq, rfl, sq⟩ := at_pl ax
      obtain ⟨tr, rfl, sr⟩ := at_pl ay
      refine iteT ⟨fun σ'' H'' => ∃ i' j', i + j < i' + j' ∧ σ'' = [some (.ref p), some (.ref tv), some (.ref tu), some (.ref lu), some (.ref ll)] ∧ Ex H H'' ∧ Sd K H H'' lu U i' ∧ Sd K H H'' ll L j', ?_, ?_⟩
      · rintro σ'' H'' ⟨i', j', a1, a2, a3, a4, a5⟩
        exact ⟨_, by have := a4.i2; have := a5.i2; omega, i', j', rfl, a2, a3, a4, a5⟩
      have hWe := hW.ex e
      obtain ⟨wdx, ol, nl', cp, d, kvs, g1, g2⟩ := id hWe
      refine ⟨_, rfl, 1, rfl, lu, _, _, _, rfl, rfl, l1, gx, tq, q.1, q.2, rfl, sq, (bd q vq).1, (bd q vq).2, _, rfl, 1, rfl, ll, _, _, _, rfl, rfl, l2, gy, tr, r.1, r.2, rfl, sr, (bd r vr).1, (bd r vr).2, _, _, rfl, rfl, _, rfl, ?_⟩
      by_cases hs : K34.sm q ≤ K34.sm r
      · rw [decide_eq_true (show (q.1 : Int) + q.2 ≤ r.1 + r.2 by unfold K34.sm at hs; omega)]
        obtain ⟨q', hq', _, hlast⟩ := nu i q S1.i1 (K34.side_next T.en il S1.i1 S2.i1 hui hlj hqr hs) hui
        refine iteT ⟨_, rfl, .inl ⟨rfl, _, l1⟩, _, rfl, p, _, dx, _, _, rfl, e _ _ hp, cl, na, hf, wp, wdx, _, rfl, g1, rfl, _, rfl, 1, rfl, lu, _, _, _, rfl, rfl, l1, gx, wp, _, W, q, rfl, hWe, ax, vq, fun H3 l3 zs e3 hl3 h3 a3 => ?_⟩
        obtain ⟨zs', zl, ez, az⟩ := AtL.last (k := stK (q, q')) a3 (by rw [List.getLast?_map, hlast]; rfl)
        obtain ⟨tz, z0, z1, rfl, sz, _, az1⟩ := at_st az
        refine ⟨1, rfl, l3, _, _, _, rfl, rfl, .inl (.inl h3), by rw [ez]; exact atI_last _ _, tz, _, _, _, rfl, rfl, sz, atI_nat (j := 1) rfl, lu, xs, z1, rfl, rfl, e3 _ _ x1, ?_, i + 1, j, by omega, rfl, Ex.mut (e.trans e3) S1.new, (S1.ex e3).push (e3 _ _ x1) hq' az1, (S2.ex e3).other nll.symm (e3 _ _ x1)⟩
        exact Nat.lt_of_le_of_lt (show xs.length ≤ 100 by have := S1.i2; omega) (by decide)
      · rw [decide_eq_false (show ¬ (q.1 : Int) + q.2 ≤ r.1 + r.2 by unfold K34.sm at hs; omega)]
        obtain ⟨q', hq', _, hlast⟩ := nl j r S2.i1 (K34.side_next T.en.symm iu S2.i1 S1.i1 hlj hui (Ne.symm hqr) (by omega)) hlj
        refine iteF ⟨_, rfl, .inl ⟨rfl, _, l2⟩, _, rfl, p, _, dx, _, _, rfl, e _ _ hp, cl, na, hf, wp, wdx, _, rfl, g1, rfl, _, rfl, 1, rfl, ll, _, _, _, rfl, rfl, l2, gy, wp, _, W, r, rfl, hWe, ay, vr, fun H3 l3 zs e3 hl3 h3 a3 => ?_⟩
        obtain ⟨zl, ez, az⟩ := AtL.head (k := stK (r, q')) a3 (by rw [List.head?_map, hlast]; rfl)
        obtain ⟨tz, z0, z1, rfl, sz, _, az1⟩ := at_st az
        refine ⟨l3, _, _, _, rfl, rfl, .inl (.inl h3), atI_nat (j := 0) ez, tz, _, _, _, rfl, rfl, sz, atI_nat (j := 1) rfl, ll, ys, z1, rfl, rfl, e3 _ _ y1, ?_, i, j + 1, by omega, rfl, Ex.mut (e.trans e3) S2.new, (S1.ex e3).other nll (e3 _ _ y1), (S2.ex e3).push (e3 _ _ y1) hq' az1⟩
        exact Nat.lt_of_le_of_lt (show ys.length ≤ 100 by have := S2.i2; omega) (by decide)
end
end L2.K4
end
section
set_option Elab.async false
set_option linter.all false
set_option maxRecDepth 100000
set_option maxHeartbeats 4000000
/-! Dict comprehensions with nested keys; set comprehensions of ints. -/
namespace L2.K4
open PySem PySem.Spec PyProof.Rows L2
section
variable {X : Cx}
/-- {k: v for target in iter if ..}, keys nested data: D the new dict -/
def tDcN (P : Program) (w : World) (K : PySem.W.Frag) (wi : TI) (g : TG) (tt : TT) (tk tv : TE) (vs : List Nat) : TE := fun σ H Q => wi σ H fun J H1 => ∀ D, H1 D = none → (D == sysModules) = false → ∃ W : Nat → Nat → Hp → Prop, (∃ m, W 0 m (upd H1 D (NdO P w D []))) ∧ ∀ i m H, W i m H →
  (J.stop i H ∧ Q (.ref D) H) ∨ (J.go i H ∧ ∃ Nx : Hp → Prop, (∀ H', Nx H' → ∃ m', m' < m ∧ W (i + 1) m' H') ∧ ∀ x H', J.yld i H x H' → g x (wipe σ vs) H' fun σ2 H2 => wipe σ2 vs = wipe σ vs ∧ tt σ2 H2 fun b H3 =>
    if b = true then tk σ2 H3 fun y H4 => tv σ2 H4 fun z H5 => ∃ kvs k, At K H5 k y ∧ (∃ ks, k = .tup ks) ∧ k.depth ≤ 8 ∧ ND P w K H5 D kvs ∧ kvs.length < sizeLine ∧ ∀ H6, (∀ b, b ≠ D → H6 b = H5 b) → TK K H5 H6 → ND P w K H6 D (putK kvs k z) → Nx H6 else Nx H3)
theorem dcN_core {pins : List (Addr × Obj)} {s : Shared} {σ : St} {H : Hp} {Q : VK} {kxx vxx tgt ite : Expr} {ifz : List Expr} {sco : Scope} {ow : List (Str × Nat)} {pos pz : Pos} {wi : TI} {g : TG} {tt : TT} {tk tv : TE} {use : Option (Value → Sem Unit)} {Qf : Value → Shared → Prop}
    (hu9 : X.A.units + 9 < cLine) (hC : X.calm = true) (hNd : X.N.Nodup) (I : Inv X pins σ H s) (hI : PI X tgt ite wi) (okb : BlkOk X.N X.env.scope sco ow)
    (hG : ∀ (s : Shared) (H : Hp) (C : Addr) (cl : List (Str × Addr)) (fq : List Addr), PG (X.blk s H sco (compEnvC sco cl C X.env) fq) tgt g) (hT : ∀ (s : Shared) (H : Hp) (C : Addr) (cl : List (Str × Addr)) (fq : List Addr), PTs (X.blk s H sco (compEnvC sco cl C X.env) fq) ifz tt)
    (hK : ∀ (s : Shared) (H : Hp) (C : Addr) (cl : List (Str × Addr)) (fq : List Addr), PE (X.blk s H sco (compEnvC sco cl C X.env) fq) kxx tk)
    (hE : ∀ (s : Shared) (H : Hp) (C : Addr) (cl : List (Str × Addr)) (fq : List Addr), PE (X.blk s H sco (compEnvC sco cl C X.env) fq) vxx tv) (hS : ∀ x, foldedSetIterable ite X.env x = pure x)
    (h : tDcN X.prog X.w X.K wi g tt tk tv (ow.map (·.2)) σ H Q)
    (hRR : ∀ D C s' m H', Inv X pins σ H' s' → Q (.ref D) H' → s'.heap.Ns C m → FpOk X pins H' C → compPost (model X.prog X.w) X.A X.xe use Qf (.ref D) C (.ok .next) s') :
    wpAny (model X.prog X.w) X.A (comprehension (.DictComp kxx vxx [⟨tgt, ite, ifz, 0⟩] sco pos) sco X.env pz newDict false (eval ite X.env) use) Qf X.xe s := by
  have hfr : ∀ y ∈ sco.names, y.2 = .free → ∃ c, X.env.cells.lookup y.1 = some c := fun y hy e => by
    rcases okb.free y hy e with k | k
    · exact I.ok.has _ (.inl k)
    · exact I.ok.has _ (.inr k)
  refine wpAny_comprehension_free (use := use) rfl hS (closure_ok hfr) okb.kind (fun y hy e => by rw [okb.uniq y hy, e])
    (thn (hI.run pins s σ H _ I h) fun xv s1 hx => thn hx fun itv s2 h2 => ?_)
  obtain ⟨it, fq, tq, J, G2, e, J2, T, sq2, g2, q⟩ := h2
  subst e
  refine wpAny_newObj_type (newEnv_comp ?_)
  generalize hD : s2.heap.objs.size = D
  have gDn : G2 D = none := J2.hok.fresh (Nat.le_of_eq hD)
  obtain ⟨W, ⟨m0, w0⟩, trn⟩ := q D gDn (by rw [← hD]; exact big_ne J2.big)
  -- the new list
  generalize gs3 : ({ s2 with heap := s2.heap.push { cls := .type "dict", data := .dict #[] } } : Shared) = y3
  have J3 : Inv X pins σ (upd G2 D (NdO X.prog X.w D [])) y3 := by
    rw [← gs3]
    refine J2.laid (t' := s2.toks) (fun b o e => Heap.get?_push_of_some _ e) (Nat.le_of_eq hD) ?_
    rw [← hD]
    exact raw_ok (raw_new s2.heap)
  have h3 : y3.heap = s2.heap.push { cls := .type "dict", data := .dict #[] } := by rw [← gs3]
  have gsz : ∀ b ∈ fq, b < s2.heap.objs.size := fun b hb => by
    obtain ⟨o, e, _⟩ := T.obj _ _ sq2 b hb
    exact Heap.lt_size e
  have g3 : ∀ b ∈ fq, FpOk X pins (upd G2 D (NdO X.prog X.w D [])) b ∧ b < y3.heap.objs.size := fun b hb => by
    have glt := gsz b hb
    refine ⟨⟨?_, (g2 b hb).2⟩, by rw [h3, Heap.size_push]; exact Nat.lt_succ_of_lt glt⟩
    rw [upd_ne (by rw [← hD]; exact Nat.ne_of_lt glt)]
    exact (g2 b hb).1
  have sq3 : tq 0 y3.heap := T.keep _ _ _ sq2 fun b _ o e => by rw [h3]; exact Heap.get?_push_of_some _ e
  have J4 := block_start J3 okb hNd g3
  have pG0 := hG y3 (upd G2 D (NdO X.prog X.w D [])) y3.heap.objs.size (cellsFrom (y3.heap.objs.size + 1) sco.names (cloFrom X.env.cells sco.names [])) fq
  have pT0 := hT y3 (upd G2 D (NdO X.prog X.w D [])) y3.heap.objs.size (cellsFrom (y3.heap.objs.size + 1) sco.names (cloFrom X.env.cells sco.names [])) fq
  have pK0 := hK y3 (upd G2 D (NdO X.prog X.w D [])) y3.heap.objs.size (cellsFrom (y3.heap.objs.size + 1) sco.names (cloFrom X.env.cells sco.names [])) fq
  have pE0 := hE y3 (upd G2 D (NdO X.prog X.w D [])) y3.heap.objs.size (cellsFrom (y3.heap.objs.size + 1) sco.names (cloFrom X.env.cells sco.names [])) fq
  show codeAny _ _ (.compStart (.DictComp kxx vxx [⟨tgt, ite, ifz, 0⟩] sco pos) 0 (.ref it) (.ref D) (compEnvC sco (cellsFrom (y3.heap.objs.size + 1) sco.names (cloFrom X.env.cells sco.names [])) y3.heap.objs.size X.env)) (compPost (model X.prog X.w) X.A X.xe use Qf (.ref D) y3.heap.objs.size) { y3 with heap := pushCells (y3.heap.push { cls := .type "dict", data := .dict #[] }) sco.names }
  have nfq : ∀ b ∈ fq, (upd G2 D (NdO X.prog X.w D [])) b = none := fun b hb => (g3 b hb).1.1
  generalize gce : compEnvC sco (cellsFrom (y3.heap.objs.size + 1) sco.names (cloFrom X.env.cells sco.names [])) y3.heap.objs.size X.env = cE at J4 pG0 pT0 pK0 pE0 ⊢
  have gL : cE.locals = y3.heap.objs.size := by subst gce; rfl
  generalize gH3 : upd G2 D (NdO X.prog X.w D []) = G3 at J3 J4 pG0 pT0 pK0 pE0 w0 nfq g3
  generalize gs4 : ({ y3 with heap := pushCells (y3.heap.push { cls := .type "dict", data := .dict #[] }) sco.names } : Shared) = y4 at J4 ⊢
  have sq4 : tq 0 y4.heap := T.keep _ _ _ sq3 fun b _ o e => by rw [← gs4]; exact pushCells_keeps _ _ _ _ (Heap.get?_push_of_some _ e)
  have stt : ∀ {σ' : St} {H' : Hp} {s' : Shared}, Inv (X.blk y3 G3 sco cE fq) [] σ' H' s' → (∀ b ∈ fq, H' b = none) → ∀ b ∈ fq, FpOk (X.blk y3 G3 sco cE fq) [] H' b := fun {σ' H' s'} I' hn b hb =>
    ⟨hn b hb, (I'.ok.exf b hb).1, I'.ok.exfs b hb, .inl hb, fun x c e => (I'.ok.exf b hb).2 x c e, fun p hp => absurd (show p ∈ ([] : List (Addr × Obj)) ++ [] from hp) (by simp)⟩
  have loop : codeAny (model X.prog X.w) X.A (.compLoop (.DictComp kxx vxx [⟨tgt, ite, ifz, 0⟩] sco pos) 0 (.ref it) (.ref D) cE) (compPost (model X.prog X.w) X.A X.xe use Qf (.ref D) y3.heap.objs.size) y4 := by
    refine compLoop_anyD (fun n s' => ∃ i H', Inv (X.blk y3 G3 sco cE fq) [] (wipe σ (ow.map (·.2))) H' s' ∧ tq i s'.heap ∧ (∀ b ∈ fq, H' b = none) ∧ W i n H') ?_ m0 ⟨0, G3, J4, sq4, nfq, w0⟩
    rintro n y5 ⟨i, G5, J5, sq5, n5, w5⟩
    rcases trn i n G5 w5 with ⟨stop, qq⟩ | ⟨go, Nx, hNx, step⟩
    · have tD0 := T.done (X.blk y3 G3 sco cE fq) rfl rfl rfl hC i [] y5 _ G5 (fun _ _ => False) J5 (stt J5 n5) sq5 stop
      refine thnF tD0 fun r y6 ⟨hr, J6⟩ => ?_
      subst hr
      -- back in the def's context
      have J7 : Inv X pins σ G5 y6 := J3.call' (ch := fq) J6.os J6.base J6.hok J6.bare fun b hb => ⟨(g3 b hb).1.2.2.2.1, (g3 b hb).1.2.1, (g3 b hb).1.2.2.2.2.1, (g3 b hb).1.2.2.2.2.2⟩
      have nC : G5 y3.heap.objs.size = none := by
        have z : G5 cE.locals = none := J6.free
        rw [gL] at z
        exact z
      obtain ⟨m, hn, _⟩ := J6.loc
      have hn : y6.heap.Ns cE.locals m := hn
      rw [gL] at hn
      exact hRR D y3.heap.objs.size y6 m G5 J7 qq hn (J3.fpOk (Nat.le_refl _) nC)
    · have tI0 := T.item (X.blk y3 G3 sco cE fq) rfl rfl rfl hC i [] y5 _ G5 (fun _ _ => False) J5 (stt J5 n5) sq5 go
      refine thnF tI0 fun r y6 ⟨u, hr, h6⟩ => ?_
      subst hr
      refine thnF h6 fun _ y7 ⟨x, G7, J7, r7, x7h, sq7, n7⟩ => ?_
      have J7p := J7.pinned (stt J7 n7) (T.obj _ _ sq7)
      refine thnF (pG0.run _ y7 _ G7 x u _ J7p r7 (step x G7 x7h)) fun _ y8 ⟨σ8, G8, J8, hw8, q8⟩ => ?_
      refine thnF (pT0.run _ y8 σ8 G8 _ J8 q8) fun b y9 ⟨G9, J9, q9⟩ => ?_
      -- the turn's end
      have fn0 : ∀ {s' : Shared} {H' : Hp}, Inv (X.blk y3 G3 sco cE fq) ([] ++ pinsAt fq y7.heap) σ8 H' s' → Nx H' → ∃ m, m < n ∧ ∃ i H', Inv (X.blk y3 G3 sco cE fq) [] (wipe σ (ow.map (·.2))) H' s' ∧ tq i s'.heap ∧ (∀ b ∈ fq, H' b = none) ∧ W i m H' := fun {s' H'} I' nx => by
        obtain ⟨m', gm, w'⟩ := hNx H' nx
        have pin0 : ∀ b ∈ fq, ∀ o, y7.heap.get? b = some o → s'.heap.get? b = some o ∧ H' b = none := fun b hb o e =>
          let z := I'.pin (b, o) (List.mem_append_right _ (List.mem_append_right _ (mem_pinsAt hb e)))
          ⟨z.1, z.2.1⟩
        have gl : (wipe σ (ow.map (·.2))).length = σ8.length := by rw [← hw8, wipe_length]
        refine ⟨m', gm, i + 1, H', (I'.unpinned (pins := [])).weak gl (fun j v e => ?_), T.keep _ _ _ sq7 fun b hb o e => (pin0 b hb o e).1, fun b hb => ?_, w'⟩
        · rw [← hw8] at e
          exact (wipe_some e).1
        · obtain ⟨o, e, _⟩ := T.obj _ _ sq7 b hb
          exact (pin0 b hb o e).2
      cases b with
      | false =>
        simp only [Bool.false_eq_true, if_false] at q9 ⊢
        exact fn0 J9 q9
      | true =>
        simp only [if_true] at q9 ⊢
        refine thnF (pK0.run _ y9 σ8 G9 _ J9 q9) fun z y10 ⟨yk, G10, J10, r10, q10⟩ => ?_
        refine thnF (pE0.run _ y10 σ8 G10 _ J10 q10) fun z2 y11 ⟨yv, G11, J11, r11, kvs, k, ak, ⟨ks, ek⟩, dk, hD11, hz11, nx⟩ => ?_
        subst ek
        obtain ⟨bk, xs', ey, _, _⟩ := ak.tup_inv
        subst ey
        cases r10
        refine putN_ok (X := X.blk y3 G3 sco cE fq) J11 hD11 ak dk hz11 r11 (fun xs dd hkey hsz0 fin0 => ?_) fun H12 y12 J12 b1 b2 b3 => fn0 J12 (nx H12 b1 b2 b3)
        exact wpAny_dictSet_heap (hsz := hsz0) (show X.A.units + 8 < cLine by omega) hkey dd fun h' hm' hs' => fin0 h' hm' hs' _
  exact codeAny_compStart_dict loop (T.self X.A 0 _ _ _ sq4 loop)
theorem pe_dcN {kxx vxx tgt ite : Expr} {ifz : List Expr} {sco : Scope} {ow : List (Str × Nat)} {pos : Pos} {wi : TI} {g : TG} {tt : TT} {tk tv : TE} (hu9 : X.A.units + 9 < cLine) (hC : X.calm = true) (hNd : X.N.Nodup) (hI : PI X tgt ite wi) (okb : BlkOk X.N X.env.scope sco ow)
    (hG : ∀ (s : Shared) (H : Hp) (C : Addr) (cl : List (Str × Addr)) (fq : List Addr), PG (X.blk s H sco (compEnvC sco cl C X.env) fq) tgt g) (hT : ∀ (s : Shared) (H : Hp) (C : Addr) (cl : List (Str × Addr)) (fq : List Addr), PTs (X.blk s H sco (compEnvC sco cl C X.env) fq) ifz tt)
    (hK : ∀ (s : Shared) (H : Hp) (C : Addr) (cl : List (Str × Addr)) (fq : List Addr), PE (X.blk s H sco (compEnvC sco cl C X.env) fq) kxx tk)
    (hE : ∀ (s : Shared) (H : Hp) (C : Addr) (cl : List (Str × Addr)) (fq : List Addr), PE (X.blk s H sco (compEnvC sco cl C X.env) fq) vxx tv) (hS : ∀ x, foldedSetIterable ite X.env x = pure x := by intro _; rfl) :
    PE X (.DictComp kxx vxx [⟨tgt, ite, ifz, 0⟩] sco pos) (tDcN X.prog X.w X.K wi g tt tk tv (ow.map (·.2))) := by
  refine ⟨fun pins s σ H Q I h => ?_⟩
  rw [arm_eval_DictComp]
  refine dcN_core hu9 hC hNd I hI okb hG hT hK hE hS h fun D C s' m H' I' q hn f => ⟨m, hn, fun h'' sb => ?_⟩
  obtain ⟨f0, f1, g2, g3, f4, f5⟩ := f
  exact ⟨.ref D, H', I'.turned (t' := s'.toks) (fun b o hb e => (sb.2 b hb).trans e) f0 f1 g3 f4 f5, rfl, q⟩
end
section
open PpSet
variable {X : Cx}
/-- {elt for target in iter if ..}, elt an int: D the new set -/
def tScI (w : World) (wi : TI) (g : TG) (tt : TT) (te : TE) (vs : List Nat) : TE := fun σ H Q => wi σ H fun J H1 => ∀ D, H1 D = none → ∃ W : Nat → Nat → Hp → Prop, (∃ m, W 0 m (upd H1 D (SetO w D (fun _ => false) 0))) ∧ ∀ i m H, W i m H →
  (J.stop i H ∧ Q (.ref D) H) ∨ (J.go i H ∧ ∃ Nx : Hp → Prop, (∀ H', Nx H' → ∃ m', m' < m ∧ W (i + 1) m' H') ∧ ∀ x H', J.yld i H x H' → g x (wipe σ vs) H' fun σ2 H2 => wipe σ2 vs = wipe σ vs ∧ tt σ2 H2 fun b H3 =>
    if b = true then te σ2 H3 fun y H4 => ∃ (c : Int) (S : Int → Bool) (n : Nat), y = .int c ∧ H4 D = some (SetO w D S n) ∧ n + 1 < scanBound ∧ Nx (upd H4 D (SetO w D (fun j => S j || decide (j = c)) (if S c = true then n else n + 1))) else Nx H3)
theorem addI_ok {pins : List (Addr × Obj)} {σ : L2.St} {H : Hp} {s : Shared} {E : Value → Shared → Prop} {D : Addr} {S : Int → Bool} {n : Nat} {y : Int} {t : Tok} {Q : Value → Shared → Prop} (I : Inv X pins σ H s) (hD : H D = some (SetO X.w D S n)) (room : n + 1 < scanBound)
    (h : ∀ s', Inv X pins σ (upd H D (SetO X.w D (fun j => S j || decide (j = y)) (if S y = true then n else n + 1))) s' → Q .none s') : wpAny (model X.prog X.w) X.A (call (.builtin "set.add") [.ref D, .int y t]) Q E s := by
  have R := setO_get I hD
  refine setR_add R room fun h' sb new => h _ (I.write (e := D) (t' := s.toks + 1) (by rw [hD]; trivial) (.inl rfl) (fun b u hb hu => (sb.2 b hb).trans hu) ?_ (setO_new new))
  obtain ⟨o, _, _, _, ho, _⟩ := new; exact ⟨o, ho⟩
theorem newSetR (w : World) {h : Heap} : SetR w (h.push { cls := .type "set", dict := none, data := .set #[] 0 (.fresh 0 0 (!w.params.followText "set-order")) }) h.objs.size (fun _ => false) 0 := by
  exact setR_fresh w
theorem scI_core {pins : List (Addr × Obj)} {s : Shared} {σ : L2.St} {H : Hp} {Q : VK} {el0 tgt ite : Expr} {ifz : List Expr} {sco : Scope} {ow : List (PySem.Str × Nat)} {pos pz : Pos} {wi : TI} {g : TG} {tt : TT} {te : TE} {use : Option (Value → Sem Unit)} {Qf : Value → Shared → Prop}
    (hC : X.calm = true) (hNd : X.N.Nodup) (I : Inv X pins σ H s) (hI : PI X tgt ite wi) (okb : BlkOk X.N X.env.scope sco ow)
    (hG : ∀ (s : Shared) (H : Hp) (C : Addr) (cl : List (PySem.Str × Addr)) (fq : List Addr), PG (X.blk s H sco (compEnvC sco cl C X.env) fq) tgt g) (hT : ∀ (s : Shared) (H : Hp) (C : Addr) (cl : List (PySem.Str × Addr)) (fq : List Addr), PTs (X.blk s H sco (compEnvC sco cl C X.env) fq) ifz tt)
    (hE : ∀ (s : Shared) (H : Hp) (C : Addr) (cl : List (PySem.Str × Addr)) (fq : List Addr), PE (X.blk s H sco (compEnvC sco cl C X.env) fq) el0 te) (hS : ∀ x, foldedSetIterable ite X.env x = pure x)
    (h : tScI X.w wi g tt te (ow.map (·.2)) σ H Q)
    (hRR : ∀ D C s' m H', Inv X pins σ H' s' → Q (.ref D) H' → s'.heap.Ns C m → FpOk X pins H' C → compPost (model X.prog X.w) X.A X.xe use Qf (.ref D) C (.ok .next) s') :
    wpAny (model X.prog X.w) X.A (comprehension (.SetComp el0 [⟨tgt, ite, ifz, 0⟩] sco pos) sco X.env pz (newSet (.type "set")) false (eval ite X.env) use) Qf X.xe s := by
  have hfr : ∀ y ∈ sco.names, y.2 = .free → ∃ c, X.env.cells.lookup y.1 = some c := fun y hy e => by
    rcases okb.free y hy e with k | k
    · exact I.ok.has _ (.inl k)
    · exact I.ok.has _ (.inr k)
  refine wpAny_comprehension_free (use := use) rfl hS (closure_ok hfr) okb.kind (fun y hy e => by rw [okb.uniq y hy, e])
    (thn (hI.run pins s σ H _ I h) fun xv s1 hx => thn hx fun itv s2 h2 => ?_)
  obtain ⟨it, fq, tq, J, G2, e, J2, T, sq2, g2, q⟩ := h2
  subst e
  refine newSet_ok (newEnv_comp ?_)
  generalize hD : s2.heap.objs.size = D
  have gDn : G2 D = none := J2.hok.fresh (Nat.le_of_eq hD)
  obtain ⟨W, ⟨m0, w0⟩, trn⟩ := q D gDn
  -- the new list
  generalize gs3 : ({ s2 with heap := s2.heap.push { cls := .type "set", dict := none, data := .set #[] 0 (.fresh 0 0 (!X.w.params.followText "set-order")) } } : Shared) = y3
  have J3 : Inv X pins σ (upd G2 D (SetO X.w D (fun _ => false) 0)) y3 := by
    rw [← gs3]
    refine J2.laid (t' := s2.toks) (fun b o e => Heap.get?_push_of_some _ e) (Nat.le_of_eq hD) ?_
    rw [← hD]
    exact setO_new (newSetR X.w)
  have h3 : y3.heap = s2.heap.push { cls := .type "set", dict := none, data := .set #[] 0 (.fresh 0 0 (!X.w.params.followText "set-order")) } := by rw [← gs3]
  have gsz : ∀ b ∈ fq, b < s2.heap.objs.size := fun b hb => by
    obtain ⟨o, e, _⟩ := T.obj _ _ sq2 b hb
    exact Heap.lt_size e
  have g3 : ∀ b ∈ fq, FpOk X pins (upd G2 D (SetO X.w D (fun _ => false) 0)) b ∧ b < y3.heap.objs.size := fun b hb => by
    have glt := gsz b hb
    refine ⟨⟨?_, (g2 b hb).2⟩, by rw [h3, Heap.size_push]; exact Nat.lt_succ_of_lt glt⟩
    rw [upd_ne (by rw [← hD]; exact Nat.ne_of_lt glt)]
    exact (g2 b hb).1
  have sq3 : tq 0 y3.heap := T.keep _ _ _ sq2 fun b _ o e => by rw [h3]; exact Heap.get?_push_of_some _ e
  have J4 := block_start J3 okb hNd g3
  have pG0 := hG y3 (upd G2 D (SetO X.w D (fun _ => false) 0)) y3.heap.objs.size (cellsFrom (y3.heap.objs.size + 1) sco.names (cloFrom X.env.cells sco.names [])) fq
  have pT0 := hT y3 (upd G2 D (SetO X.w D (fun _ => false) 0)) y3.heap.objs.size (cellsFrom (y3.heap.objs.size + 1) sco.names (cloFrom X.env.cells sco.names [])) fq
  have pE0 := hE y3 (upd G2 D (SetO X.w D (fun _ => false) 0)) y3.heap.objs.size (cellsFrom (y3.heap.objs.size + 1) sco.names (cloFrom X.env.cells sco.names [])) fq
  show codeAny _ _ (.compStart (.SetComp el0 [⟨tgt, ite, ifz, 0⟩] sco pos) 0 (.ref it) (.ref D) (compEnvC sco (cellsFrom (y3.heap.objs.size + 1) sco.names (cloFrom X.env.cells sco.names [])) y3.heap.objs.size X.env)) (compPost (model X.prog X.w) X.A X.xe use Qf (.ref D) y3.heap.objs.size) { y3 with heap := pushCells (y3.heap.push { cls := .type "dict", data := .dict #[] }) sco.names }
  have nfq : ∀ b ∈ fq, (upd G2 D (SetO X.w D (fun _ => false) 0)) b = none := fun b hb => (g3 b hb).1.1
  generalize gce : compEnvC sco (cellsFrom (y3.heap.objs.size + 1) sco.names (cloFrom X.env.cells sco.names [])) y3.heap.objs.size X.env = cE at J4 pG0 pT0 pE0 ⊢
  have gL : cE.locals = y3.heap.objs.size := by subst gce; rfl
  generalize gH3 : upd G2 D (SetO X.w D (fun _ => false) 0) = G3 at J3 J4 pG0 pT0 pE0 w0 nfq g3
  generalize gs4 : ({ y3 with heap := pushCells (y3.heap.push { cls := .type "dict", data := .dict #[] }) sco.names } : Shared) = y4 at J4 ⊢
  have sq4 : tq 0 y4.heap := T.keep _ _ _ sq3 fun b _ o e => by rw [← gs4]; exact pushCells_keeps _ _ _ _ (Heap.get?_push_of_some _ e)
  have stt : ∀ {σ' : L2.St} {H' : Hp} {s' : Shared}, Inv (X.blk y3 G3 sco cE fq) [] σ' H' s' → (∀ b ∈ fq, H' b = none) → ∀ b ∈ fq, FpOk (X.blk y3 G3 sco cE fq) [] H' b := fun {σ' H' s'} I' hn b hb =>
    ⟨hn b hb, (I'.ok.exf b hb).1, I'.ok.exfs b hb, .inl hb, fun x c e => (I'.ok.exf b hb).2 x c e, fun p hp => absurd (show p ∈ ([] : List (Addr × Obj)) ++ [] from hp) (by simp)⟩
  have loop : codeAny (model X.prog X.w) X.A (.compLoop (.SetComp el0 [⟨tgt, ite, ifz, 0⟩] sco pos) 0 (.ref it) (.ref D) cE) (compPost (model X.prog X.w) X.A X.xe use Qf (.ref D) y3.heap.objs.size) y4 := by
    refine compLoopS_any (fun n s' => ∃ i H', Inv (X.blk y3 G3 sco cE fq) [] (wipe σ (ow.map (·.2))) H' s' ∧ tq i s'.heap ∧ (∀ b ∈ fq, H' b = none) ∧ W i n H') ?_ m0 ⟨0, G3, J4, sq4, nfq, w0⟩
    rintro n y5 ⟨i, G5, J5, sq5, n5, w5⟩
    rcases trn i n G5 w5 with ⟨stop, qq⟩ | ⟨go, Nx, hNx, step⟩
    · have tD0 := T.done (X.blk y3 G3 sco cE fq) rfl rfl rfl hC i [] y5 _ G5 (fun _ _ => False) J5 (stt J5 n5) sq5 stop
      refine thnF tD0 fun r y6 ⟨hr, J6⟩ => ?_
      subst hr
      -- back in the def's context
      have J7 : Inv X pins σ G5 y6 := J3.call' (ch := fq) J6.os J6.base J6.hok J6.bare fun b hb => ⟨(g3 b hb).1.2.2.2.1, (g3 b hb).1.2.1, (g3 b hb).1.2.2.2.2.1, (g3 b hb).1.2.2.2.2.2⟩
      have nC : G5 y3.heap.objs.size = none := by
        have z : G5 cE.locals = none := J6.free
        rw [gL] at z
        exact z
      obtain ⟨m, hn, _⟩ := J6.loc
      have hn : y6.heap.Ns cE.locals m := hn
      rw [gL] at hn
      exact hRR D y3.heap.objs.size y6 m G5 J7 qq hn (J3.fpOk (Nat.le_refl _) nC)
    · have tI0 := T.item (X.blk y3 G3 sco cE fq) rfl rfl rfl hC i [] y5 _ G5 (fun _ _ => False) J5 (stt J5 n5) sq5 go
      refine thnF tI0 fun r y6 ⟨u, hr, h6⟩ => ?_
      subst hr
      refine thnF h6 fun _ y7 ⟨x, G7, J7, r7, x7h, sq7, n7⟩ => ?_
      have J7p := J7.pinned (stt J7 n7) (T.obj _ _ sq7)
      refine thnF (pG0.run _ y7 _ G7 x u _ J7p r7 (step x G7 x7h)) fun _ y8 ⟨σ8, G8, J8, hw8, q8⟩ => ?_
      refine thnF (pT0.run _ y8 σ8 G8 _ J8 q8) fun b y9 ⟨G9, J9, q9⟩ => ?_
      -- the turn's end
      have fn0 : ∀ {s' : Shared} {H' : Hp}, Inv (X.blk y3 G3 sco cE fq) ([] ++ pinsAt fq y7.heap) σ8 H' s' → Nx H' → ∃ m, m < n ∧ ∃ i H', Inv (X.blk y3 G3 sco cE fq) [] (wipe σ (ow.map (·.2))) H' s' ∧ tq i s'.heap ∧ (∀ b ∈ fq, H' b = none) ∧ W i m H' := fun {s' H'} I' nx => by
        obtain ⟨m', gm, w'⟩ := hNx H' nx
        have pin0 : ∀ b ∈ fq, ∀ o, y7.heap.get? b = some o → s'.heap.get? b = some o ∧ H' b = none := fun b hb o e =>
          let z := I'.pin (b, o) (List.mem_append_right _ (List.mem_append_right _ (mem_pinsAt hb e)))
          ⟨z.1, z.2.1⟩
        have gl : (wipe σ (ow.map (·.2))).length = σ8.length := by rw [← hw8, wipe_length]
        refine ⟨m', gm, i + 1, H', (I'.unpinned (pins := [])).weak gl (fun j v e => ?_), T.keep _ _ _ sq7 fun b hb o e => (pin0 b hb o e).1, fun b hb => ?_, w'⟩
        · rw [← hw8] at e
          exact (wipe_some e).1
        · obtain ⟨o, e, _⟩ := T.obj _ _ sq7 b hb
          exact (pin0 b hb o e).2
      cases b with
      | false =>
        simp only [Bool.false_eq_true, if_false] at q9 ⊢
        exact fn0 J9 q9
      | true =>
        simp only [if_true] at q9 ⊢
        refine thnF (pE0.run _ y9 σ8 G9 _ J9 q9) fun z y10 ⟨yv, G10, J10, r10, cb, S0, n0, ey, hD10, hz10, nx⟩ => ?_
        subst ey
        obtain ⟨tz, rfl⟩ := r10
        exact addI_ok (X := X.blk y3 G3 sco cE fq) J10 hD10 hz10 fun y11 J11 => fn0 J11 nx
  exact codeAny_compStart_set loop (T.self X.A 0 _ _ _ sq4 loop)
theorem pe_scI {el0 tgt ite : Expr} {ifz : List Expr} {sco : Scope} {ow : List (PySem.Str × Nat)} {pos : Pos} {wi : TI} {g : TG} {tt : TT} {te : TE} (hC : X.calm = true) (hNd : X.N.Nodup) (hI : PI X tgt ite wi) (okb : BlkOk X.N X.env.scope sco ow)
    (hG : ∀ (s : Shared) (H : Hp) (C : Addr) (cl : List (PySem.Str × Addr)) (fq : List Addr), PG (X.blk s H sco (compEnvC sco cl C X.env) fq) tgt g) (hT : ∀ (s : Shared) (H : Hp) (C : Addr) (cl : List (PySem.Str × Addr)) (fq : List Addr), PTs (X.blk s H sco (compEnvC sco cl C X.env) fq) ifz tt)
    (hE : ∀ (s : Shared) (H : Hp) (C : Addr) (cl : List (PySem.Str × Addr)) (fq : List Addr), PE (X.blk s H sco (compEnvC sco cl C X.env) fq) el0 te) (hS : ∀ x, foldedSetIterable ite X.env x = pure x := by intro _; rfl) :
    PE X (.SetComp el0 [⟨tgt, ite, ifz, 0⟩] sco pos) (tScI X.w wi g tt te (ow.map (·.2))) := by
  refine ⟨fun pins s σ H Q I h => ?_⟩
  rw [eval_SetComp]
  refine scI_core hC hNd I hI okb hG hT hE hS h fun D C s' m H' I' q hn f => ⟨m, hn, fun h'' sb => ?_⟩
  obtain ⟨f0, f1, g2, g3, f4, f5⟩ := f
  exact ⟨.ref D, H', I'.turned (t' := s'.toks) (fun b o hb e => (sb.2 b hb).trans e) f0 f1 g3 f4 f5, rfl, q⟩
end
end L2.K4
end
section
set_option Elab.async false
set_option linter.all false
set_option maxRecDepth 100000
set_option maxHeartbeats 4000000
/-! d.update(e), keys nested data. -/
namespace L2.K4
open PySem PySem.Spec PyProof.Rows L2
def updK (kvs more : List (NK × V)) : List (NK × V) := more.foldl (fun acc p => putK acc p.1 p.2) kvs
theorem updK_len : ∀ (more kvs : List (NK × V)), (updK kvs more).length ≤ kvs.length + more.length
  | [], kvs => Nat.le_refl _
  | p :: more, kvs => by
    have h1 := updK_len more (putK kvs p.1 p.2)
    have h2 := length_putK kvs p.1 p.2
    show (updK (putK kvs p.1 p.2) more).length ≤ _
    rw [List.length_cons]; omega
theorem rowsUpd {K : PySem.W.Frag} {H : Hp} : ∀ {more : List (NK × V)} {ys : XsT} {kvs : List (NK × V)} {xs : XsT}, Paired (RowOk K H) kvs xs → Paired (RowOk K H) more ys → Paired (RowOk K H) (updK kvs more) (storedAllH xs ys) := by
  intro more ys kvs xs r h
  induction h generalizing kvs xs with
  | nil => exact r
  | @cons p q ps qs h t ih =>
    obtain ⟨h1, h2, h3, h4⟩ := h
    refine ih (kvs := putK kvs p.1 p.2) (xs := storedH xs q.1 q.2.1 q.2.2) ?_
    rw [← h1]
    exact rowsPut r p.1 h2 h3 h4
section
variable {X : Cx} {pins : List (Addr × Obj)} {σ : St} {H : Hp} {s : Shared}
theorem keys_tuples {knd : NK → Prop} {ys : XsT} {more : List (NK × V)} (I : Inv X pins σ H s) (h : Paired (RowOk X.K H) more ys) : ∀ x ∈ ys, s.TypeIs (.ref x.2.1) "tuple" := by
  induction h with
  | nil => intro x hx; exact nomatch hx
  | @cons p q ps qs hq t ih =>
    intro x hx
    rcases List.mem_cons.mp hx with e | hx
    · subst e
      obtain ⟨z1, z2, z3, _⟩ := hq
      have n := At.nested I z2 (show RelV (.ref x.2.1) (.ref x.2.1) from rfl)
      generalize p.1 = k0 at n
      cases n with
      | tup h1 h2 h3 h4 => exact ⟨_, h1, h2⟩
    · exact ih x hx
theorem paired_keys {K : PySem.W.Frag} {more : List (NK × V)} {ys : XsT} (h : Paired (RowOk K H) more ys) : more.map (·.1) = ys.map (·.1) := by
  induction h with
  | nil => rfl
  | cons h t ih => rw [List.map_cons, List.map_cons, ih, h.1]
end
section
variable {X : Cx} {o e : Expr} {to te : TE} {apos cpos : Pos}
/-- d.update(e) -/
def tUpdN (P : Program) (w : World) (K : PySem.W.Frag) (to te : TE) : TE := fun σ H Q => to σ H fun x H1 => ∃ d kvs0, x = .ref d ∧ ND P w K H1 d kvs0 ∧ te σ H1 fun y H2 => ∃ d2 kvs more, y = .ref d2 ∧ d ≠ d2 ∧ ND P w K H2 d kvs ∧ ND P w K H2 d2 more ∧
  (kvs ≠ [] ∨ (more.map fun p => NestedKey.hash w p.1).Nodup) ∧ kvs.length + more.length ≤ sizeLine ∧ ∀ H', (∀ b, b ≠ d → H' b = H2 b) → TK K H2 H' → ND P w K H' d (updK kvs more) → Q .non H'
theorem pe_updN (hu : X.A.units + 9 < cLine) (ho : PE X o to) (he : PE X e te) (m : M1 X o "update" apos e cpos) : PE X (.Call (.Attribute o "update" apos) [e] [] cpos) (tUpdN X.prog X.w X.K to te) := by
  refine ⟨fun pins s σ H Q I h => ?_⟩
  refine wpAny_Call_method m.base m.few m.line PySem.F.plainAttrs_dict PySem.F.slot_dict_update PySem.F.type_dict_update (thn (ho.run pins s σ H _ I h) fun u s1 ⟨x, H1, I1, rx, d, kvs0, ex, nd0, q1⟩ => ?_)
  subst ex
  obtain rfl : u = Value.ref d := rx
  obtain ⟨xs0, _, _, _, _, dd0⟩ := nd0.dictOf I1
  obtain ⟨ob, es0, ep0, g1, g2, g3, g4, g5⟩ := dd0
  refine ⟨⟨ob, g1, g2.1⟩, fun a ha => by cases ha; exact ⟨ob, g1, g2.2.1⟩, ?_⟩
  rw [m.trees]
  refine Calls.callWith_builtin rfl (Calls.evalArgs_plain (Calls.spliced_cons (thn (he.run pins s1 σ H1 _ I1 q1) fun iv s2 ⟨y, H2, I2, ry, d2, kvs, more, ey, hne, n1, n2, hap, hl, q2⟩ => Calls.spliced_nil ?_)))
  subst ey
  cases ry
  obtain ⟨xs, h1, h2, h3, h4, h5⟩ := n1.dictOf I2
  obtain ⟨ys, k1, k2, k3, k4, k5⟩ := n2.dictOf I2
  have lx : kvs.length = xs.length := Paired.length h2
  have ly : more.length = ys.length := Paired.length k2
  refine call_update_dictH (knd := nestedKind X.prog X.w) (room8 (X := X) hu) hne k4 h5 k5 (hap.imp (fun h e => h (List.length_eq_zero_iff.mp (by rw [lx, e]; rfl))) fun h => ⟨keys_tuples (knd := fun _ => True) I2 k2, ?_⟩) (by omega) fun h' dd dd2 sb => ?_
  · have e : (ys.map fun x => NestedKey.hash X.w x.1) = more.map fun p => NestedKey.hash X.w p.1 := by
      have := congrArg (List.map (NestedKey.hash X.w)) (paired_keys k2)
      rw [List.map_map, List.map_map] at this
      exact this.symm
    show (ys.map fun x => NestedKey.hash X.w x.1).Nodup
    rw [e]; exact h
  · obtain ⟨o1, es, ep, p1, p2, p3, p4, p5, p6⟩ := dd
    have tkk : TK X.K H2 (upd H2 d (NdO X.prog X.w d (storedAllH xs ys))) := TK.ext h1
    refine ⟨.non, upd H2 d (NdO X.prog X.w d (storedAllH xs ys)), d_write (t' := s2.toks) I2 (by rw [h1]; exact True.intro) sb ⟨o1, p1⟩ (raw_ok ⟨o1, es, ep, p1, p2, p3, p4, p6⟩), rfl, q2 _ (fun b hb => upd_ne hb) tkk ?_⟩
    refine ⟨_, upd_same, Paired.mapP (rowsUpd h2 k2) fun p q z => ⟨z.1, At.keep tkk _ _ z.2.1, z.2.2⟩, ?_, h4⟩
    have := updK_len more kvs
    omega
end
end L2.K4
end
section
set_option Elab.async false
set_option linter.all false
set_option maxRecDepth 100000
set_option maxHeartbeats 4000000
/-! Comprehensions over what stands: dicts of nested keys, sets of ints. -/
namespace L2.K4
open PySem PySem.Spec PyProof.Rows L2
theorem mem_putK {kvs : List (NK × V)} {k : NK} {v : V} {p : NK × V} (h : p ∈ putK kvs k v) : p = (k, v) ∨ p ∈ kvs := by
  unfold putK at h
  split at h
  · obtain ⟨q, hq, e⟩ := List.mem_map.mp h
    by_cases c : q.1 = k
    · rw [if_pos c] at e; subst e; left; rw [c]
    · rw [if_neg c] at e; subst e; exact .inr hq
  · rcases List.mem_append.mp h with h | h
    · exact .inr h
    · exact .inl (List.mem_singleton.mp h)
theorem mem_updK {p : NK × V} : ∀ {more kvs : List (NK × V)}, p ∈ updK kvs more → p ∈ more ∨ p ∈ kvs
  | [], _, h => .inr h
  | q :: more, kvs, h => by
    rcases mem_updK (more := more) (kvs := putK kvs q.1 q.2) h with h | h
    · exact .inl (List.mem_cons_of_mem _ h)
    · rcases mem_putK h with h | h
      · rw [h]; exact .inl (List.mem_cons_self ..)
      · exact .inr h
theorem valV_mem {kvs : List (NK × V)} {k : NK} {v : V} (h : valV kvs k = some v) : (k, v) ∈ kvs := by
  induction kvs with
  | nil => cases h
  | cons p ps ih =>
    by_cases e : p.1 = k
    · rw [valV_pos e] at h
      rw [← Option.some.inj h, ← e]
      exact List.mem_cons_self ..
    · rw [valV_neg e] at h
      exact List.mem_cons_of_mem _ (ih h)
theorem mem_valV {kvs : List (NK × V)} {k : NK} (h : k ∈ kvs.map (·.1)) : ∃ v, valV kvs k = some v := by
  induction kvs with
  | nil => simp at h
  | cons p ps ih =>
    by_cases e : p.1 = k
    · exact ⟨p.2, valV_pos e⟩
    · rw [valV_neg e]
      rw [List.map_cons, List.mem_cons] at h
      exact ih (h.resolve_left fun q => e q.symm)
theorem putK_keys {kvs : List (NK × V)} {k : NK} {v : V} : (putK kvs k v).map (·.1) = if k ∈ kvs.map (·.1) then kvs.map (·.1) else kvs.map (·.1) ++ [k] := by
  classical
  by_cases h : k ∈ kvs.map (·.1)
  · rw [if_pos h]
    unfold putK
    rw [if_pos]
    · rw [List.map_map]
      refine List.map_congr_left fun p _ => ?_
      show (if p.1 = k then (p.1, v) else p).1 = p.1
      split <;> rfl
    · obtain ⟨p, hp, e⟩ := List.mem_map.mp h
      exact List.any_eq_true.mpr ⟨p, hp, decide_eq_true e⟩
  · have hv : valV kvs k = none := by
      cases e : valV kvs k with
      | none => rfl
      | some y => exact absurd (List.mem_map.mpr ⟨_, valV_mem e, rfl⟩) h
    rw [if_neg h, L2.putK_new v hv, List.map_append]; rfl
theorem putK_nodup {kvs : List (NK × V)} {k : NK} {v : V} (h : (kvs.map (·.1)).Nodup) : ((putK kvs k v).map (·.1)).Nodup := by
  classical
  rw [putK_keys]
  split
  · exact h
  · rename_i hn
    rw [List.nodup_append]
    exact ⟨h, by simp, fun a ha b hb e => hn (by rw [← List.mem_singleton.mp hb, ← e]; exact ha)⟩
theorem updK_nodup : ∀ {more kvs : List (NK × V)}, (kvs.map (·.1)).Nodup → ((updK kvs more).map (·.1)).Nodup
  | [], _, h => h
  | p :: more, kvs, h => updK_nodup (more := more) (putK_nodup h)
theorem updK_snoc (kvs more : List (NK × V)) (p : NK × V) : updK kvs (more ++ [p]) = putK (updK kvs more) p.1 p.2 := by
  unfold updK; rw [List.foldl_append]; rfl
theorem updK_has {k : NK} : ∀ {more kvs : List (NK × V)}, k ∈ kvs.map (·.1) ∨ k ∈ more.map (·.1) → k ∈ (updK kvs more).map (·.1)
  | [], kvs, h => h.elim id fun h => by simp at h
  | p :: more, kvs, h => by
    classical
    refine updK_has (more := more) (kvs := putK kvs p.1 p.2) ?_
    rw [putK_keys]
    rcases h with h | h
    · left; split
      · exact h
      · exact List.mem_append_left _ h
    · rw [List.map_cons, List.mem_cons] at h
      rcases h with h | h
      · left
        rw [h]
        split
        · assumption
        · exact List.mem_append_right _ (List.mem_singleton.mpr rfl)
      · exact .inr h
def tturnD (g : TG) (tt : TT) (tk tv : TE) (vs : List Nat) (σ : L2.St) (x : V) (H : Hp) (Q : Option (V × V) → Hp → Prop) : Prop :=
  g x (wipe σ vs) H fun σ2 H2 => wipe σ2 vs = wipe σ vs ∧ tt σ2 H2 fun b H3 => if b = true then tk σ2 H3 fun y H4 => tv σ2 H4 fun z H5 => Q (some (y, z)) H5 else Q none H3
def OptD (K : PySem.W.Frag) (H : Hp) : Option (NK × V) → Option (V × V) → Prop
  | none, none => True
  | some (k, v), some (y, z) => At K H k y ∧ z = v
  | _, _ => False
theorem dcG {P : Program} {w : World} {K : PySem.W.Frag} {J : It} {n : Nat} {Y : Nat → V → Hp → Prop} {g : TG} {tt : TT} {tk tv : TE} {vs : List Nat} {σ : L2.St} {H : Hp} {D : Addr} {Qd : Hp → Prop} (hD : H D = none) (hs : (D == sysModules) = false) (ks : Nat → Option (NK × V))
    (hk : ∀ i k v, ks i = some (k, v) → (∃ l, k = .tup l) ∧ k.depth ≤ 8) (hn : n < sizeLine) (hw : ∀ H', Ex H H' → SW J n Y H')
    (step : ∀ i x H1, i < n → Ex H H1 → Y i x H1 → ∀ Q2 : Option (V × V) → Hp → Prop, (∀ o H2, Ex H1 H2 → OptD K H2 (ks i) o → Q2 o H2) → tturnD g tt tk tv vs σ x H1 Q2)
    (fin : ∀ H2, Ex H H2 → ND P w K H2 D (updK [] (made ks n)) → Qd H2) :
    ∃ W : Nat → Nat → Hp → Prop, (∃ m, W 0 m (upd H D (NdO P w D []))) ∧ ∀ i m H, W i m H →
      (J.stop i H ∧ Qd H) ∨ (J.go i H ∧ ∃ Nx : Hp → Prop, (∀ H', Nx H' → ∃ m', m' < m ∧ W (i + 1) m' H') ∧ ∀ x H', J.yld i H x H' → g x (wipe σ vs) H' fun σ2 H2 => wipe σ2 vs = wipe σ vs ∧ tt σ2 H2 fun b H3 =>
        if b = true then tk σ2 H3 fun y H4 => tv σ2 H4 fun z H5 => ∃ kvs k, At K H5 k y ∧ (∃ ks, k = .tup ks) ∧ k.depth ≤ 8 ∧ ND P w K H5 D kvs ∧ kvs.length < sizeLine ∧ ∀ H6, (∀ b, b ≠ D → H6 b = H5 b) → TK K H5 H6 → ND P w K H6 D (putK kvs k z) → Nx H6 else Nx H3) := by
  let W : Nat → Nat → Hp → Prop := fun i m H' => m = n - i ∧ i ≤ n ∧ Ex H H' ∧ ND P w K H' D (updK [] (made ks i))
  refine ⟨W, ⟨n, by simp, Nat.zero_le _, Ex.laid hD, nd_new hs⟩, ?_⟩
  rintro i m H' ⟨rfl, hi, e, nd⟩
  have s := hw H' e i
  rcases Nat.lt_or_ge i n with h | h
  · refine .inr ⟨(s.1 h).1, fun H'' => W (i + 1) (n - (i + 1)) H'', fun H'' q => ⟨_, by omega, q⟩, fun x H1 hy1 => ?_⟩
    obtain ⟨e1, y1⟩ := (s.1 h).2 x H1 hy1
    have nd1 := nd.ex e1
    have hlen : (updK [] (made ks i)).length < sizeLine := by
      have h1 := updK_len (made ks i) []
      have h2 := made_len ks i
      rw [List.length_nil, Nat.zero_add] at h1
      omega
    have key := step i x H1 h (e.trans e1) y1 (fun o H2 => match o with
      | none => W (i + 1) (n - (i + 1)) H2
      | some (y, z) => ∃ kvs k, At K H2 k y ∧ (∃ ks, k = .tup ks) ∧ k.depth ≤ 8 ∧ ND P w K H2 D kvs ∧ kvs.length < sizeLine ∧ ∀ H6, (∀ b, b ≠ D → H6 b = H2 b) → TK K H2 H6 → ND P w K H6 D (putK kvs k z) → W (i + 1) (n - (i + 1)) H6) fun o H2 e2 ho => by
        have ex2 : Ex H H2 := (e.trans e1).trans e2
        cases hki : ks i with
        | none =>
          rw [hki] at ho
          cases o with
          | some y => exact ho.elim
          | none => exact ⟨rfl, h, ex2, by rw [made_succ, hki]; simpa using nd1.ex e2⟩
        | some kv =>
          obtain ⟨k, v⟩ := kv
          rw [hki] at ho
          cases o with
          | none => exact ho.elim
          | some yz =>
            obtain ⟨y, z⟩ := yz
            obtain ⟨ha, rfl⟩ := ho
            obtain ⟨a1, a2⟩ := hk i k z hki
            refine ⟨_, k, ha, a1, a2, nd1.ex e2, hlen, fun H6 b1 b2 b3 => ⟨rfl, h, fun a o ha => by rw [b1 a (ne_of_none ha hD)]; exact ex2 a o ha, ?_⟩⟩
            rw [made_succ, hki]
            show ND P w K H6 D (updK [] (made ks i ++ [(k, z)]))
            rw [updK_snoc]; exact b3
    exact key
  · have hi' : i = n := Nat.le_antisymm hi h
    subst hi'
    exact .inl ⟨s.2 (Nat.le_refl _), fin H' e nd⟩
def OptI (H : Hp) : Option Int → Option V → Prop
  | none, none => True
  | some k, some y => y = .int k
  | _, _ => False
theorem scG {w : World} {J : It} {n : Nat} {Y : Nat → V → Hp → Prop} {g : TG} {tt : TT} {te : TE} {vs : List Nat} {σ : L2.St} {H : Hp} {D : Addr} {Qd : Hp → Prop} (hD : H D = none) (ks : Nat → Option Int) (hn : n + 1 < scanBound) (hw : ∀ H', Ex H H' → SW J n Y H')
    (step : ∀ i x H1, i < n → Ex H H1 → Y i x H1 → ∀ Q2 : Option V → Hp → Prop, (∀ o H2, Ex H1 H2 → OptI H2 (ks i) o → Q2 o H2) → tturn g tt te vs σ x H1 Q2)
    (fin : ∀ H2 S m, Ex H H2 → H2 D = some (SetO w D S m) → (∀ k, S k = true ↔ k ∈ made ks n) → m ≤ n → Qd H2) :
    ∃ W : Nat → Nat → Hp → Prop, (∃ m, W 0 m (upd H D (SetO w D (fun _ => false) 0))) ∧ ∀ i m H, W i m H →
      (J.stop i H ∧ Qd H) ∨ (J.go i H ∧ ∃ Nx : Hp → Prop, (∀ H', Nx H' → ∃ m', m' < m ∧ W (i + 1) m' H') ∧ ∀ x H', J.yld i H x H' → g x (wipe σ vs) H' fun σ2 H2 => wipe σ2 vs = wipe σ vs ∧ tt σ2 H2 fun b H3 =>
        if b = true then te σ2 H3 fun y H4 => ∃ (c : Int) (S : Int → Bool) (n : Nat), y = .int c ∧ H4 D = some (SetO w D S n) ∧ n + 1 < scanBound ∧ Nx (upd H4 D (SetO w D (fun j => S j || decide (j = c)) (if S c = true then n else n + 1))) else Nx H3) := by
  let W : Nat → Nat → Hp → Prop := fun i m H' => m = n - i ∧ i ≤ n ∧ Ex H H' ∧ ∃ S c, H' D = some (SetO w D S c) ∧ (∀ k, S k = true ↔ k ∈ made ks i) ∧ c ≤ i
  refine ⟨W, ⟨n, by simp, Nat.zero_le _, Ex.laid hD, _, 0, upd_same, fun k => by simp [made], Nat.le_refl _⟩, ?_⟩
  rintro i m H' ⟨rfl, hi, e, S, c, g1, g2, g3⟩
  have s := hw H' e i
  rcases Nat.lt_or_ge i n with h | h
  · refine .inr ⟨(s.1 h).1, fun H'' => W (i + 1) (n - (i + 1)) H'', fun H'' q => ⟨_, by omega, q⟩, fun x H1 hy1 => ?_⟩
    obtain ⟨e1, y1⟩ := (s.1 h).2 x H1 hy1
    have key := step i x H1 h (e.trans e1) y1 (fun o H2 => match o with
      | none => W (i + 1) (n - (i + 1)) H2
      | some y => ∃ (c : Int) (S : Int → Bool) (m : Nat), y = .int c ∧ H2 D = some (SetO w D S m) ∧ m + 1 < scanBound ∧ W (i + 1) (n - (i + 1)) (upd H2 D (SetO w D (fun j => S j || decide (j = c)) (if S c = true then m else m + 1)))) fun o H2 e2 ho => by
        have ex2 : Ex H H2 := (e.trans e1).trans e2
        have g1' := (e1.trans e2) _ _ g1
        cases hki : ks i with
        | none =>
          rw [hki] at ho
          cases o with
          | some y => exact ho.elim
          | none => exact ⟨rfl, h, ex2, S, c, g1', fun k => by rw [made_succ, hki]; simpa using g2 k, by omega⟩
        | some k =>
          rw [hki] at ho
          cases o with
          | none => exact ho.elim
          | some y =>
            obtain rfl : y = .int k := ho
            refine ⟨k, S, c, rfl, g1', by omega, rfl, h, Ex.mut ex2 hD, _, _, upd_same, fun j => ?_, by split <;> omega⟩
            rw [made_succ, hki, Bool.or_eq_true, decide_eq_true_iff, g2 j]
            simp
    exact key
  · have hi' : i = n := Nat.le_antisymm hi h
    subst hi'
    exact .inl ⟨s.2 (Nat.le_refl _), fin H' S c e g1 g2 g3⟩
end L2.K4
end
section
set_option Elab.async false
set_option linter.all false
set_option maxRecDepth 100000
set_option maxHeartbeats 4000000
/-! The steps' hashes differ. -/
namespace L2.K4
open PySem PySem.Spec PyProof.Rows L2
def gridL : List (Pl × Pl) := (List.range 5).flatMap fun i => (List.range 5).flatMap fun j => (K34.cand (i, j)).map fun q => ((i, j), q)
def hsL : List Int := [7761091237015276730, -3142333726784028344, -5594001892929700633, -3946460631932601386, -6656892016142386837, 6233271232714878384, -7693731428414707480, -2668409986091098717, -8914714348841922501, 8814669607464961986, -2088755356334343088, -4540423522480015377, -2892882261482916130, 1442715642942155244, 6597126065266026251, -7137671770968260059, -2112350328644651296, 1809842951196930789, -2271388539190126816, -8776456120005063762, -1059626643558330182, 4038841288374451515, 8374439192799522889, 2732605516419610370, -6084093400518574803, 1459225709391671739, 2863421321646616045, 28405294563692258, -7080383472630461321, -5676187860375517015, 68504947693362291, 4404102852118433665, 8430465876460107981, -1676182637741352628, -8181250218556289574, -4154887194214615258, -3941931046117396966, 1083390396206211797, 4420029882649348724, 279263491057638755, -6225804089757298191, -7287521986298529392, 5902364198401860034, -1206424568792293545, 2130214917650843382, 4713894479648867449, 9049492384073938823, 3407658707694026304, 9088185306010774573, -3729516138995951647, 3987313337450781933, -3888554349541427167, 447043554883644207, -5194790121496268312, -5633241934976142086, -8343673319185927537, 666600881538560065, -4104354146747034929, 3438964963163211613, 4843160575418155919, 881233331886035528, -1829198052323749923, 5972884275650609781, -7460644717653786262, -6229959471935328994, -1075549049611457987, 5449369991694079277, 2738938607484293826, -3507365755266529958, 1934811702335720784, -4570255878479216162, 7026462646100295037, 8245041529900299115, 1136252762706145536, -5110051600044678248]
theorem hs_eq (w : World) : (gridL.map fun s => NestedKey.hash w (stK s)) = hsL := by kernel_rfl
theorem hs_nodup : hsL.Nodup := by decide +kernel
theorem mem_grid {p q : Pl} (h1 : p.1 ≤ 4) (h2 : p.2 ≤ 4) (h : q ∈ K34.cand p) : (p, q) ∈ gridL := by
  unfold gridL
  rw [List.mem_flatMap]
  refine ⟨p.1, List.mem_range.mpr (by omega), ?_⟩
  rw [List.mem_flatMap]
  exact ⟨p.2, List.mem_range.mpr (by omega), List.mem_map.mpr ⟨q, h, rfl⟩⟩
theorem hs_inj {w : World} {s t : Pl × Pl} (hs : s ∈ gridL) (ht : t ∈ gridL) (h : NestedKey.hash w (stK s) = NestedKey.hash w (stK t)) : s = t := by
  have nd : (gridL.map fun s => NestedKey.hash w (stK s)).Nodup := by rw [hs_eq]; exact hs_nodup
  obtain ⟨i, hi⟩ := List.mem_iff_getElem?.mp hs
  obtain ⟨j, hj⟩ := List.mem_iff_getElem?.mp ht
  have li := (List.getElem?_eq_some_iff.mp hi).1
  have lj := (List.getElem?_eq_some_iff.mp hj).1
  have e : i = j := by
    have q := (List.getElem_inj (i := i) (j := j) (h₀ := by rw [List.length_map]; exact li) (h₁ := by rw [List.length_map]; exact lj) nd).mp (by
      rw [List.getElem_map, List.getElem_map]
      have e1 := (List.getElem?_eq_some_iff.mp hi).2
      have e2 := (List.getElem?_eq_some_iff.mp hj).2
      rw [e1, e2]; exact h)
    exact q
  subst e
  rw [hi] at hj
  exact Option.some.inj hj
theorem hs_keys {w : World} {ks : List (Pl × Pl)} (hn : ks.Nodup) (hg : ∀ s ∈ ks, s ∈ gridL) : (ks.map fun s => NestedKey.hash w (stK s)).Nodup := by
  unfold List.Nodup
  rw [List.pairwise_map]
  exact List.Pairwise.imp_of_mem (fun {a b} ha hb hab e => hab (hs_inj (hg a ha) (hg b hb) e)) hn
end L2.K4
end
section
set_option Elab.async false
set_option linter.all false
set_option maxRecDepth 100000
set_option maxHeartbeats 4000000
/-! Steps numbered by sides. -/
namespace L2.K4
open PySem PySem.Spec PyProof.Rows L2
/-- a side of a face, as the walk takes it -/
def SideOk (a : Wy) : Prop := a.length ≤ 12 ∧ ∀ s ∈ K34.steps a, s ∈ gridL
/-- at d stand steps of the sides ss, each with its side's number -/
def NumsAt (P : Program) (w : World) (K : PySem.W.Frag) (H : Hp) (d : Addr) (ss : List Wy) : Prop := ∃ kvs, ND P w K H d kvs ∧ ∀ p ∈ kvs, ∃ s n a, p = (stK s, .int (n : Nat)) ∧ ss[n]? = some a ∧ s ∈ K34.steps a
theorem NumsAt.ex {P : Program} {w : World} {K : PySem.W.Frag} {H H' : Hp} {d : Addr} {ss : List Wy} (h : NumsAt P w K H d ss) (e : Ex H H') : NumsAt P w K H' d ss := let ⟨kvs, a, b⟩ := h; ⟨kvs, a.ex e, b⟩
theorem steps_len {α : Type} (a : List α) : (K34.steps a).length ≤ a.length := by unfold K34.steps; rw [List.length_zip]; exact Nat.min_le_left _ _
theorem stepMade (a : Wy) (v : V) (n : Nat) (hn : n = (K34.steps a).length) : made (fun j => ((K34.steps a)[j]?).map fun s => (stK s, v)) n = (K34.steps a).map fun s => (stK s, v) := by
  have := made_all ((K34.steps a).map fun s => (stK s, v))
  rw [List.length_map] at this
  rw [hn]
  simpa only [List.getElem?_map] using this
theorem steps_keys (w : World) {a : Wy} {v : V} (h : SideOk a) : ((updK [] ((K34.steps a).map fun s => (stK s, v))).map fun p => NestedKey.hash w p.1).Nodup := by
  have key : ∃ ks : List (Pl × Pl), (updK [] ((K34.steps a).map fun s => (stK s, v))).map (·.1) = ks.map stK ∧ ∀ s ∈ ks, s ∈ gridL := by
    have all : ∀ (l : List (NK × V)), (∀ p ∈ l, ∃ s, p.1 = stK s ∧ s ∈ gridL) → ∃ ks : List (Pl × Pl), l.map (·.1) = ks.map stK ∧ ∀ s ∈ ks, s ∈ gridL := by
      intro l
      induction l with
      | nil => exact fun _ => ⟨[], rfl, fun s hs => nomatch hs⟩
      | cons p l ih =>
        intro hp
        obtain ⟨s, e, hs⟩ := hp p (List.mem_cons_self ..)
        obtain ⟨ks, e2, h2⟩ := ih fun q hq => hp q (List.mem_cons_of_mem _ hq)
        exact ⟨s :: ks, by rw [List.map_cons, List.map_cons, e, e2], fun t ht => (List.mem_cons.mp ht).elim (fun q => q ▸ hs) (h2 t)⟩
    refine all _ fun p hp => ?_
    rcases mem_updK hp with hp | hp
    · obtain ⟨s, hs, rfl⟩ := List.mem_map.mp hp
      exact ⟨s, rfl, h.2 s hs⟩
    · cases hp
  obtain ⟨ks, e, hg⟩ := key
  have nd : ((updK [] ((K34.steps a).map fun s => (stK s, v))).map (·.1)).Nodup := updK_nodup (by simp)
  rw [e] at nd
  have nk : ks.Nodup := by
    unfold List.Nodup at nd ⊢
    rw [List.pairwise_map] at nd
    exact nd.imp fun h e => h (congrArg stK e)
  have := hs_keys (w := w) nk hg
  have e3 : (updK [] ((K34.steps a).map fun s => (stK s, v))).map (fun p => NestedKey.hash w p.1) = ks.map fun s => NestedKey.hash w (stK s) := by
    have q := congrArg (List.map (NestedKey.hash w)) e
    rw [List.map_map, List.map_map] at q
    exact q
  rw [e3]; exact this
section
variable {P : Program} {w : World} {K : PySem.W.Frag} {mg : Str → Option Value} {base : Heap}
def spNums (P : Program) (w : World) (K : PySem.W.Frag) : Sp := fun vs H Q _ => ∃ l xs ss, vs = [.ref l] ∧ H l = some (.lst xs) ∧ AtL K H (ss.map wyK) xs ∧ ss.length ≤ 1000 ∧ (∀ a ∈ ss, SideOk a) ∧ ∀ H' d, Ex H H' → NumsAt P w K H' d ss → Q (.ref d) H'
theorem ok_numbered_steps (c : Cf K mg) : Kp P w K mg base 2 (He.ga K "numbered_steps") (spNums P w K) := by
  obtain ⟨fd, F⟩ := F_numbered_steps c
  have nd : (["sides", "found", "number", "side", "step"] : List Str).Nodup := by decide +kernel
  refine kp_of F (N := ["sides", "found", "number", "side", "step"]) (ps := ["sides"]) ⟨rfl, rfl, rfl, nd, rfl, by decide +kernel, by decide +kernel⟩ (F.bindsN fun _ _ _ _ _ _ us hl => match us, hl with | [_], _ => rfl) (fun vs H Q E h => ?_) (fun cdv A outer s H vs Q E hr h => ?_)
  · obtain ⟨l, xs, ss, rfl, _⟩ := h; rfl
  · obtain ⟨l, xs, ss, rfl, hl, hx, hn, hok, k⟩ := h
    have hu9 : (A.deeper (envOfC "numbered_steps" (defScope s_numbered_steps) s.heap.objs.size (He.ga K "numbered_steps") cdv)).units + 9 < cLine := by have := hr.units; omega
    refine ⟨_, pss_cons (ps_set (i := 1) nd rfl (.inl rfl) (pe_dnewN (pos := _)))
      (pss_cons (ps_for PassesOwn.never rfl (pi_enum (by rfl) (c.free "enumerate" (by decide +kernel)) (pa_cons (pv 0) pa_nil)) (pg_tup rfl (pgs_cons (pg_name (i := 2) nd rfl (.inr rfl)) (pgs_cons (pg_name (i := 3) nd rfl (.inl rfl)) pgs_nil)))
        (pss_one (ps_expr (pe_updN hu9 (pv 1) (pe_dcN (ow := [("step", 4)]) (g := gName 4) (tt := tYes) (tk := tVar 4) (tv := tVar 2) hu9 rfl nd (pi_list (pe_cal c (ok_side_steps c) hr (pa_cons (pv 3) pa_nil))) (blkOk_by (N := ["sides", "found", "number", "side", "step"]) (sc := defScope s_numbered_steps) (by decide +kernel)) (fun _ _ _ _ _ => pg_name (i := 4) nd rfl (Or.inl rfl)) (fun _ _ _ _ _ => pts_nil)
          (fun _ _ _ _ _ => pv 4) (fun _ _ _ _ _ => pv 2)) ⟨rfl, rfl, rfl, rfl⟩))))
      (pss_one (ps_ret (pv 1)))), ?_⟩
    have lx : xs.length = ss.length := by rw [AtL.length hx, List.length_map]
    refine fun d H1 hd0 e1 nd1 _ => ⟨_, rfl, l, _, rfl, .inl (.inl (e1 _ _ hl)), ?_⟩
    refine forG (n := xs.length) (Y := fun i x H' => ∃ U y, x = V.ref U ∧ H' U = some (.tup [.int (i : Nat), y]) ∧ xs[i]? = some y)
      (fun i σ' H' => (∃ o2 o3, σ' = [some (.ref l), some (.ref d), o2, o3, none]) ∧ Ex H H' ∧ ∃ kvs, ND P w K H' d kvs ∧ kvs.length ≤ 12 * i ∧ ∀ p ∈ kvs, ∃ s n a, p = (stK s, .int (n : Nat)) ∧ ss[n]? = some a ∧ s ∈ K34.steps a)
      ⟨⟨none, none, rfl⟩, e1, [], nd1, Nat.zero_le _, fun p hp => nomatch hp⟩ (fun i σ' H' _ q => sw_enum (.inl (.inl (q.2.1 _ _ hl)))) (fun i x σ' H' H'' hi q ex hxi => ?_) fun σ' H' q => ?_
    · obtain ⟨⟨o2, o3, rfl⟩, e, kvs, nk, hlen, hall⟩ := q
      obtain ⟨U, y, rfl, hU, hy⟩ := hxi
      have e' := e.trans ex
      obtain ⟨kx, g1, g2⟩ := AtL.get (AtL.keep (Ex.tk e') _ _ hx) hy
      rw [List.getElem?_map] at g1
      obtain ⟨a, ha, rfl⟩ := Option.map_eq_some_iff.mp g1
      have aok := hok a (List.mem_of_getElem? ha)
      have nk2 := nk.ex ex
      refine ⟨U, _, rfl, .inl (.inl hU), rfl, _, _, rfl, _, _, rfl, rfl, ?_⟩
      refine ⟨_, rfl, d, kvs, rfl, nk2, _, rfl, y, a, rfl, g2, fun H2 l2 zs e2 hl20 hl2 hz => ⟨l2, rfl, ⟨_, .inl (.inl hl2)⟩, fun D hD hDs => ?_⟩⟩
      have lz : zs.length = (K34.steps a).length := by rw [AtL.length hz, List.length_map]
      have hst : (K34.steps a).length ≤ 12 := Nat.le_trans (steps_len a) aok.1
      refine dcG (n := zs.length) (Y := fun j x _ => zs[j]? = some x) hD hDs (fun j => ((K34.steps a)[j]?).map fun s => (stK s, V.int (i : Nat))) (fun j kk v hj => ?_) (by rw [lz]; exact Nat.lt_of_le_of_lt hst (by decide)) (fun H3 e3 => sw_list (.inl (.inl (e3 _ _ hl2)))) (fun j x H3 hj e3 hxj Q2 q2 => ?_) fun H3 e3 nd3 => ?_
      · obtain ⟨s, _, e⟩ := Option.map_eq_some_iff.mp hj
        cases e
        exact ⟨⟨_, rfl⟩, stK_depth s⟩
      · obtain ⟨kx, g3, g4⟩ := AtL.get (AtL.keep (Ex.tk e3) _ _ hz) hxj
        rw [List.getElem?_map] at g3
        obtain ⟨st, hst2, rfl⟩ := Option.map_eq_some_iff.mp g3
        refine ⟨rfl, _, rfl, _, rfl, q2 (some (x, .int (i : Nat))) H3 Ex.refl ?_⟩
        rw [hst2]
        exact ⟨g4, rfl⟩
      · rw [stepMade a _ _ lz] at nd3
        have e13 := e2.trans e3
        have ndd := nk2.ex e13
        have hne : d ≠ D := by
          rintro rfl
          obtain ⟨φ, q⟩ := (nk2.ex e2).isExt
          rw [hD] at q; cases q
        have ml := updK_len ((K34.steps a).map fun s => (stK s, V.int (i : Nat))) []
        rw [List.length_nil, Nat.zero_add, List.length_map] at ml
        refine ⟨D, kvs, _, rfl, hne, ndd, nd3, .inr (steps_keys w aok), ?_, fun H4 b1 b2 b3 => ?_⟩
        · have : 12 * i + 12 ≤ 12012 := by omega
          exact Nat.le_trans (show _ ≤ 12012 by omega) (by decide)
        · refine ⟨⟨_, _, rfl⟩, fun b o hb => by rw [b1 b (ne_of_none hb hd0)]; exact e13 _ _ (e' _ _ hb), _, b3, ?_, fun p hp => ?_⟩
          · have := updK_len (updK [] ((K34.steps a).map fun s => (stK s, V.int (i : Nat)))) kvs
            omega
          · rcases mem_updK hp with hp | hp
            · rcases mem_updK hp with hp | hp
              · obtain ⟨s, hs, rfl⟩ := List.mem_map.mp hp
                exact ⟨s, i, a, rfl, ha, hs⟩
              · cases hp
            · exact hall p hp
    · obtain ⟨⟨o2, o3, rfl⟩, e, kvs, nk, hlen, hall⟩ := q
      exact ⟨_, rfl, k H' d e ⟨kvs, nk, hall⟩⟩
end
end L2.K4
end
section
set_option Elab.async false
set_option linter.all false
set_option maxRecDepth 100000
set_option maxHeartbeats 4000000
/-! Neighbors; is_face_tuple. -/
namespace L2.K4
open PySem PySem.Spec PyProof.Rows L2
section
variable {P : Program} {w : World} {K : PySem.W.Frag} {mg : Str → Option Value} {base : Heap}
/-- the numbers of sides that share a step with a -/
def Shares (ss : List Wy) (a : Wy) (z : Int) : Prop := ∃ (n : Nat) (b : Wy) (s : Pl × Pl), z = n ∧ ss[n]? = some b ∧ s ∈ K34.steps b ∧ s ∈ K34.steps a
def spNeigh (P : Program) (w : World) (K : PySem.W.Frag) : Sp := fun vs H Q _ => ∃ p v d a ss, vs = [.ref p, v, .ref d] ∧ At K H (wyK a) v ∧ SideOk a ∧ NumsAt P w K H d ss ∧
  ∀ (H' : Hp) (l : Addr) (ns : List Int), Ex H H' → H l = none → H' l = some (.lst (ns.map V.int)) → (∀ z ∈ ns, Shares ss a z) → ns.length ≤ 12 → Q (.ref l) H'
theorem ok_neighbors (c : Cf K mg) : Kp P w K mg base 2 (He.ma K (He.ga K "Faces") "neighbors") (spNeigh P w K) := by
  obtain ⟨fd, F⟩ := F_Faces_neighbors c
  have nd : (["self", "side", "numbers", "step"] : List Str).Nodup := by decide +kernel
  refine kp_of F (N := ["self", "side", "numbers", "step"]) (ps := ["self", "side", "numbers"]) ⟨rfl, rfl, rfl, nd, rfl, by decide +kernel, by decide +kernel⟩ (F.bindsN fun _ _ _ _ _ _ us hl => match us, hl with | [_, _, _], _ => rfl) (fun vs H Q E h => ?_) (fun cdv A outer s H vs Q E hr h => ?_)
  · obtain ⟨p, v, d, a, ss, rfl, _⟩ := h; rfl
  · obtain ⟨p, v, d, a, ss, rfl, hv, hok, ⟨kvs, nk, hall⟩, k⟩ := h
    have hu9 : (A.deeper (envOfC "Faces.neighbors" (defScope s_Faces_neighbors) s.heap.objs.size (He.ma K (He.ga K "Faces") "neighbors") cdv)).units + 9 < cLine := by have := hr.units; omega
    refine ⟨_, pss_one (ps_ret (pe_callB (cr_sortedSet rfl) (by rfl) (c.free "sorted" (by decide +kernel)) (by decide +kernel) (pa_cons (pe_scI (ow := [("step", 3)]) (g := gName 3) (tt := tTest (tOp (rInN P w K false) (tVar 3) (tVar 2))) (te := tOp (rGetN P w K) (tVar 2) (tVar 3)) rfl nd (pi_list (pe_cal c (ok_side_steps c) hr (pa_cons (pv 1) pa_nil))) (blkOk_by (N := ["self", "side", "numbers", "step"]) (sc := defScope s_Faces_neighbors) (by decide +kernel)) (fun _ _ _ _ _ => pg_name (i := 3) nd rfl (Or.inl rfl))
      (fun _ _ _ _ _ => pts_one (pt_cmpR (op_inN hu9) (pv 3) (pv 2) (by rfl))) (fun _ _ _ _ _ => pe_getN hu9 (pv 2) (pv 3) (fun _ _ => rfl))) pa_nil))), ?_⟩
    refine ⟨_, rfl, v, a, rfl, hv, fun H1 l1 zs e1 hl10 hl1 hz => ⟨l1, rfl, ⟨_, .inl (.inl hl1)⟩, fun D hD => ?_⟩⟩
    have lz : zs.length = (K34.steps a).length := by rw [AtL.length hz, List.length_map]
    have hst : (K34.steps a).length ≤ 12 := Nat.le_trans (steps_len a) hok.1
    let num : Pl × Pl → Option Int := fun s => match valV kvs (stK s) with | some (.int i) => some i | _ => none
    refine scG (n := zs.length) (Y := fun j x _ => zs[j]? = some x) hD (fun j => ((K34.steps a)[j]?).bind num) (by rw [lz]; exact Nat.lt_of_le_of_lt (show _ ≤ 13 by omega) (by decide)) (fun H3 e3 => sw_list (.inl (.inl (e3 _ _ hl1)))) (fun j x H3 hj e3 hxj Q2 q2 => ?_) fun H2 S m e2 hS hmem hm => ?_
    · obtain ⟨kx, g3, g4⟩ := AtL.get (AtL.keep (Ex.tk e3) _ _ hz) hxj
      rw [List.getElem?_map] at g3
      obtain ⟨st, hst2, rfl⟩ := Option.map_eq_some_iff.mp g3
      have nk3 := nk.ex (e1.trans e3)
      refine ⟨rfl, _, rfl, _, rfl, d, kvs, stK st, rfl, nk3, g4, ⟨_, rfl⟩, stK_depth st, _, rfl, ?_⟩
      have e5 : ((K34.steps a)[j]?).bind num = num st := by rw [hst2]; rfl
      rw [e5] at q2
      cases hv2 : valV kvs (stK st) with
      | none =>
        refine iteF (q2 none H3 Ex.refl ?_)
        show OptI H3 (num st) none
        have : num st = none := by show (match valV kvs (stK st) with | some (.int i) => some i | _ => none) = none; rw [hv2]
        rw [this]; trivial
      | some y =>
        obtain ⟨s', n', a', e6, _, _⟩ := hall _ (valV_mem hv2)
        have e7 : y = V.int n' := (Prod.mk.inj e6).2
        subst e7
        refine iteT ⟨_, rfl, _, rfl, d, kvs, stK st, _, rfl, nk3, g4, ⟨_, rfl⟩, stK_depth st, hv2, q2 (some (.int n')) H3 Ex.refl ?_⟩
        have : num st = some (n' : Int) := by show (match valV kvs (stK st) with | some (.int i) => some i | _ => none) = _; rw [hv2]
        rw [this]; exact rfl
    · refine ⟨D, S, m, rfl, hS, by omega, fun ns l2 _ hk hlen hl2 => ?_⟩
      have e4 := Ex.laid (o := .lst (ns.map V.int)) hl2
      have e12 := e1.trans e2
      refine k _ l2 ns (e12.trans e4) (e12.free hl2) upd_same (fun z hz2 => ?_) (by omega)
      have hm2 := (hmem z).mp ((hk z).mp hz2)
      unfold made at hm2
      obtain ⟨j, _, hj⟩ := List.mem_filterMap.mp hm2
      obtain ⟨st, h1, h2⟩ := Option.bind_eq_some_iff.mp hj
      have h3 : (match valV kvs (stK st) with | some (.int i) => some i | _ => none) = some z := h2
      split at h3
      · rename_i i hi
        cases h3
        obtain ⟨s', n', a', e6, h4, h5⟩ := hall _ (valV_mem hi)
        injection e6 with e7 e8
        have e9 := stK_inj e7
        subst e9
        injection e8 with e8
        exact ⟨n', a', st, e8, h4, h5, List.mem_of_getElem? h1⟩
      · cases h3
end
end L2.K4
end
section
set_option Elab.async false
set_option linter.all false
set_option maxRecDepth 100000
set_option maxHeartbeats 4000000
/-! is_face_tuple. -/
namespace L2.K4
open PySem PySem.Spec PyProof.Rows L2
section
variable {P : Program} {w : World} {K : PySem.W.Frag} {mg : Str → Option Value} {base : Heap}
def spIsFc (K : PySem.W.Frag) : Sp := fun vs H Q _ => ∃ v f, vs = [v] ∧ At K H (fcK f) v ∧ f.1.length ≤ 100 ∧ f.2.length ≤ 100 ∧ ∀ H', Ex H H' → Q (.bl true) H'
theorem ok_is_face_tuple (c : Cf K mg) : Kp P w K mg base 2 (He.ga K "is_face_tuple") (spIsFc K) := by
  obtain ⟨fd, F⟩ := F_is_face_tuple c
  have nd : (["value", "side", "place"] : List Str).Nodup := by decide +kernel
  refine kp_of F (N := ["value", "side", "place"]) (ps := ["value"]) ⟨rfl, rfl, rfl, nd, rfl, by decide +kernel, by decide +kernel⟩ (F.bindsN fun _ _ _ _ _ _ us hl => match us, hl with | [_], _ => rfl) (fun vs H Q E h => ?_) (fun cdv A outer s H vs Q E hr h => ?_)
  · obtain ⟨v, f, rfl, _⟩ := h; rfl
  · obtain ⟨v, f, rfl, hv, l1, l2, k⟩ := h
    obtain ⟨t, x, y, rfl, ht, hx, hy⟩ := at_fc hv
    refine ⟨_, pss_cons (ps_if (PW.pt (pw_or (pt_not (pt_val (pe_callB call_isi (by rfl) (c.free "isinstance" (by decide +kernel)) (by decide +kernel) (pa_cons (pv 0) (pa_cons (pe_bltn (v := .ty "tuple") (by rfl) (c.free "tuple" (by decide +kernel)) (by decide +kernel) rfl) pa_nil)))))
      (pw_or (pt_cmpR op_ne (pe_callB call_len_seq (by rfl) (c.free "len" (by decide +kernel)) PySem.boot_len (pa_cons (pv 0) pa_nil)) pe_int (nomark _))
        (pw_or1 (pt_not (pt_val (pe_callB (cr_all rfl) (by rfl) (c.free "all" (by decide +kernel)) (by decide +kernel) (pa_cons (pe_lc (own := [("side", 1)]) (g := gName 1) (tt := tYes) (te := tCB (rIsi K) (tCons (tVar 1) (tCons (tC (.ty "tuple")) tNil))) rfl nd (pi_tup (pv 0)) (blkOk_by (N := ["value", "side", "place"]) (sc := defScope s_is_face_tuple) (by decide +kernel)) (fun _ _ _ _ _ => pg_name (i := 1) nd rfl (Or.inl rfl)) (fun _ _ _ _ _ => pts_nil)
          (fun _ _ _ _ _ => pe_callB call_isi (by rfl) (c.free "isinstance" (by decide +kernel)) (by decide +kernel) (pa_cons (pv 1) (pa_cons (pe_bltn (v := .ty "tuple") (by rfl) (c.free "tuple" (by decide +kernel)) (by decide +kernel) rfl) pa_nil)))) pa_nil)))))))) (pss_one ps_never) pss_nil)
      (pss_one (ps_ret (pe_callB (cr_all rfl) (by rfl) (c.free "all" (by decide +kernel)) (by decide +kernel) (pa_cons (pe_lc2 (own := [("side", 1), ("place", 2)]) (vs1 := [2]) (g := gName 1) (tt := tYes) (g1 := gName 2) (tt1 := tYes) (te := tCal (spIsPt K) (tCons (tVar 2) tNil)) (wi1 := iTup K (tVar 1)) rfl nd (pi_tup (pv 0)) (blkOk_by (N := ["value", "side", "place"]) (sc := defScope s_is_face_tuple) (by decide +kernel)) (by decide +kernel)
        (fun _ _ _ _ _ => pg_name (i := 1) nd rfl (Or.inl rfl)) (fun _ _ _ _ _ => pts_nil) (fun _ _ _ _ _ => pi_tup (pv 1)) (fun _ _ _ _ _ => pg_name (i := 2) nd rfl (Or.inl rfl)) (fun _ _ _ _ _ => pts_nil)
        (fun _ _ _ _ _ => pe_cal c (ok_is_place_tuple c) hr (pa_cons (pv 2) pa_nil))) pa_nil)))), ?_⟩
    refine ⟨_, rfl, _, _, _, _, true, rfl, .ty _, ty_tup ht, kit_ty (r := true) (by decide +kernel), true, rfl, ?_⟩
    refine iteF ⟨_, rfl, t, _, rfl, .inr ht, rfl, false, rfl, iteF ?_⟩
    refine ⟨_, rfl, t, rfl, ⟨_, ht⟩, fun D hD => ?_⟩
    refine lcG (n := 2) (Y := fun i' z _ => [x, y][i']? = some z) hD (fun _ => some (V.bl true)) IsV IsV.mono (by decide) (fun H' e => sw_tup (ext' e ht)) (fun i' z H1 zs hi' e2 hz hDl Q2 q2 => ?_) fun H2 ys e2 h2 hpp => ?_
    · suffices key : ∃ u us, z = .ref u ∧ SqT K H u us by
        obtain ⟨u, us, rfl, hu⟩ := key
        exact ⟨rfl, _, rfl, _, _, _, _, true, rfl, .ty _, ty_tup (ext' e2 hu), kit_ty (r := true) (by decide +kernel), q2 (some (.bl true)) H1 Ex.refl rfl⟩
      obtain ⟨u1, us1, e3, hu1, _⟩ := at_wy hx
      obtain ⟨u2, us2, e4, hu2, _⟩ := at_wy hy
      rcases i' with _ | _ | i'
      · cases hz; exact ⟨u1, us1, e3, hu1⟩
      · cases hz; exact ⟨u2, us2, e4, hu2⟩
      · omega
    · rw [IsV.all hpp, made_const] at h2
      refine ⟨D, [true, true], rfl, .inl (.inl h2), true, rfl, iteF ?_⟩
      have ht2 := ext' e2 ht
      refine ⟨_, rfl, t, rfl, ⟨_, ht2⟩, fun D2 hD2 => ?_⟩
      let R : Nat → Hp → Prop := fun b H' => Ex H2 H' ∧ ∃ cc, H' D2 = some (.lst (List.replicate cc (V.bl true))) ∧ cc ≤ b
      refine ⟨fun i m H' => m = 2 - i ∧ i ≤ 2 ∧ R (100 * i) H', ⟨2, rfl, by omega, Ex.laid hD2, 0, upd_same, Nat.zero_le _⟩, ?_⟩
      rintro i m H3 ⟨rfl, hi, e3, cc, hcc, hcl⟩
      have sw := sw_tup (ext' e3 ht2) i
      rcases Nat.lt_or_ge i 2 with h | h
      · refine .inr ⟨(sw.1 h).1, fun H' => R (100 * (i + 1)) H', fun H' q => ⟨2 - (i + 1), by omega, rfl, by omega, q⟩, fun z H4 hz => ?_⟩
        obtain ⟨e4, hz4⟩ := (sw.1 h).2 z H4 hz
        have eH : Ex H H4 := e2.trans (e3.trans e4)
        obtain ⟨a, ha, al⟩ : ∃ a : Wy, At K H (wyK a) z ∧ a.length ≤ 100 := by
          rcases i with _ | _ | i
          · cases hz4; exact ⟨f.1, hx, l1⟩
          · cases hz4; exact ⟨f.2, hy, l2⟩
          · omega
        obtain ⟨u, us, rfl, hu, hus⟩ := at_wy ha
        have ul : us.length = a.length := by rw [AtL.length hus, List.length_map]
        refine ⟨rfl, _, rfl, u, rfl, ⟨us, ext' eH hu⟩, fun j k' H' => k' = us.length - j ∧ j ≤ us.length ∧ R (100 * i + j) H', ⟨_, rfl, Nat.zero_le _, e3.trans e4, cc, e4 _ _ hcc, by omega⟩, ?_⟩
        rintro j k' H5 ⟨rfl, hj, e5, cc5, hc5, hl5⟩
        have sw2 := sw_tup (ext' (e2.trans e5) hu) j
        rcases Nat.lt_or_ge j us.length with h' | h'
        · refine .inr ⟨(sw2.1 h').1, fun H' => R (100 * i + (j + 1)) H', fun H' q => ⟨us.length - (j + 1), by omega, rfl, by omega, q⟩, fun z2 H6 hz2 => ?_⟩
          obtain ⟨e6, hz6⟩ := (sw2.1 h').2 z2 H6 hz2
          obtain ⟨kx, g1, g2⟩ := AtL.get hus hz6
          rw [List.getElem?_map] at g1
          obtain ⟨q, _, rfl⟩ := Option.map_eq_some_iff.mp g1
          refine ⟨rfl, _, rfl, z2, q, rfl, At.keep (Ex.tk ((e2.trans e5).trans e6)) _ _ g2, fun H7 e7 => ⟨_, (e6.trans e7) _ _ hc5, ?_, Ex.mut (e5.trans (e6.trans e7)) hD2, cc5 + 1, ?_, by omega⟩⟩
          · rw [List.length_replicate]; exact Nat.lt_of_le_of_lt (show cc5 ≤ 300 by omega) (by decide)
          · rw [upd_same, List.replicate_succ']
        · exact .inl ⟨sw2.2 h', e5, cc5, hc5, by omega⟩
      · have e : i = 2 := by omega
        subst e
        exact .inl ⟨sw.2 (Nat.le_refl _), D2, List.replicate cc true, rfl, .inl (.inl (by rw [hcc, List.map_replicate])), by
          have : (List.replicate cc true).all id = true := by simp
          rw [this]; exact k H3 (e2.trans e3)⟩
end
end L2.K4
end
section
set_option Elab.async false
set_option linter.all false
set_option maxRecDepth 100000
set_option maxHeartbeats 4000000
/-! The faces of a web. -/
namespace L2.K4
open PySem PySem.Spec PyProof.Rows L2
open Classical in
noncomputable def fcOf (W : K34.Web) (b x y : Pl) : Fc := if h : ∃ f, K34.FaceOf W b x y f then h.choose else ([], [])
theorem fcOf_ok {W : K34.Web} {b x y : Pl} (h : (x, y) ∈ K34.steps (W.wst b)) : K34.FaceOf W b x y (fcOf W b x y) := by
  have q := K34.Web.face_ex h
  unfold fcOf
  rw [dif_pos q]
  exact q.choose_spec
noncomputable def stF (W : K34.Web) (b : Pl) : List Fc := (K34.steps (W.wst b)).map fun s => fcOf W b s.1 s.2
noncomputable def facesOf (W : K34.Web) : List Fc := (webPls W).flatMap (stF W)
theorem mem_faces {W : K34.Web} {f : Fc} : f ∈ facesOf W ↔ ∃ b x y, W.v b = true ∧ (x, y) ∈ K34.steps (W.wst b) ∧ f = fcOf W b x y := by
  unfold facesOf stF
  rw [List.mem_flatMap]
  constructor
  · rintro ⟨b, hb, hf⟩
    obtain ⟨s, hs, rfl⟩ := List.mem_map.mp hf
    exact ⟨b, s.1, s.2, mem_pls.mp hb, hs, rfl⟩
  · rintro ⟨b, x, y, hb, hs, rfl⟩
    exact ⟨b, mem_pls.mpr hb, List.mem_map.mpr ⟨_, hs, rfl⟩⟩
theorem steps_mem {α : Type} {w : List α} {p q : α} (h : (p, q) ∈ K34.steps w) : p ∈ w ∧ q ∈ w := by
  obtain ⟨i, h1, h2⟩ := K34.steps_inv h
  exact ⟨List.mem_of_getElem? h1, List.mem_of_getElem? h2⟩
theorem wst_v {W : K34.Web} {p q : Pl} (h : q ∈ W.wst p) : W.v p = true ∧ W.v q = true := W.ev (K34.wst_cand h).1 (K34.wst_cand h).2
theorem face_ok {W : K34.Web} (hm : W.m ≤ 4) (hn : W.n ≤ 4) {f : Fc} (hf : f ∈ facesOf W) : f.1 ≠ [] ∧ SideOk f.1 ∧ SideOk f.2 := by
  obtain ⟨b, x, y, hb, hs, rfl⟩ := mem_faces.mp hf
  have T := (fcOf_ok hs).tr
  generalize fcOf W b x y = f at T
  obtain ⟨hx, hy⟩ := steps_mem hs
  have vx := (wst_v hx).2
  have vy := (wst_v hy).2
  obtain ⟨l1, l2⟩ := T.short vx vy
  obtain ⟨t, hU⟩ := T.hu
  obtain ⟨s, hL⟩ := T.hl
  have gr : ∀ p q, W.v p = true → q ∈ W.wst p → (p, q) ∈ gridL := fun p q hp hq => by
    have := W.vb hp
    exact mem_grid (by omega) (by omega) (K34.wst_cand hq).1
  refine ⟨by rw [hU]; simp, ⟨by omega, fun z hz => ?_⟩, ⟨by omega, fun z hz => ?_⟩⟩
  · rw [hU, K34.steps_cons] at hz
    rcases List.mem_cons.mp hz with rfl | hz
    · exact gr b x hb hx
    · obtain ⟨p, q⟩ := z
      obtain ⟨h1, h2⟩ := T.su p q (by rw [hU]; exact hz)
      exact gr p q h1 (List.mem_of_getLast? h2)
  · rw [hL, K34.steps_cons] at hz
    rcases List.mem_cons.mp hz with rfl | hz
    · exact gr b y hb hy
    · obtain ⟨p, q⟩ := z
      obtain ⟨h1, h2⟩ := T.sl p q (by rw [hL]; exact hz)
      exact gr p q h1 (List.mem_of_head? h2)
theorem pls_len {W : K34.Web} (hm : W.m ≤ 4) (hn : W.n ≤ 4) : (webPls W).length ≤ 30 := by
  have h := preN_len (v := W.v) (i := W.m + 1) (j := 0) (n := W.n + 1) (m := 5) (by omega) (Nat.zero_le _)
  rw [preN_zero] at h
  unfold webPls
  omega
theorem stF_len (W : K34.Web) (b : Pl) : (stF W b).length ≤ 3 := by
  unfold stF
  rw [List.length_map]
  exact Nat.le_trans (steps_len _) (wst_len W b)
theorem TK.kd {K : PySem.W.Frag} {p C dx : Addr} {fs : List (Str × V)} {H H' : Hp} (k : KD p H H') (hp : H p = some (.ins C dx fs)) : TK K H H' := fun a xs z => sqt_kd k hp z
theorem WebA.kd {P : Program} {w : World} {K : PySem.W.Frag} {H H' : Hp} {p wp C dx : Addr} {W : K34.Web} (h : WebA P w K H wp W) (k : KD p H H') (hp : H p = some (.ins C dx [])) : WebA P w K H' wp W := by
  obtain ⟨wdx, ol, nl, cp, d, kvs, a, n, b1, b2⟩ := h
  have hd : d ≠ p := by
    rintro rfl
    obtain ⟨φ, q⟩ := n.isExt
    rw [hp] at q; cases q
  refine ⟨wdx, ol, nl, cp, d, kvs, k _ _ (by rintro rfl; rw [hp] at a; cases a) a, n.keep (TK.kd k hp) fun o ho => k _ _ hd ho, b1, fun q hq => ?_⟩
  obtain ⟨l, xs, c1, c2, c3⟩ := b2 q hq
  exact ⟨l, xs, c1, k _ _ (by rintro rfl; rw [hp] at c2; cases c2) c2, AtL.keep (TK.kd k hp) _ _ c3⟩
def facFs (wp R N A B G L : Addr) : List (Str × V) := [("faces_web", .ref wp), ("rows", .ref R), ("own_numbers", .ref N), ("numbers_above", .ref A), ("numbers_below", .ref B), ("ahead_numbers", .ref G), ("behind_numbers", .ref L)]
/-- at p stand the faces gs -/
structure FacAt (P : Program) (w : World) (K : PySem.W.Frag) (H : Hp) (p : Addr) (gs : List Fc) (dx wp R N A B G L : Addr) (rs : List Addr) : Prop where
  at_ : H p = some (.ins (He.ga K "Faces") dx (facFs wp R N A B G L))
  rows : ∃ xs, H R = some (.lst xs) ∧ AtL K H (gs.map fcK) xs
  nums : ∃ kvs, ND P w K H N kvs ∧ (∀ q ∈ kvs, ∃ n f, q = (fcK f, .int (n : Nat)) ∧ gs[n]? = some f) ∧ ∀ f ∈ gs, fcK f ∈ kvs.map (·.1)
  ahead : H G = some (.lst (rs.map V.ref)) ∧ rs.length = gs.length ∧ ∀ (i : Nat) f r, gs[i]? = some f → rs[i]? = some r → ∃ ns : List Int, H r = some (.lst (ns.map V.int)) ∧ ns.length ≤ 12 ∧ ∀ z ∈ ns, Shares (gs.map (·.2)) f.1 z
def FacesA (P : Program) (w : World) (K : PySem.W.Frag) (H : Hp) (p : Addr) (gs : List Fc) : Prop := ∃ dx wp R N A B G L rs, FacAt P w K H p gs dx wp R N A B G L rs
theorem FacesA.ex {P : Program} {w : World} {K : PySem.W.Frag} {H H' : Hp} {p : Addr} {gs : List Fc} (h : FacesA P w K H p gs) (e : Ex H H') : FacesA P w K H' p gs := by
  obtain ⟨dx, wp, R, N, A, B, G, L, rs, a, ⟨xs, b1, b2⟩, ⟨kvs, c1, c2⟩, d1, d2, d3⟩ := h
  refine ⟨dx, wp, R, N, A, B, G, L, rs, e _ _ a, ⟨xs, e _ _ b1, AtL.keep (Ex.tk e) _ _ b2⟩, ⟨kvs, c1.ex e, c2⟩, e _ _ d1, d2, fun i f r h1 h2 => ?_⟩
  obtain ⟨ns, q1, q2⟩ := d3 i f r h1 h2
  exact ⟨ns, e _ _ q1, q2⟩
end L2.K4
end
section
set_option Elab.async false
set_option linter.all false
set_option maxRecDepth 100000
set_option maxHeartbeats 4000000
/-! face_key, the heap alone: what a sort asks of its key. -/
namespace L2.K4
open PySem PySem.Spec PyProof.Rows L2
/-- all that was stands, nothing else was done -/
structure Rw (s s' : Shared) : Prop where
  eq : ∃ h tk, s' = { s with heap := h, toks := tk }
  kp : ∀ b o, s.heap.get? b = some o → s'.heap.get? b = some o
theorem Rw.refl {s : Shared} : Rw s s := ⟨⟨s.heap, s.toks, rfl⟩, fun _ _ h => h⟩
theorem Rw.tok {s s' : Shared} (r : Rw s s') (t : Nat) : Rw s { s' with toks := t } := by
  obtain ⟨⟨h, tk, rfl⟩, k⟩ := r
  exact ⟨⟨h, t, rfl⟩, k⟩
theorem Rw.lay {s s' : Shared} (r : Rw s s') (o : Obj) : Rw s { s' with heap := s'.heap.push o } := by
  obtain ⟨⟨h, tk, rfl⟩, k⟩ := r
  exact ⟨⟨_, tk, rfl⟩, fun b o' e => Heap.get?_push_of_some _ (k b o' e)⟩
/-- v is the data k -/
def Rn (h : Heap) (k : NK) (v : Value) : Prop := ∃ as, Reads h v k.data as
def RnAll (h : Heap) (ks : List NK) (vs : List Value) : Prop := ∃ as, ReadsAll h vs (NestedKey.datas ks) as
mutual
theorem rn_nil {h : Heap} : ∀ (k : NK) (v : Value) (as : List Addr), Reads h v k.data as → as = []
  | .none, _, _, r => by cases r; rfl
  | .num i, _, _, r => by cases r; rfl
  | .text x, _, _, r => by cases r; rfl
  | .tup ks, _, _, r => by
    cases r with
    | tuple h1 h2 h3 h4 => exact rn_nils ks _ _ h4
theorem rn_nils {h : Heap} : ∀ (ks : List NK) (vs : List Value) (as : List Addr), ReadsAll h vs (NestedKey.datas ks) as → as = []
  | [], _, _, r => by cases r; rfl
  | k :: ks, _, _, r => by
    cases r with
    | cons h1 h2 => rw [rn_nil k _ _ h1, rn_nils ks _ _ h2]; rfl
end
theorem RnAll.length {h : Heap} : ∀ (ks : List NK) (vs : List Value), RnAll h ks vs → vs.length = ks.length
  | [], _, ⟨_, r⟩ => by cases r; rfl
  | k :: ks, _, ⟨_, r⟩ => by
    cases r with
    | cons h1 h2 => rw [List.length_cons, List.length_cons, RnAll.length ks _ ⟨_, h2⟩]
theorem Rw.nest {s s' : Shared} (r : Rw s s') {k : NK} {v : Value} (h : Rn s.heap k v) : Rn s'.heap k v := let ⟨as, q⟩ := h; ⟨as, PyProof.Rows.Reads.keeps r.kp q⟩
section
variable {P : Program} {w : World} {A : Around} {E : Value → Shared → Prop} {env : Env} {s0 s : Shared}
/-- e gives the data k -/
def RE (P : Program) (w : World) (A : Around) (env : Env) (s0 : Shared) (e : Expr) (G : Value → Shared → Prop) : Prop := ∀ (E : Value → Shared → Prop) (s : Shared) (Q : Value → Shared → Prop), Rw s0 s → (∀ v s', Rw s0 s' → G v s' → Q v s') → wpAny (model P w) A (eval e env) Q E s
theorem re_name {x : Str} {pos : Pos} {m : Str → Option Value} {v : Value} (hk : env.scope.kind = .function) (hl : env.kindOf x = some .local) (hn : s0.heap.Ns env.locals m) (hv : m x = some v) (hd : (x == ("__debug__" : Str)) = false := by decide) :
    RE P w A env s0 (.Name x pos) fun u _ => u = v := fun E s Q r q => wpAny_Name (wpAny_loadName_local hk hl (hn.keeps r.kp) hv (q v s r rfl)) hd
theorem re_int {i : Int} {j pos} : RE P w A env s0 (.Constant (.int i) j pos) fun u _ => ∃ t, u = .int i t := fun E s Q r q => wpAny_Constant_int (q _ _ (r.tok _) ⟨_, rfl⟩)
theorem re_neg {i : Int} {e : Expr} {pos : Pos} (h : RE P w A env s0 e fun u _ => ∃ t, u = .int i t) : RE P w A env s0 (.UnaryOp .USub e pos) fun u _ => ∃ t, u = .int (-i) t := fun E s Q r q =>
  UnaryOp_ (h E s _ r fun v s' r' ⟨t, e⟩ => by subst e; exact neg_int (q _ _ (r'.tok _) ⟨_, rfl⟩))
/-- a place in a tuple that stood -/
theorem re_ix {a b : Expr} {pos : Pos} {i : Int} {j : Nat} {t : Value} {ks : List NK} {vs : List Value} {u : Value} (ht : ∃ ad items, t = .ref ad ∧ IsTup s0.heap ad items ∧ items.toList = vs) (ha : RE P w A env s0 a fun u _ => u = t) (hb : RE P w A env s0 b fun u _ => ∃ t, u = .int i t)
    (lo : -(2 ^ 63) ≤ i) (hi : i < 2 ^ 63) (hj : seqIndex? i vs.length = some j) (hu : vs[j]? = some u) (hs : PlainIx b) : RE P w A env s0 (.Subscript a b pos) fun x _ => x = u := by
  intro E s Q r q
  obtain ⟨ad, items, rfl, hT, rfl⟩ := ht
  refine Subscript_ (ha E s _ r fun v s1 r1 e => ?_)
  subst e
  refine hb E s1 _ r1 fun iv s2 r2 ⟨tk, e⟩ => ?_
  subst e
  obtain ⟨o, ho, hc, hd⟩ := hT
  have hT2 : IsTup s2.heap ad items := ⟨o, r2.kp _ _ ho, hc, hd⟩
  exact subscriptTail_builtinR (x := u) hT2.typeIs slot_tuple_getitem.lookup (getItem_tuple (j := j) (Q := fun r s' => r = u ∧ Q r s') hT2 lo hi (by rw [← Array.length_toList]; exact hj) (by rw [← Array.getElem?_toList]; exact hu) ⟨rfl, q u s2 r2 rfl⟩) (hs _ _)
end
theorem rnAll_get {h : Heap} : ∀ {ks : List NK} {vs : List Value} {i : Nat} {k : NK}, RnAll h ks vs → ks[i]? = some k → ∃ v, vs[i]? = some v ∧ Rn h k v
  | [], _, _, _, _, e => by cases e
  | k :: ks, _, 0, k', ⟨_, r⟩, e => by cases r with | cons h1 h2 => cases e; exact ⟨_, rfl, _, h1⟩
  | k :: ks, _, i + 1, k', ⟨_, r⟩, e => by
    cases r with
    | cons h1 h2 =>
      obtain ⟨v, a, b⟩ := rnAll_get (i := i) ⟨_, h2⟩ (by simpa using e)
      exact ⟨v, by simpa using a, b⟩
theorem rn_tup {h : Heap} {ks : List NK} {v : Value} (r : Rn h (.tup ks) v) : ∃ a items, v = .ref a ∧ IsTup h a items ∧ RnAll h ks items.toList := by
  obtain ⟨as, r⟩ := r
  cases r with
  | tuple h1 h2 h3 h4 => exact ⟨_, _, rfl, ⟨_, h1, h2, _, h3⟩, _, h4⟩
theorem RnAll.cons {h : Heap} {k : NK} {ks : List NK} {v : Value} {vs : List Value} (a : Rn h k v) (b : RnAll h ks vs) : RnAll h (k :: ks) (v :: vs) := let ⟨_, p⟩ := a; let ⟨_, q⟩ := b; ⟨_, .cons p q⟩
theorem RnAll.nil {h : Heap} : RnAll h [] [] := ⟨_, .nil⟩
theorem rn_made {h : Heap} {a : Addr} {vs : List Value} {n : Nat} {ks : List NK} (ho : h.get? a = some { cls := .type "tuple", data := .seq vs.toArray n }) (hk : RnAll h ks vs) : Rn h (.tup ks) (.ref a) := let ⟨_, q⟩ := hk; ⟨_, .tuple ho rfl rfl (by simpa using q)⟩
/-- a call of face_key -/
theorem raw_face_key {P : Program} {w : World} {K : PySem.W.Frag} {mg : Str → Option Value} (c : Cf K mg) {A : Around} {E : Value → Shared → Prop} {s : Shared} {f : Fc} {v : Value} {Q : Value → Shared → Prop} (hr : A.depth < recursionLimit) (KX : K.In s.heap) (lim : s.heap.NoLimit) (hv : Rn s.heap (fcK f) v) (hne : f.1 ≠ [])
    (q : ∀ u s', Rw s s' → Rn s'.heap (keyK f) u → Q u s') : wpAny (model P w) A (call (.ref (He.ga K "face_key")) [v]) Q E s := by
  obtain ⟨fd, F⟩ := F_face_key c
  have B : Binds K fd ["face"] [] := F.bindsN fun _ _ _ _ _ _ us hl => match us, hl with | [_], _ => rfl
  obtain ⟨oc, od, dV, kV, doc, pm, an, cdv, ct, osl, rfl, lk, hcd, _, _⟩ := F.ex
  have S : FnScope ["face"] ["face"] (defScope s_face_key) := ⟨rfl, rfl, rfl, by decide +kernel, rfl, by decide +kernel, by decide +kernel⟩
  have hb := B s [v] KX rfl
  have hkind : ∀ y ∈ (["face"] : List Str).zip [v], (defScope s_face_key).names.lookup y.1 = some .local ∨ ((defScope s_face_key).names.lookup y.1 = some .cell ∧ ((cellsFrom (s.heap.objs.size + 1) (defScope s_face_key).names []).lookup y.1).isSome = true) := fun ⟨n, v⟩ hy => by
    rcases S.par n (List.of_mem_zip hy).1 with q | q
    · exact .inl q
    · exact .inr ⟨q, PySem.W.cellsFrom_some _ _ _ (.inl q)⟩
  refine wpAny_call (codeAny_call_function hr (KX _ _ lk) rfl S.co S.gen rfl (PySem.W.codeRec_of KX hcd) (hb _ _ _ _ ?_))
  refine wpAny_newFunctionEnv_cells S.kind hkind fun env he s1 x => ?_
  subst he
  refine ⟨lim.keeps x.toInCall.keep, codeAny_func ?_⟩
  obtain ⟨h1, tk1, e1, k1⟩ := x.done
  have R1 : Rw s s1 := ⟨⟨h1, tk1, e1⟩, by rw [e1]; exact k1⟩
  have hn := x.toInCall.ns
  obtain ⟨a, items, rfl, ta, na⟩ := rn_tup hv
  obtain ⟨x0, hx0, nx0⟩ := rnAll_get (i := 0) (k := wyK f.1) na rfl
  obtain ⟨b, its, rfl, tb, nb⟩ := rn_tup nx0
  obtain ⟨p, ps, hp⟩ : ∃ p ps, f.1 = p :: ps := by cases h : f.1 with | nil => exact absurd h hne | cons p ps => exact ⟨p, ps, rfl⟩
  obtain ⟨qs, z, hq⟩ : ∃ qs q, f.1 = qs ++ [q] := ⟨_, _, (List.dropLast_concat_getLast hne).symm⟩
  obtain ⟨u0, hu0, nu0⟩ := rnAll_get (i := 0) (k := plK p) nb (by rw [hp]; rfl)
  have lb : its.toList.length = qs.length + 1 := by
    have := RnAll.length _ _ nb
    rw [this, hq]; simp
  obtain ⟨u1, hu1, nu1⟩ := rnAll_get (i := qs.length) (k := plK z) nb (by rw [hq]; simp)
  have la : items.toList.length = 2 := RnAll.length _ _ na
  have up : ∀ {t : Addr} {xs : Array Value}, IsTup s.heap t xs → IsTup s1.heap t xs := fun ⟨o, ho, hc, hd⟩ => ⟨o, R1.kp _ _ ho, hc, hd⟩
  generalize henv : newEnv _ _ _ _ _ _ _ _ _ = env at hn ⊢
  have hl : env.kindOf "face" = some .local := by rw [← henv]; rfl
  have hkk : env.scope.kind = .function := by rw [← henv]; rfl
  have hm : bindL env.kindOf ((["face"] : List Str).zip [Value.ref a]) (fun _ => none) "face" = some (.ref a) := by
    show bindL env.kindOf [((("face" : Str), Value.ref a))] (fun _ => none) "face" = some (.ref a)
    simp [bindL, hl]
  have vF : ∀ {pos}, RE P w (A.deeper env) env s1 (.Name "face" pos) fun u _ => u = .ref a := fun {pos} => re_name hkk hl hn hm
  have v0 : ∀ {p1 p2 p3 j}, RE P w (A.deeper env) env s1 (.Subscript (.Name "face" p1) (.Constant (.int 0) j p2) p3) fun u _ => u = .ref b := fun {_ _ _ _} => re_ix (i := 0) (j := 0) (ks := []) ⟨a, items, rfl, up ta, rfl⟩ vF re_int (by decide) (by decide) (by rw [la]; decide) hx0 (fun _ _ => rfl)
  have v00 : ∀ {p1 p2 p3 j p4 j' p5}, RE P w (A.deeper env) env s1 (.Subscript (.Subscript (.Name "face" p1) (.Constant (.int 0) j p2) p3) (.Constant (.int 0) j' p4) p5) fun u _ => u = u0 := fun {_ _ _ _ _ _ _} => re_ix (i := 0) (j := 0) (ks := []) ⟨b, its, rfl, up tb, rfl⟩ v0 re_int (by decide) (by decide) (by unfold seqIndex?; simp [lb]) hu0 (fun _ _ => rfl)
  have v01 : ∀ {p1 p2 p3 j p4 j' p5 p6}, RE P w (A.deeper env) env s1 (.Subscript (.Subscript (.Name "face" p1) (.Constant (.int 0) j p2) p3) (.UnaryOp .USub (.Constant (.int 1) j' p4) p6) p5) fun u _ => u = u1 := fun {_ _ _ _ _ _ _ _} => re_ix (i := -1) (j := qs.length) (ks := []) ⟨b, its, rfl, up tb, rfl⟩ v0 (re_neg re_int) (by decide) (by decide) (by unfold seqIndex?; simp [lb]; omega) hu1 (fun _ _ => rfl)
  refine wpAny_execs_cons (wpAny_Return_some (wpAny_Tuple_spliced ?_))
  refine Calls.spliced_cons (v00 _ s1 _ Rw.refl fun w0 s2 r2 e2 => Calls.spliced_cons (v01 _ s2 _ r2 fun w1 s3 r3 e3 => Calls.spliced_cons (v0 _ s3 _ r3 fun w2 s4 r4 e4 => Calls.spliced_nil ?_)))
  subst e2 e3 e4
  have R4 : Rw s s4 := by
    obtain ⟨⟨h4, t4, e4⟩, k4⟩ := r4
    exact ⟨⟨h4, t4, by rw [e4, e1]⟩, fun b o e => k4 b o (R1.kp b o e)⟩
  refine ⟨by show 3 ≤ sizeLine; decide, q _ _ (R4.lay _) ?_⟩
  have R5 := R4.lay { cls := .type "tuple", data := .seq #[w0, w1, Value.ref b] }
  refine rn_made (vs := [w0, w1, .ref b]) (Heap.get?_push_size _ rfl) ?_
  refine RnAll.cons ?_ (RnAll.cons ?_ (RnAll.cons (R5.nest nx0) RnAll.nil))
  · rw [hp]; exact R5.nest nu0
  · rw [hq]; simp only [List.getLast?_append, List.getLast?_singleton, Option.some_or, Option.getD_some]; exact R5.nest nu1
end L2.K4
end
section
set_option Elab.async false
set_option linter.all false
set_option maxRecDepth 100000
set_option maxHeartbeats 4000000
/-! sorted(faces, key=face_key). -/
namespace L2.K4
open PySem PySem.Spec PyProof.Rows L2 PySem.W
theorem alike_pl (p q : Pl) : alike (plK p).data (plK q).data = true := by
  simp [plK, NestedKey.data, NestedKey.datas, alike, alikeAll]
theorem alike_pls : ∀ a b : Wy, alikeAll (NestedKey.datas (a.map plK)) (NestedKey.datas (b.map plK)) = true
  | [], _ => by simp [NestedKey.datas, alikeAll]
  | _ :: _, [] => by simp [NestedKey.datas, alikeAll]
  | p :: a, q :: b => by simp only [List.map_cons, NestedKey.datas, alikeAll]; rw [alike_pl, alike_pls a b]; rfl
theorem alike_wy (a b : Wy) : alike (wyK a).data (wyK b).data = true := by simp only [wyK, NestedKey.data, alike]; exact alike_pls a b
theorem alike_key (f g : Fc) : alike (keyK f).data (keyK g).data = true := by
  simp only [keyK, NestedKey.data, NestedKey.datas, alike, alikeAll]
  have h1 := alike_pl (f.1.head?.getD (0, 0)) (g.1.head?.getD (0, 0))
  have h2 := alike_pl (f.1.getLast?.getD (0, 0)) (g.1.getLast?.getD (0, 0))
  have h3 := alike_wy f.1 g.1
  rw [h1, h2, h3]; rfl
theorem keyK_d (f : Fc) : (keyK f).depth ≤ 4 := by
  have h1 := plK_d2 (f.1.head?.getD (0, 0))
  have h2 := plK_d2 (f.1.getLast?.getD (0, 0))
  have h3 := wyK_d f.1
  unfold keyK
  simp only [NestedKey.depth, NestedKey.depthAll]
  omega
def rSortFc (K : PySem.W.Frag) (g : Addr) : List V → List V → Hp → VK → Prop := fun vs zs H Q => ∃ l xs fs, vs = [.ref l] ∧ zs = [.ref g] ∧ SqL K H l xs ∧ AtL K H (fs.map fcK) xs ∧ (∀ f ∈ fs, f.1 ≠ []) ∧
  ∀ (D : Addr) (ys : List V) (gs : List Fc), gs.Perm fs → AtL K H (gs.map fcK) ys → H D = none → Q (.ref D) (upd H D (.lst ys))
section
variable {K : PySem.W.Frag} {H : Hp}
def Rb (K : PySem.W.Frag) (H : Hp) (v : Value) (b : V × Fc) : Prop := RelV b.1 v ∧ At K H (fcK b.2) b.1
theorem each_zip : ∀ {xs : List V} {its : List Value} {fs : List Fc}, Vals xs its → AtL K H (fs.map fcK) xs → EachIs (Rb K H) its (xs.zip fs)
  | [], _, fs, r, h => by cases r; exact .nil
  | x :: xs, _, [], r, h => by have := AtL.length h; simp at this
  | x :: xs, _, f :: fs, r, h => by
    cases r with
    | cons r rs =>
      obtain ⟨y, ys, e, h1, h2⟩ := h.cons_inv
      cases e
      exact .cons ⟨r, h1⟩ (each_zip rs h2)
theorem each_un : ∀ {its : List Value} {bs : List (V × Fc)}, EachIs (Rb K H) its bs → Vals (bs.map (·.1)) its ∧ AtL K H ((bs.map (·.2)).map fcK) (bs.map (·.1))
  | _, _, .nil => ⟨.nil, AtL.nil⟩
  | _, _, .cons h t => ⟨.cons h.1 (each_un t).1, AtL.cons h.2 (each_un t).2⟩
end
section
variable {X : Cx}
theorem cr_sortFc (c : Cf X.K X.mg) (hr : Room 1 X.A) : CallRK X (.builtin "sorted") [Str.ofString "key"] (rSortFc X.K (He.ga X.K "face_key")) := by
  intro pins s σ H vs zs us ws Q I r rz ⟨l, xs, fs, ex, ez, hS, hx, hne, q⟩
  subst ex ez
  obtain rfl := Vals.ref1 r
  obtain ⟨w1, rfl, e1⟩ := vals1 rz
  obtain rfl : w1 = Value.ref (He.ga X.K "face_key") := e1
  obtain ⟨its, rv, pl, hz⟩ := I.list hS
  have lx : xs.length = fs.length := by rw [AtL.length hx, List.length_map]
  have e := each_zip rv hx
  have units := hr.un
  refine sorted_key_data (b := false) (bs := xs.zip fs) (R := Rb X.K H) (fun b => (keyK b.2).data) pl.isList e (AllAlike.of fun b b' => alike_key b.2 b'.2) (Sortable.tuples fun b => ⟨_, _, rfl⟩) (by rw [List.length_zip]; exact Nat.le_trans (Nat.min_le_left _ _) hz)
    (fun b hb => ?_) (ksk_s1 _ _) (fun _ => ksk_l1 _ _) (fun _ => ksk_t1 _ _) (fun v b hR hb h tk kp => ?_) fun out cc h' tk kp _ hD _ eo => ?_
  · have h1 := depth_data (keyK b.2)
    have h2 := keyK_d b.2
    show X.A.units + 2 + (keyK b.2).data.depth < cLine
    omega
  · obtain ⟨as, rd⟩ := Dp.reads I (fcK b.2).data b.1 v hR.2 hR.1
    have hb2 : b.2 ∈ fs := (List.of_mem_zip (a := b.1) (b := b.2) hb).2
    refine raw_face_key c (s := { s with heap := h, toks := tk }) hr.depth (I.kIn.keeps kp) (I.nolimit.keeps kp) ⟨as, PyProof.Rows.Reads.keeps kp rd⟩ (hne _ hb2) fun u s' rw' hn => ?_
    obtain ⟨⟨h2, t2, e2⟩, k2⟩ := rw'
    obtain ⟨as2, rd2⟩ := hn
    have := rn_nil _ _ _ rd2
    subst this
    subst e2
    exact ⟨h2, t2, rfl, k2, rd2⟩
  · obtain ⟨ev, ea⟩ := each_un eo
    have fresh : H (s.heap.objs.size + 1) = none := I.hok.fresh (Nat.le_succ _)
    have pm := List.mergeSort_perm (xs.zip fs) (dataLe false fun b : V × Fc => (keyK b.2).data)
    have pm2 := pm.map (·.2)
    rw [List.map_snd_zip (by omega)] at pm2
    refine ⟨.ref (s.heap.objs.size + 1), _, I.laid (t' := tk) (o := .lst _) kp (Nat.le_succ _) ⟨?_, out, cc, ev, hD⟩, rfl, q _ _ _ pm2 ea fresh⟩
    rw [List.length_map, pm.length_eq, List.length_zip]
    exact Nat.le_trans (Nat.min_le_left _ _) hz
end
end L2.K4
end
section
set_option Elab.async false
set_option linter.all false
set_option maxRecDepth 100000
set_option maxHeartbeats 4000000
/-! Comprehensions over a list of faces. -/
namespace L2.K4
open PySem PySem.Spec PyProof.Rows L2
abbrev g2 (K : PySem.W.Frag) (i j : Nat) : TG := gTup K 2 (gCons (gName i) (gCons (gName j) gNil))
theorem rowsG {K : PySem.W.Frag} {a b : Nat} {te : TE} {vs : List Nat} {σ : L2.St} {H : Hp} {R D : Addr} {ys : List V} {gs : List Fc} {Qd : Hp → Prop} {κ : Type} (hD : H D = none) (hR : H R = some (.lst ys)) (ag : AtL K H (gs.map fcK) ys) (hl : gs.length ≤ 1000) (ks : Fc → κ) (Pd : Addr → κ → V → Hp → Prop)
    (hm : ∀ {D} k v H H', KD D H H' → Pd D k v H → Pd D k v H') (hw : ∀ x y : V, wipe (((wipe σ vs).set a (some x)).set b (some y)) vs = wipe σ vs)
    (step : ∀ f x y H1 zs, f ∈ gs → Ex H H1 → At K H1 (wyK f.1) x → At K H1 (wyK f.2) y → H1 D = some (.lst zs) → ∀ Q2 : V → Hp → Prop, (∀ v H2, Ex H1 H2 → Pd D (ks f) v H2 → Q2 v H2) → te (((wipe σ vs).set a (some x)).set b (some y)) H1 Q2)
    (fin : ∀ H2 zs, Ex H H2 → H2 D = some (.lst zs) → Paired (fun k y => Pd D k y H2) (gs.map ks) zs → Qd H2) :
    ∃ W : Nat → Nat → Hp → Prop, (∃ m, W 0 m (upd H D (.lst []))) ∧ ∀ i m H, W i m H →
      ((Itl K R).stop i H ∧ Qd H) ∨ ((Itl K R).go i H ∧ ∃ Nx : Hp → Prop, (∀ H', Nx H' → ∃ m', m' < m ∧ W (i + 1) m' H') ∧ ∀ x H', (Itl K R).yld i H x H' → g2 K a b x (wipe σ vs) H' fun σ2 H2 => wipe σ2 vs = wipe σ vs ∧ tYes σ2 H2 fun b H3 =>
        if b = true then te σ2 H3 fun y H4 => ∃ acc, H4 D = some (.lst acc) ∧ acc.length < sizeLine ∧ Nx (upd H4 D (.lst (acc ++ [y]))) else Nx H3) := by
  have ly : ys.length = gs.length := by rw [AtL.length ag, List.length_map]
  refine lcG (n := ys.length) (Y := fun i x _ => ys[i]? = some x) hD (fun i => (gs[i]?).map ks) Pd hm (by rw [ly]; exact Nat.lt_of_le_of_lt hl (by decide)) (fun H' e => sw_list (.inl (.inl (e _ _ hR)))) (fun i x H1 zs hi e1 hx hDl Q2 q2 => ?_) fun H2 zs e2 h2 hpp => ?_
  · obtain ⟨kx, g3, g4⟩ := AtL.get (AtL.keep (Ex.tk e1) _ _ ag) hx
    rw [List.getElem?_map] at g3
    obtain ⟨f, hf, rfl⟩ := Option.map_eq_some_iff.mp g3
    obtain ⟨t, x1, y1, rfl, ht, h1, h2⟩ := at_fc g4
    refine ⟨t, _, rfl, ht, rfl, _, _, rfl, _, _, rfl, rfl, hw x1 y1, ?_⟩
    refine step f x1 y1 H1 zs (List.mem_of_getElem? hf) e1 h1 h2 hDl (fun v H2 => Q2 (some v) H2) fun v H2 e2 hp => q2 (some v) H2 e2 ?_
    rw [hf]; exact hp
  · have e : made (fun i => (gs[i]?).map ks) ys.length = gs.map ks := by
      have := made_all (gs.map ks)
      rw [List.length_map] at this
      rw [ly]
      simpa only [List.getElem?_map] using this
    rw [e] at hpp
    exact fin H2 zs e2 h2 hpp
theorem kd_lst {p C dx a : Addr} {fs : List (Str × V)} {xs : List V} {H H' : Hp} (k : KD p H H') (hp : H p = some (.ins C dx fs)) (h : H a = some (.lst xs)) : H' a = some (.lst xs) := k _ _ (by rintro rfl; rw [hp] at h; cases h) h
theorem ND.kd {P : Program} {w : World} {K : PySem.W.Frag} {p C dx d : Addr} {fs : List (Str × V)} {H H' : Hp} {kvs : List (NK × V)} (n : ND P w K H d kvs) (k : KD p H H') (hp : H p = some (.ins C dx fs)) : ND P w K H' d kvs :=
  n.keep (TK.kd k hp) fun o ho => k _ _ (by rintro rfl; obtain ⟨φ, q⟩ := n.isExt; rw [hp] at q; cases q) ho
theorem NumsAt.kd {P : Program} {w : World} {K : PySem.W.Frag} {p C dx d : Addr} {fs : List (Str × V)} {H H' : Hp} {ss : List Wy} (n : NumsAt P w K H d ss) (k : KD p H H') (hp : H p = some (.ins C dx fs)) : NumsAt P w K H' d ss := let ⟨kvs, a, b⟩ := n; ⟨kvs, a.kd k hp, b⟩
theorem KD.put {p : Addr} {o : HO} {H H1 : Hp} (e : Ex H H1) : KD p H (L2.upd H1 p o) := fun a u hn h => by rw [upd_ne hn]; exact e a u h
end L2.K4
end
section
set_option Elab.async false
set_option linter.all false
set_option maxRecDepth 100000
set_option maxHeartbeats 4000000
/-! Faces, made. -/
namespace L2.K4
open PySem PySem.Spec PyProof.Rows L2
section
variable {P : Program} {w : World} {K : PySem.W.Frag} {mg : Str → Option Value} {base : Heap}
abbrev NF : List Str := ["self", "web", "found", "place", "steps", "one", "other", "number", "face", "upper", "lower"]
def spFacesInit (P : Program) (w : World) (K : PySem.W.Frag) : Sp := fun vs H Q _ => ∃ p dx wp W, vs = [.ref p, .ref wp] ∧ H p = some (.ins (He.ga K "Faces") dx []) ∧ WebA P w K H wp W ∧ W.m ≤ 4 ∧ W.n ≤ 4 ∧
  ∀ H' gs, KD p H H' → gs.Perm (facesOf W) → FacesA P w K H' p gs → Q .non H'
theorem ok_faces_init (c : Cf K mg) : Kp P w K mg base 4 (He.ma K (He.ga K "Faces") "__init__") (spFacesInit P w K) := by
  obtain ⟨fd, F⟩ := F_Faces___init__ c
  have nd : NF.Nodup := by decide +kernel
  refine kp_of F (N := NF) (ps := ["self", "web"]) ⟨rfl, rfl, rfl, nd, rfl, by decide +kernel, by decide +kernel⟩ (F.bindsN fun _ _ _ _ _ _ us hl => match us, hl with | [_, _], _ => rfl) (fun vs H Q E h => ?_) (fun cdv A outer s H vs Q E hr h => ?_)
  · obtain ⟨p, dx, wp, W, rfl, _⟩ := h; rfl
  · obtain ⟨p, dx, wp, W, rfl, hp, hW, hm, hn, k⟩ := h
    have cl := (c.cls "Faces" (by decide +kernel)).1
    have hu9 : (A.deeper (envOfC "Faces.__init__" (defScope s_Faces___init__) s.heap.objs.size (He.ma K (He.ga K "Faces") "__init__") cdv)).units + 9 < cLine := by have := hr.units; omega
    refine ⟨_, pss_cons (ps_fld (pv 0) (pv 1) rfl)
      (pss_cons (ps_set (i := 2) nd rfl (.inl rfl) (pe_lst pa_nil))
      (pss_cons (ps_for PassesOwn.never rfl (pi_list (pe_met0 c (C := "Web") (ok_places c) hr (pv 1))) (pg_name (i := 3) nd rfl (.inl rfl))
        (pss_cons (ps_set (i := 4) nd rfl (.inl rfl) (pe_met c (C := "Web") (ok_steps c) hr (pv 1) (pa_cons (pv 3) pa_nil)))
        (pss_one (ps_expr (pe_bm PySem.F.plainAttrs_list PySem.F.slot_list_extend PySem.F.type_list_extend mt_extend (pv 2) (pa_cons (pe_lc (own := [("one", 5), ("other", 6)]) (g := g2 K 5 6) (tt := tYes) (te := tMethR (He.ga K "Faces") "traced" (spTraced P w K) E0 (tVar 0) (tCons (tVar 5) (tCons (tVar 6) tNil))) rfl nd
            (pi_zipK (by rfl) (c.free "zip" (by decide +kernel)) (pa_cons (pv 4) (pa_cons (pe_slice sl_list (pv 4) (po_some pe_int) po_none) pa_nil)) (pk_cons pe_bl pk_nil)) (blkOk_by (N := NF) (sc := defScope s_Faces___init__) (by decide +kernel))
            (fun _ _ _ _ _ => pg_tup rfl (pgs_cons (pg_name (i := 5) nd rfl (.inl rfl)) (pgs_cons (pg_name (i := 6) nd rfl (.inl rfl)) pgs_nil))) (fun _ _ _ _ _ => pts_nil)
            (fun _ _ _ _ _ => pe_met c (C := "Faces") (ok_traced c) hr (pv 0) (pa_cons (pv 5) (pa_cons (pv 6) pa_nil)))) pa_nil))))))
      (pss_cons (ps_fld (pv 0) (pe_callBK (cr_sortFc c (hr.mono (by decide))) (by rfl) (c.free "sorted" (by decide +kernel)) (by decide +kernel) (pa_cons (pv 2) pa_nil) (pk_cons (pe_glob (v := .ref (He.ga K "face_key")) rfl (c.glo "face_key" (by decide +kernel)).1 rfl) pk_nil)) rfl)
      (pss_cons (ps_fld (pv 0) (pe_dcN (ow := [("number", 7), ("face", 8)]) (g := g2 K 7 8) (tt := tYes) (tk := tVar 8) (tv := tVar 7) hu9 rfl nd (pi_enum (by rfl) (c.free "enumerate" (by decide +kernel)) (pa_cons (pe_fld (pv 0) rfl) pa_nil)) (blkOk_by (N := NF) (sc := defScope s_Faces___init__) (by decide +kernel))
          (fun _ _ _ _ _ => pg_tup rfl (pgs_cons (pg_name (i := 7) nd rfl (.inl rfl)) (pgs_cons (pg_name (i := 8) nd rfl (.inl rfl)) pgs_nil))) (fun _ _ _ _ _ => pts_nil) (fun _ _ _ _ _ => pv 8) (fun _ _ _ _ _ => pv 7)) rfl)
      (pss_cons (ps_fld (pv 0) (pe_cal c (ok_numbered_steps c) hr (pa_cons (pe_lc (own := [("upper", 9), ("lower", 10)]) (g := g2 K 9 10) (tt := tYes) (te := tVar 10) rfl nd (pi_list (pe_fld (pv 0) rfl)) (blkOk_by (N := NF) (sc := defScope s_Faces___init__) (by decide +kernel))
          (fun _ _ _ _ _ => pg_tup rfl (pgs_cons (pg_name (i := 9) nd rfl (.inl rfl)) (pgs_cons (pg_name (i := 10) nd rfl (.inl rfl)) pgs_nil))) (fun _ _ _ _ _ => pts_nil) (fun _ _ _ _ _ => pv 10)) pa_nil)) rfl)
      (pss_cons (ps_fld (pv 0) (pe_cal c (ok_numbered_steps c) hr (pa_cons (pe_lc (own := [("upper", 9), ("lower", 10)]) (g := g2 K 9 10) (tt := tYes) (te := tVar 9) rfl nd (pi_list (pe_fld (pv 0) rfl)) (blkOk_by (N := NF) (sc := defScope s_Faces___init__) (by decide +kernel))
          (fun _ _ _ _ _ => pg_tup rfl (pgs_cons (pg_name (i := 9) nd rfl (.inl rfl)) (pgs_cons (pg_name (i := 10) nd rfl (.inl rfl)) pgs_nil))) (fun _ _ _ _ _ => pts_nil) (fun _ _ _ _ _ => pv 9)) pa_nil)) rfl)
      (pss_cons (ps_fld (pv 0) (pe_lc (own := [("upper", 9), ("lower", 10)]) (g := g2 K 9 10) (tt := tYes) (te := tMethR (He.ga K "Faces") "neighbors" (spNeigh P w K) E0 (tVar 0) (tCons (tVar 9) (tCons (tFld K (tVar 0) "numbers_above") tNil))) rfl nd (pi_list (pe_fld (pv 0) rfl)) (blkOk_by (N := NF) (sc := defScope s_Faces___init__) (by decide +kernel))
          (fun _ _ _ _ _ => pg_tup rfl (pgs_cons (pg_name (i := 9) nd rfl (.inl rfl)) (pgs_cons (pg_name (i := 10) nd rfl (.inl rfl)) pgs_nil))) (fun _ _ _ _ _ => pts_nil) (fun _ _ _ _ _ => pe_met c (C := "Faces") (ok_neighbors c) hr (pv 0) (pa_cons (pv 9) (pa_cons (pe_fld (pv 0) rfl) pa_nil)))) rfl)
      (pss_one (ps_fld (pv 0) (pe_lc (own := [("upper", 9), ("lower", 10)]) (g := g2 K 9 10) (tt := tYes) (te := tMethR (He.ga K "Faces") "neighbors" (spNeigh P w K) E0 (tVar 0) (tCons (tVar 10) (tCons (tFld K (tVar 0) "numbers_below") tNil))) rfl nd (pi_list (pe_fld (pv 0) rfl)) (blkOk_by (N := NF) (sc := defScope s_Faces___init__) (by decide +kernel))
          (fun _ _ _ _ _ => pg_tup rfl (pgs_cons (pg_name (i := 9) nd rfl (.inl rfl)) (pgs_cons (pg_name (i := 10) nd rfl (.inl rfl)) pgs_nil))) (fun _ _ _ _ _ => pts_nil) (fun _ _ _ _ _ => pe_met c (C := "Faces") (ok_neighbors c) hr (pv 0) (pa_cons (pv 10) (pa_cons (pe_fld (pv 0) rfl) pa_nil)))) rfl))))))))), ?_⟩
    -- all that stood, but the object
    have B0 : Ex (er p H) H := ex_er
    have hBp : (er p H) p = none := er_self
    have WB := hW.kd kd_erase hp
    have kB : ∀ H', Ex (er p H) H' → KD p H H' := fun H' e x o hn hx => e x o (by rw [er_ne hn]; exact hx)
    generalize hBd : er p H = B at B0 hBp WB kB
    refine ⟨_, rfl, _, rfl, p, _, dx, _, rfl, hp, cl, c.noat ("Faces", "faces_web") (by decide +kernel), by decide, ?_⟩
    generalize hH1 : upd H p _ = H1
    have e1 : Ex B H1 := by rw [← hH1]; exact Ex.mut B0 hBp
    have hp1 : H1 p = some (.ins (He.ga K "Faces") dx [("faces_web", .ref wp)]) := by rw [← hH1, upd_same]; rfl
    refine ⟨by show 0 ≤ sizeLine; decide, fun l hl => ?_⟩
    have nlp : l ≠ p := (ne_of_none hp1 hl).symm
    have hBl : B l = none := e1.free hl
    generalize hH2 : upd H1 l (.lst []) = H2
    have e12 : Ex H1 H2 := by rw [← hH2]; exact Ex.laid hl
    have hl2 : H2 l = some (.lst []) := by rw [← hH2]; exact upd_same
    have WA2 := WB.ex (e1.trans e12)
    obtain ⟨wdx, ol, nl, cp, d, kvs, hwp, _⟩ := id WB
    refine ⟨_, rfl, wp, wdx, _, rfl, (e1.trans e12) _ _ hwp, rfl, wp, W, rfl, WA2, fun H3 pl xs e3 hpl hpl3 at3 => ⟨pl, rfl, ⟨_, .inl (.inl hpl3)⟩, ?_⟩⟩
    -- what stands through the loop
    have B33 : Ex (er l H3) H3 := ex_er
    have hB3l : (er l H3) l = none := er_self
    have npl : pl ≠ l := (ne_of_none hl2 hpl).symm
    have hp3 : (er l H3) p = some (.ins (He.ga K "Faces") dx [("faces_web", .ref wp)]) := by rw [er_ne nlp.symm]; exact (e12.trans e3) _ _ hp1
    have hpl3' : (er l H3) pl = some (.lst xs) := by rw [er_ne npl]; exact hpl3
    have eB3 : Ex B (er l H3) := fun x o hx => by rw [er_ne (ne_of_none hx hBl)]; exact ((e1.trans e12).trans e3) x o hx
    have WA3 := WB.ex eB3
    have hl3 : H3 l = some (.lst []) := e3 _ _ hl2
    have at3' : AtL K (er l H3) ((webPls W).map plK) xs := AtL.ofGet (by rw [AtL.length at3]) fun i k x h1 h2 => by
      obtain ⟨k', q1, q2⟩ := AtL.get at3 h2
      rw [h1] at q1
      cases q1
      exact AtD.of q2 hl3
    generalize hB3 : er l H3 = B3 at B33 hB3l hp3 hpl3' eB3 WA3 at3'
    have hwp3 := eB3 _ _ hwp
    have lx : xs.length = (webPls W).length := by rw [AtL.length at3, List.length_map]
    have lx30 := pls_len hm hn
    refine forG (n := xs.length) (Y := fun i x _ => xs[i]? = some x)
      (fun i σ' H' => (∃ o3 o4, σ' = [some (.ref p), some (.ref wp), some (.ref l), o3, o4, none, none, none, none, none, none]) ∧ Ex B3 H' ∧ ∃ acc, H' l = some (.lst acc) ∧ AtL K H' ((((webPls W).take i).flatMap (stF W)).map fcK) acc ∧ acc.length ≤ 3 * i)
      ⟨⟨none, none, rfl⟩, B33, [], hl3, by rw [List.take_zero]; exact AtL.nil, Nat.zero_le _⟩ (fun i σ' H' _ q => sw_list (.inl (.inl (q.2.1 _ _ hpl3')))) (fun i x σ' H' H'' hi q ex hx => ?_) fun σ' H' q => ?_
    · obtain ⟨⟨o3, o4, rfl⟩, e, acc, hacc, aat, alen⟩ := q
      have e' := e.trans ex
      obtain ⟨kx, g1, g2⟩ := AtL.get (AtL.keep (Ex.tk e') _ _ at3') hx
      rw [List.getElem?_map] at g1
      obtain ⟨q, hq, rfl⟩ := Option.map_eq_some_iff.mp g1
      have vq : W.v q = true := mem_pls.mp (List.mem_of_getElem? hq)
      have hacc' := ex _ _ hacc
      refine ⟨_, rfl, wp, wdx, _, rfl, e' _ _ hwp3, rfl, _, rfl, wp, x, W, q, rfl, WA3.ex e', g2, vq, fun H4 sl ys e4 hsl hsl4 at4 => ?_⟩
      have hacc4 := e4 _ _ hacc'
      refine ⟨_, rfl, .inl ⟨rfl, _, .inl (.inl hacc4)⟩, _, rfl, _, rfl, 1, rfl, sl, ys, rfl, .inl (.inl hsl4), fun s2 hs2 => ⟨sl, s2, ys, _, rfl, rfl, .inl (.inl (Ex.laid hs2 _ _ hsl4)), .inl (.inl upd_same), fun D hD => ?_⟩⟩
      have cut := cutV_tail ys
      have lys : ys.length = (W.wst q).length := by rw [AtL.length at4, List.length_map]
      have nst : min ys.length (cutV ys (some 1) none).length = (stF W q).length := by
        unfold stF
        rw [cut, List.length_map]
        unfold K34.steps
        rw [List.length_zip, List.length_tail, List.length_tail, lys]
      have stl := stF_len W q
      have e5 : Ex H4 (upd H4 s2 (.lst (cutV ys (some 1) none))) := Ex.laid hs2
      have hs2at : (upd H4 s2 (.lst (cutV ys (some 1) none))) s2 = some (.lst (cutV ys (some 1) none)) := upd_same
      generalize upd H4 s2 (.lst (cutV ys (some 1) none)) = H5 at e5 hs2at hD
      have eB5 : Ex B3 H5 := (e'.trans e4).trans e5
      refine lcG (n := min ys.length (cutV ys (some 1) none).length) (Y := fun i v H' => ∃ T x y, v = .ref T ∧ H' T = some (.tup [x, y]) ∧ ys[i]? = some x ∧ (cutV ys (some 1) none)[i]? = some y) hD (fun i => ((stF W q)[i]?).map fcK) (AtD K) AtD.mono (by rw [nst]; exact Nat.lt_of_le_of_lt stl (by decide))
        (fun H' e => sw_zip (.inl (.inl (e _ _ (e5 _ _ hsl4)))) (.inl (.inl (e _ _ hs2at)))) (fun j v H6 zs hj e6 hv hDl Q2 q2 => ?_) fun H6 ys2 e6 hy2 hpp => ?_
      · obtain ⟨T, x1, y1, rfl, hT, hx1, hy1⟩ := hv
        rw [cut, List.getElem?_tail] at hy1
        have e46 := e5.trans e6
        have at6 := AtL.keep (Ex.tk e46) _ _ at4
        obtain ⟨k1, a1, a2⟩ := AtL.get at6 hx1
        obtain ⟨k2, b1, b2⟩ := AtL.get at6 hy1
        rw [List.getElem?_map] at a1 b1
        obtain ⟨x, hx2, rfl⟩ := Option.map_eq_some_iff.mp a1
        obtain ⟨y, hy2, rfl⟩ := Option.map_eq_some_iff.mp b1
        have hst : (x, y) ∈ K34.steps (W.wst q) := K34.steps_get hx2 hy2
        obtain ⟨mx, my⟩ := steps_mem hst
        have T0 := (fcOf_ok hst).tr
        have eB6 := eB5.trans e6
        refine ⟨T, _, rfl, .inl (.inl hT), rfl, _, _, rfl, _, _, rfl, rfl, rfl, ?_⟩
        refine ⟨_, rfl, p, dx, _, rfl, eB6 _ _ hp3, rfl, _, rfl, _, rfl, p, dx, _, wp, x1, y1, W, q, x, y, _, _, rfl, eB6 _ _ hp3, rfl, rfl, WA3.ex eB6, hm, hn, a2, b2, (wst_v mx).2, (wst_v my).2, T0, fun H7 r e7 ar => q2 (some r) H7 e7 ?_⟩
        have hj2 : (stF W q)[j]? = some (fcOf W q x y) := by
          unfold stF
          have : (K34.steps (W.wst q))[j]? = some (x, y) := by
            unfold K34.steps
            rw [List.getElem?_zip_eq_some]
            exact ⟨hx2, by rw [List.getElem?_tail]; exact hy2⟩
          rw [List.getElem?_map, this]; rfl
        rw [hj2]
        exact AtD.of ar (e7 _ _ hDl)
      · have e : made (fun i => ((stF W q)[i]?).map fcK) (min ys.length (cutV ys (some 1) none).length) = (stF W q).map fcK := by
          have := made_all ((stF W q).map fcK)
          rw [List.length_map] at this
          rw [nst]
          simpa only [List.getElem?_map] using this
        rw [e] at hpp
        have at6 := AtD.all hpp
        have hacc6 := (e5.trans e6) _ _ hacc4
        have aat6 := AtL.keep (Ex.tk (ex.trans (e4.trans (e5.trans e6)))) _ _ aat
        have l6 : ys2.length = (stF W q).length := by rw [AtL.length at6, List.length_map]
        have tk := TK.lst (K := K) (o := .lst (acc ++ ys2)) hacc6
        refine ⟨l, D, acc, ys2, rfl, rfl, hacc6, hy2, Nat.le_trans (show acc.length + ys2.length ≤ 100 by omega) (by decide), ⟨_, _, rfl⟩, Ex.mut (eB5.trans e6) hB3l, _, upd_same, ?_, by rw [List.length_append]; omega⟩
        rw [List.take_add_one, hq, List.flatMap_append, List.map_append]
        simp only [Option.toList_some, List.flatMap_cons, List.flatMap_nil, List.append_nil]
        exact (AtL.keep tk _ _ aat6).append (AtL.keep tk _ _ at6)
    · obtain ⟨⟨o3, o4, rfl⟩, e, acc, hacc, aat, alen⟩ := q
      rw [lx, List.take_length] at aat
      have aat : AtL K H' ((facesOf W).map fcK) acc := aat
      have flen : (facesOf W).length = acc.length := by rw [AtL.length aat, List.length_map]
      have hp4 := e _ _ hp3
      refine ⟨_, rfl, l, acc, facesOf W, rfl, rfl, .inl (.inl hacc), aat, fun f hf => (face_ok hm hn hf).1, fun R ys gs pm ag hR => ?_⟩
      have glen : gs.length ≤ 1000 := by rw [pm.length_eq]; omega
      have gok : ∀ f ∈ gs, f.1 ≠ [] ∧ SideOk f.1 ∧ SideOk f.2 := fun f hf => face_ok hm hn (pm.mem_iff.mp hf)
      have eR : Ex H' (upd H' R (.lst ys)) := Ex.laid hR
      have hRat : (upd H' R (.lst ys)) R = some (.lst ys) := upd_same
      generalize upd H' R (.lst ys) = H5 at eR hRat
      refine ⟨_, rfl, p, _, dx, _, rfl, eR _ _ hp4, cl, c.noat ("Faces", "rows") (by decide +kernel), by show 1 < 1000; decide, ?_⟩
      generalize hH6 : upd H5 p _ = H6
      have k6 : KD p H5 H6 := by rw [← hH6]; exact KD.upd
      have hp6 : H6 p = some (.ins (He.ga K "Faces") dx [("faces_web", .ref wp), ("rows", .ref R)]) := by rw [← hH6, upd_same]; rfl
      have hp5 := eR _ _ hp4
      have R6 := kd_lst k6 hp5 hRat
      have ag6 := AtL.keep (TK.kd (K := K) k6 hp5) _ _ (AtL.keep (Ex.tk eR) _ _ ag)
      have eB6 : Ex B H6 := by rw [← hH6]; exact Ex.mut ((eB3.trans e).trans eR) hBp
      have ly : ys.length = gs.length := by rw [AtL.length ag, List.length_map]
      -- own_numbers
      refine ⟨_, rfl, p, _, dx, _, _, rfl, hp6, cl, c.noat ("Faces", "rows") (by decide +kernel), rfl, R, _, rfl, .inl (.inl R6), fun D hD hDs => ?_⟩
      refine dcG (n := ys.length) (Y := fun i x H' => ∃ U y, x = V.ref U ∧ H' U = some (.tup [.int (i : Nat), y]) ∧ ys[i]? = some y) hD hDs (fun j => (gs[j]?).map fun f => (fcK f, V.int (j : Nat))) (fun j kk v hj => ?_) (by rw [ly]; exact Nat.lt_of_le_of_lt glen (by decide)) (fun H3 e3 => sw_enum (.inl (.inl (e3 _ _ R6)))) (fun j x H7 hj e7 hxj Q2 q2 => ?_) fun H7 e7 nd7 => ?_
      · obtain ⟨f, _, e⟩ := Option.map_eq_some_iff.mp hj
        cases e
        exact ⟨⟨_, rfl⟩, Nat.le_trans (fcK_d f) (by decide)⟩
      · obtain ⟨U, y, rfl, hU, hy⟩ := hxj
        obtain ⟨kx, g3, g4⟩ := AtL.get (AtL.keep (Ex.tk e7) _ _ ag6) hy
        rw [List.getElem?_map] at g3
        obtain ⟨f, hf, rfl⟩ := Option.map_eq_some_iff.mp g3
        refine ⟨U, _, rfl, .inl (.inl hU), rfl, _, _, rfl, _, _, rfl, rfl, rfl, _, rfl, _, rfl, q2 (some (y, .int (j : Nat))) H7 Ex.refl ?_⟩
        rw [hf]
        exact ⟨g4, rfl⟩
      · have hp7 := e7 _ _ hp6
        refine ⟨_, rfl, p, _, dx, _, rfl, hp7, cl, c.noat ("Faces", "own_numbers") (by decide +kernel), by show 2 < 1000; decide, ?_⟩
        generalize hH8 : upd H7 p _ = H8
        have k8 : KD p H7 H8 := by rw [← hH8]; exact KD.upd
        have hp8 : H8 p = some (.ins (He.ga K "Faces") dx [("faces_web", .ref wp), ("rows", .ref R), ("own_numbers", .ref D)]) := by rw [← hH8, upd_same]; rfl
        have R8 := kd_lst k8 hp7 (e7 _ _ R6)
        have ag8 := AtL.keep (TK.kd (K := K) k8 hp7) _ _ (AtL.keep (Ex.tk e7) _ _ ag6)
        have nd8 := nd7.kd k8 hp7
        have eB8 : Ex B H8 := by rw [← hH8]; exact Ex.mut (eB6.trans e7) hBp
        -- numbers_above
        refine ⟨_, rfl, p, _, dx, _, _, rfl, hp8, cl, c.noat ("Faces", "rows") (by decide +kernel), rfl, R, rfl, ⟨_, .inl (.inl R8)⟩, fun D2 hD2 => ?_⟩
        refine rowsG hD2 R8 ag8 glen (fun f => wyK f.2) (AtD K) AtD.mono (fun _ _ => rfl) (fun f x y H9 zs hf e9 hx hy hDl Q2 q2 => ⟨_, rfl, q2 y H9 Ex.refl (AtD.of hy hDl)⟩) fun H9 zs e9 hz9 hpp => ?_
        refine ⟨D2, zs, gs.map (·.2), rfl, hz9, by rw [List.map_map]; exact AtD.all hpp, by rw [List.length_map]; exact glen, fun a ha => by obtain ⟨f, hf, rfl⟩ := List.mem_map.mp ha; exact (gok f hf).2.2, fun H10 dA e10 nA => ?_⟩
        have e810 := e9.trans e10
        have hp10 := e810 _ _ hp8
        refine ⟨_, rfl, p, _, dx, _, rfl, hp10, cl, c.noat ("Faces", "numbers_above") (by decide +kernel), by show 3 < 1000; decide, ?_⟩
        generalize hH11 : upd H10 p _ = H11
        have k11 : KD p H10 H11 := by rw [← hH11]; exact KD.upd
        have hp11 : H11 p = some (.ins (He.ga K "Faces") dx [("faces_web", .ref wp), ("rows", .ref R), ("own_numbers", .ref D), ("numbers_above", .ref dA)]) := by rw [← hH11, upd_same]; rfl
        have R11 := kd_lst k11 hp10 (e810 _ _ R8)
        have ag11 := AtL.keep (TK.kd (K := K) k11 hp10) _ _ (AtL.keep (Ex.tk e810) _ _ ag8)
        have nd11 := (nd8.ex e810).kd k11 hp10
        have nA11 := nA.kd k11 hp10
        have eB11 : Ex B H11 := by rw [← hH11]; exact Ex.mut (eB8.trans e810) hBp
        -- numbers_below
        refine ⟨_, rfl, p, _, dx, _, _, rfl, hp11, cl, c.noat ("Faces", "rows") (by decide +kernel), rfl, R, rfl, ⟨_, .inl (.inl R11)⟩, fun D3 hD3 => ?_⟩
        refine rowsG hD3 R11 ag11 glen (fun f => wyK f.1) (AtD K) AtD.mono (fun _ _ => rfl) (fun f x y H9 zs hf e9 hx hy hDl Q2 q2 => ⟨_, rfl, q2 x H9 Ex.refl (AtD.of hx hDl)⟩) fun H12 zs e12' hz12 hpp => ?_
        refine ⟨D3, zs, gs.map (·.1), rfl, hz12, by rw [List.map_map]; exact AtD.all hpp, by rw [List.length_map]; exact glen, fun a ha => by obtain ⟨f, hf, rfl⟩ := List.mem_map.mp ha; exact (gok f hf).2.1, fun H13 dB e13 nB => ?_⟩
        have e1113 := e12'.trans e13
        have hp13 := e1113 _ _ hp11
        refine ⟨_, rfl, p, _, dx, _, rfl, hp13, cl, c.noat ("Faces", "numbers_below") (by decide +kernel), by show 4 < 1000; decide, ?_⟩
        generalize hH14 : upd H13 p _ = H14
        have k14 : KD p H13 H14 := by rw [← hH14]; exact KD.upd
        have hp14 : H14 p = some (.ins (He.ga K "Faces") dx [("faces_web", .ref wp), ("rows", .ref R), ("own_numbers", .ref D), ("numbers_above", .ref dA), ("numbers_below", .ref dB)]) := by rw [← hH14, upd_same]; rfl
        have R14 := kd_lst k14 hp13 (e1113 _ _ R11)
        have ag14 := AtL.keep (TK.kd (K := K) k14 hp13) _ _ (AtL.keep (Ex.tk e1113) _ _ ag11)
        have nd14 := (nd11.ex e1113).kd k14 hp13
        have nA14 : NumsAt P w K H14 dA (gs.map fun f : Fc => f.2) := (nA11.ex e1113).kd k14 hp13
        have nB14 := nB.kd k14 hp13
        have eB14 : Ex B H14 := by rw [← hH14]; exact Ex.mut (eB11.trans e1113) hBp
        -- ahead_numbers
        refine ⟨_, rfl, p, _, dx, _, _, rfl, hp14, cl, c.noat ("Faces", "rows") (by decide +kernel), rfl, R, rfl, ⟨_, .inl (.inl R14)⟩, fun D4 hD4 => ?_⟩
        refine rowsG hD4 R14 ag14 glen id (LsD fun (f : Fc) xs _ => ∃ ns : List Int, xs = ns.map V.int ∧ ns.length ≤ 12 ∧ ∀ z ∈ ns, Shares (gs.map (·.2)) f.1 z) (LsD.mono fun _ _ _ _ _ h => h) (fun _ _ => rfl) (fun f x y H15 zs hf e15 hx hy hDl Q2 q2 => ?_) fun H15 zs e15 hz15 hpp => ?_
        · refine ⟨_, rfl, p, dx, _, rfl, e15 _ _ hp14, rfl, _, rfl, _, rfl, p, _, dx, _, _, rfl, e15 _ _ hp14, cl, c.noat ("Faces", "numbers_above") (by decide +kernel), rfl, p, x, dA, f.1, gs.map (fun f : Fc => f.2), rfl, hx, (gok f hf).2.1, nA14.ex e15, fun H16 l2 ns e16 hl20 hl2 hsh hlen => q2 (.ref l2) H16 e16 ⟨l2, _, rfl, fun q => ?_, hl2, ns, rfl, hlen, hsh⟩⟩
          rw [q, hDl] at hl20; cases hl20
        · obtain ⟨rs, ezs, hrl, hrs⟩ := LsD.all hpp
          rw [List.map_id] at hrl hrs
          have hp15 := e15 _ _ hp14
          refine ⟨_, rfl, p, _, dx, _, rfl, hp15, cl, c.noat ("Faces", "ahead_numbers") (by decide +kernel), by show 5 < 1000; decide, ?_⟩
          generalize hH16 : upd H15 p _ = H16
          have k16 : KD p H15 H16 := by rw [← hH16]; exact KD.upd
          have hp16 : H16 p = some (.ins (He.ga K "Faces") dx [("faces_web", .ref wp), ("rows", .ref R), ("own_numbers", .ref D), ("numbers_above", .ref dA), ("numbers_below", .ref dB), ("ahead_numbers", .ref D4)]) := by rw [← hH16, upd_same]; rfl
          have R16 := kd_lst k16 hp15 (e15 _ _ R14)
          have ag16 := AtL.keep (TK.kd (K := K) k16 hp15) _ _ (AtL.keep (Ex.tk e15) _ _ ag14)
          have nd16 := (nd14.ex e15).kd k16 hp15
          have nB16 : NumsAt P w K H16 dB (gs.map fun f : Fc => f.1) := (nB14.ex e15).kd k16 hp15
          have G16 := kd_lst k16 hp15 (hz15.trans (by rw [ezs]))
          have rs16 : ∀ (i : Nat) f r, gs[i]? = some f → rs[i]? = some r → ∃ ns : List Int, H16 r = some (.lst (ns.map V.int)) ∧ ns.length ≤ 12 ∧ ∀ z ∈ ns, Shares (gs.map (·.2)) f.1 z := fun i f r h1 h2 => by
            obtain ⟨_, xs, a1, ns, rfl, a2, a3⟩ := hrs i f r h1 h2
            exact ⟨ns, kd_lst k16 hp15 a1, a2, a3⟩
          have eB16 : Ex B H16 := by rw [← hH16]; exact Ex.mut (eB14.trans e15) hBp
          -- behind_numbers
          refine ⟨_, rfl, p, _, dx, _, _, rfl, hp16, cl, c.noat ("Faces", "rows") (by decide +kernel), rfl, R, rfl, ⟨_, .inl (.inl R16)⟩, fun D5 hD5 => ?_⟩
          refine rowsG hD5 R16 ag16 glen id (LsD fun (f : Fc) xs _ => True) (LsD.mono fun _ _ _ _ _ h => h) (fun _ _ => rfl) (fun f x y H17 zs hf e17 hx hy hDl Q2 q2 => ?_) fun H17 zs e17 hz17 hpp => ?_
          · refine ⟨_, rfl, p, dx, _, rfl, e17 _ _ hp16, rfl, _, rfl, _, rfl, p, _, dx, _, _, rfl, e17 _ _ hp16, cl, c.noat ("Faces", "numbers_below") (by decide +kernel), rfl, p, y, dB, f.2, gs.map (fun f : Fc => f.1), rfl, hy, (gok f hf).2.2, nB16.ex e17, fun H18 l2 ns e18 hl20 hl2 hsh hlen => q2 (.ref l2) H18 e18 ⟨l2, _, rfl, fun q => ?_, hl2, trivial⟩⟩
            rw [q, hDl] at hl20; cases hl20
          · have hp17 := e17 _ _ hp16
            refine ⟨_, rfl, p, _, dx, _, rfl, hp17, cl, c.noat ("Faces", "behind_numbers") (by decide +kernel), by show 6 < 1000; decide, ?_⟩
            generalize hH18 : upd H17 p _ = H18
            have k18 : KD p H17 H18 := by rw [← hH18]; exact KD.upd
            have hp18 : H18 p = some (.ins (He.ga K "Faces") dx (facFs wp R D dA dB D4 D5)) := by rw [← hH18, upd_same]; rfl
            have eB18 : Ex B H18 := by rw [← hH18]; exact Ex.mut (eB16.trans e17) hBp
            have nd18 := (nd16.ex e17).kd k18 hp17
            refine k H18 gs (kB H18 eB18) pm ⟨dx, wp, R, D, dA, dB, D4, D5, rs, hp18, ⟨ys, kd_lst k18 hp17 (e17 _ _ R16), AtL.keep (TK.kd (K := K) k18 hp17) _ _ (AtL.keep (Ex.tk e17) _ _ ag16)⟩, ⟨_, nd18, fun q hq => ?_, fun f hf => ?_⟩, kd_lst k18 hp17 (e17 _ _ G16), hrl, fun i f r h1 h2 => ?_⟩
            · rcases mem_updK hq with hq | hq
              · unfold made at hq
                obtain ⟨i, _, hi⟩ := List.mem_filterMap.mp hq
                obtain ⟨f, hf, rfl⟩ := Option.map_eq_some_iff.mp hi
                exact ⟨i, f, rfl, hf⟩
              · cases hq
            · refine updK_has (.inr ?_)
              obtain ⟨i, hi⟩ := List.mem_iff_getElem?.mp hf
              have li := (List.getElem?_eq_some_iff.mp hi).1
              refine List.mem_map.mpr ⟨(fcK f, .int (i : Nat)), ?_, rfl⟩
              unfold made
              exact List.mem_filterMap.mpr ⟨i, List.mem_range.mpr (by omega), by rw [hi]; rfl⟩
            · obtain ⟨ns, a1, a2⟩ := rs16 i f r h1 h2
              exact ⟨ns, kd_lst k18 hp17 (e17 _ _ a1), a2⟩
end
end L2.K4
end
section
set_option Elab.async false
set_option linter.all false
set_option maxRecDepth 100000
set_option maxHeartbeats 4000000
/-! Faces asked. -/
namespace L2.K4
open PySem PySem.Spec PyProof.Rows L2
theorem made_map {κ ι : Type} (f : Nat → Option κ) (g : κ → ι) (n : Nat) : made (fun i => (f i).map g) n = (made f n).map g := by
  unfold made; rw [List.map_filterMap]
section
variable {P : Program} {w : World} {K : PySem.W.Frag} {mg : Str → Option Value} {base : Heap}
def spNumOf (P : Program) (w : World) (K : PySem.W.Frag) : Sp := fun vs H Q _ => ∃ p v gs f, vs = [.ref p, v] ∧ FacesA P w K H p gs ∧ At K H (fcK f) v ∧ f ∈ gs ∧ f.1.length ≤ 100 ∧ f.2.length ≤ 100 ∧ ∀ (H' : Hp) (n : Nat), Ex H H' → gs[n]? = some f → Q (.int n) H'
theorem fcK_d8 (f : Fc) : (fcK f).depth ≤ 8 := Nat.le_trans (fcK_d f) (by decide)
theorem ok_number_of (c : Cf K mg) : Kp P w K mg base 3 (He.ma K (He.ga K "Faces") "number_of") (spNumOf P w K) := by
  obtain ⟨fd, F⟩ := F_Faces_number_of c
  refine kp_of F (N := ["self", "face"]) (ps := ["self", "face"]) ⟨rfl, rfl, rfl, by decide +kernel, rfl, by decide +kernel, by decide +kernel⟩ (F.bindsN fun _ _ _ _ _ _ us hl => match us, hl with | [_, _], _ => rfl) (fun vs H Q E h => ?_) (fun cdv A outer s H vs Q E hr h => ?_)
  · obtain ⟨p, v, gs, f, rfl, _⟩ := h; rfl
  · obtain ⟨p, v, gs, f, rfl, ⟨dx, wp, R, N, A', B, G, L, rs, fa⟩, hv, hf, l1, l2, k⟩ := h
    have cl := (c.cls "Faces" (by decide +kernel)).1
    have na := c.noat ("Faces", "own_numbers") (by decide +kernel)
    have hu9 : (A.deeper (envOfC "Faces.number_of" (defScope s_Faces_number_of) s.heap.objs.size (He.ma K (He.ga K "Faces") "number_of") cdv)).units + 9 < cLine := by have := hr.units; omega
    obtain ⟨kvs, n1, n2, n3⟩ := fa.nums
    obtain ⟨u, hu⟩ := mem_valV (n3 f hf)
    obtain ⟨n, g, e1, e2⟩ := n2 _ (valV_mem hu)
    injection e1 with e3 e4
    have e5 := fcK_inj e3
    subst e5 e4
    refine ⟨_, pss_cons (ps_if (PW.pt (pw_or (pt_not (pt_val (pe_cal c (ok_is_face_tuple c) hr (pa_cons (pv 1) pa_nil)))) (pw_or1 (pt_cmpR (op_notInN hu9) (pv 1) (pe_fld (pv 0) rfl) (by rfl))))) (pss_one ps_never) pss_nil)
      (pss_one (ps_ret (pe_getN hu9 (pe_fld (pv 0) rfl) (pv 1) (fun _ _ => rfl)))), ?_⟩
    refine ⟨_, rfl, v, f, rfl, hv, l1, l2, fun H1 e => ⟨true, rfl, iteF ?_⟩⟩
    refine ⟨_, rfl, _, rfl, p, _, dx, _, _, rfl, e _ _ fa.at_, cl, na, rfl, N, kvs, fcK f, rfl, n1.ex e, At.keep (Ex.tk e) _ _ hv, ⟨_, rfl⟩, fcK_d8 f, false, congrArg V.bl (by rw [hu]; rfl), iteF ?_⟩
    exact ⟨_, rfl, p, _, dx, _, _, rfl, e _ _ fa.at_, cl, na, rfl, _, rfl, N, kvs, fcK f, _, rfl, n1.ex e, At.keep (Ex.tk e) _ _ hv, ⟨_, rfl⟩, fcK_d8 f, hu, k H1 n e e2⟩
def spAhead (P : Program) (w : World) (K : PySem.W.Frag) : Sp := fun vs H Q _ => ∃ p v gs f, vs = [.ref p, v] ∧ FacesA P w K H p gs ∧ At K H (fcK f) v ∧ f ∈ gs ∧ f.1.length ≤ 100 ∧ f.2.length ≤ 100 ∧
  ∀ (H' : Hp) (l : Addr) (xs : List V) (hs : List Fc), Ex H H' → H l = none → H' l = some (.lst xs) → AtL K H' (hs.map fcK) xs → hs.length ≤ 12 → (∀ g ∈ hs, g ∈ gs ∧ ∃ z, z ∈ K34.steps f.1 ∧ z ∈ K34.steps g.2) → Q (.ref l) H'
theorem ok_directly_ahead (c : Cf K mg) : Kp P w K mg base 4 (He.ma K (He.ga K "Faces") "directly_ahead") (spAhead P w K) := by
  obtain ⟨fd, F⟩ := F_Faces_directly_ahead c
  have nd : (["self", "face", "number"] : List Str).Nodup := by decide +kernel
  refine kp_of F (N := ["self", "face", "number"]) (ps := ["self", "face"]) ⟨rfl, rfl, rfl, nd, rfl, by decide +kernel, by decide +kernel⟩ (F.bindsN fun _ _ _ _ _ _ us hl => match us, hl with | [_, _], _ => rfl) (fun vs H Q E h => ?_) (fun cdv A outer s H vs Q E hr h => ?_)
  · obtain ⟨p, v, gs, f, rfl, _⟩ := h; rfl
  · obtain ⟨p, v, gs, f, rfl, fA, hv, hf, l1, l2, k⟩ := h
    obtain ⟨dx, wp, R, N, A', B, G, L, rs, fa⟩ := id fA
    have cl := (c.cls "Faces" (by decide +kernel)).1
    refine ⟨_, pss_one (ps_ret (pe_lc (own := [("number", 2)]) (g := gName 2) (tt := tYes) (te := tOp (rIxL K) (tFld K (tVar 0) "rows") (tVar 2)) rfl nd (pi_list (pe_ix ix_list (pe_fld (pv 0) rfl) (pe_met c (C := "Faces") (ok_number_of c) hr (pv 0) (pa_cons (pv 1) pa_nil)) (fun _ _ => rfl))) (blkOk_by (N := ["self", "face", "number"]) (sc := defScope s_Faces_directly_ahead) (by decide +kernel))
      (fun _ _ _ _ _ => pg_name (i := 2) nd rfl (Or.inl rfl)) (fun _ _ _ _ _ => pts_nil) (fun _ _ _ _ _ => pe_ix ix_list (pe_fld (pv 0) rfl) (pv 2) (fun _ _ => rfl)))), ?_⟩
    obtain ⟨gG, rl, rr⟩ := fa.ahead
    obtain ⟨ys, hR, ag⟩ := fa.rows
    refine ⟨_, rfl, p, _, dx, _, _, rfl, fa.at_, cl, c.noat ("Faces", "ahead_numbers") (by decide +kernel), rfl, _, rfl, p, dx, _, rfl, fa.at_, rfl, _, rfl, p, v, gs, f, rfl, fA, hv, hf, l1, l2, fun H1 n e1 hn => ?_⟩
    have hnl : n < rs.length := by rw [rl]; exact (List.getElem?_eq_some_iff.mp hn).1
    have hrn : rs[n]? = some rs[n] := List.getElem?_eq_getElem hnl
    obtain ⟨ns, q1, q2, q3⟩ := rr n f _ hn hrn
    refine ⟨G, _, _, _, rfl, rfl, .inl (.inl (e1 _ _ gG)), atI_nat (by rw [List.getElem?_map, hrn]; rfl), rs[n], rfl, ⟨_, .inl (.inl (e1 _ _ q1))⟩, fun D hD => ?_⟩
    let pick : Nat → Option Fc := fun i => (ns[i]?).bind fun z => gs[z.toNat]?
    refine lcG (n := (ns.map V.int).length) (Y := fun i x _ => (ns.map V.int)[i]? = some x) hD (fun i => (pick i).map fcK) (AtD K) AtD.mono (by rw [List.length_map]; exact Nat.lt_of_le_of_lt q2 (by decide)) (fun H' e => sw_list (.inl (.inl (e _ _ (e1 _ _ q1))))) (fun i x H2 zs hi e2 hx hDl Q2 k2 => ?_) fun H2 zs e2 h2 hpp => ?_
    · rw [List.getElem?_map] at hx
      obtain ⟨z, hz, rfl⟩ := Option.map_eq_some_iff.mp hx
      obtain ⟨m, b, st, rfl, hm, _, _⟩ := q3 z (List.mem_of_getElem? hz)
      rw [List.getElem?_map] at hm
      obtain ⟨g, hg, rfl⟩ := Option.map_eq_some_iff.mp hm
      have e12 := e1.trans e2
      obtain ⟨y, hy1, hy2⟩ := AtL.getK (k := fcK g) (i := m) (AtL.keep (Ex.tk e12) _ _ ag) (by rw [List.getElem?_map, hg]; rfl)
      refine ⟨rfl, _, rfl, p, _, dx, _, _, rfl, e12 _ _ fa.at_, cl, c.noat ("Faces", "rows") (by decide +kernel), rfl, _, rfl, R, _, _, _, rfl, rfl, .inl (.inl (e12 _ _ hR)), atI_nat hy1, k2 (some y) H2 Ex.refl ?_⟩
      have : pick i = some g := by
        show (ns[i]?).bind (fun z => gs[z.toNat]?) = some g
        rw [hz]; exact hg
      rw [this]
      exact AtD.of hy2 hDl
    · rw [made_map] at hpp
      refine k H2 D zs (made pick (ns.map V.int).length) (e1.trans e2) (e1.free hD) h2 (AtD.all hpp) (Nat.le_trans (made_len _ _) (by rw [List.length_map]; exact q2)) fun g hg => ?_
      unfold made at hg
      obtain ⟨i, _, hi⟩ := List.mem_filterMap.mp hg
      obtain ⟨z, hz, hz2⟩ := Option.bind_eq_some_iff.mp hi
      obtain ⟨m, b, st, rfl, hm, s1, s2⟩ := q3 z (List.mem_of_getElem? hz)
      rw [List.getElem?_map] at hm
      obtain ⟨g', hg', rfl⟩ := Option.map_eq_some_iff.mp hm
      have : g' = g := Option.some.inj (hg'.symm.trans hz2)
      subst this
      exact ⟨List.mem_of_getElem? hz2, st, s2, s1⟩
end
end L2.K4
end
section
set_option Elab.async false
set_option linter.all false
set_option maxRecDepth 100000
set_option maxHeartbeats 4000000
/-! The law's defs: prices. -/
namespace L2.K4
open PySem PySem.Spec PyProof.Rows L2
/-- what a line costs, by the plain pair at T and the dict at d -/
def CostD (K : PySem.W.Frag) (H : Hp) (T d : Addr) (gc cc : Str → Int) : Prop := ∃ kvs g0 c0, SqT K H T [.int g0, .int c0] ∧ H d = some (.dK kvs) ∧
  ∀ z ∈ LN, (valV kvs (Sum.inr z) = none ∧ gc z = g0 ∧ cc z = c0) ∨ ∃ u, valV kvs (Sum.inr z) = some (.ref u) ∧ SqT K H u [.int (gc z), .int (cc z)]
def KnAt (K : PySem.W.Frag) (H : Hp) (t : Addr) (gc cc : Str → Int) : Prop := ∃ T d, SqT K H t [.ref T, .ref d] ∧ CostD K H T d gc cc
theorem CostD.ex {K : PySem.W.Frag} {H H' : Hp} {T d : Addr} {gc cc : Str → Int} (h : CostD K H T d gc cc) (e : Ex H H') : CostD K H' T d gc cc := by
  obtain ⟨kvs, g0, c0, h1, h2, h3⟩ := h
  refine ⟨kvs, g0, c0, ext' e h1, e _ _ h2, fun z hz => ?_⟩
  rcases h3 z hz with q | ⟨u, q1, q2⟩
  · exact .inl q
  · exact .inr ⟨u, q1, ext' e q2⟩
theorem KnAt.ex {K : PySem.W.Frag} {H H' : Hp} {t : Addr} {gc cc : Str → Int} (h : KnAt K H t gc cc) (e : Ex H H') : KnAt K H' t gc cc := let ⟨T, d, a, b⟩ := h; ⟨T, d, ext' e a, b.ex e⟩
section
variable {P : Program} {w : World} {K : PySem.W.Frag} {mg : Str → Option Value} {base : Heap}
def spPrice (K : PySem.W.Frag) : Sp := fun vs H Q _ => ∃ (t : Addr) (z : Str) (b : Bool) (gc cc : Str → Int), vs = [.ref t, .str z, .int (if b then 1 else 0)] ∧ z ∈ LN ∧ KnAt K H t gc cc ∧ Q (.int (if b then cc z else gc z)) H
theorem ok_law_price (c : Cf K mg) : Kp P w K mg base 1 (He.ga K "_law_price") (spPrice K) := by
  obtain ⟨fd, F⟩ := F__law_price c
  have nd : (["_law_known", "_law_line", "_law_which", "_law_plain", "_law_some"] : List Str).Nodup := by decide +kernel
  refine kp_of F (N := ["_law_known", "_law_line", "_law_which", "_law_plain", "_law_some"]) (ps := ["_law_known", "_law_line", "_law_which"]) ⟨rfl, rfl, rfl, nd, rfl, by decide +kernel, by decide +kernel⟩ (F.bindsN fun _ _ _ _ _ _ us hl => match us, hl with | [_, _, _], _ => rfl) (fun vs H Q E h => ?_) (fun cdv A outer s H vs Q E hr h => ?_)
  · obtain ⟨t, z, b, gc, cc, rfl, _⟩ := h; rfl
  · obtain ⟨t, z, b, gc, cc, rfl, hz, ⟨T, d, ht, kvs, g0, c0, h2, h3, h4⟩, k⟩ := h
    refine ⟨_, pss_cons (ps_asg (pv 0) (pg_tup (by rfl) (pgs_cons (pg_name (i := 3) nd rfl (.inl rfl)) (pgs_cons (pg_name (i := 4) nd rfl (.inl rfl)) pgs_nil))))
      (pss_one (ps_ret (pe_ix ix_tup (pe_dget2 (hu_of hr) (pv 4) (pv 1) (pv 3) ⟨rfl, rfl, rfl, rfl⟩) (pv 2) (fun _ _ => rfl)))), ?_⟩
    refine ⟨_, rfl, t, _, rfl, ht, rfl, _, _, rfl, _, _, rfl, rfl, ?_⟩
    refine ⟨_, rfl, d, rfl, .inl ⟨kvs, .inl h3⟩, _, rfl, _, rfl, _, DGet.k (k := Sum.inr z) h3, _, rfl, ?_⟩
    have fin : ∀ u, SqT K H u [.int (gc z), .int (cc z)] → ∃ p xs i v, V.ref u = .ref p ∧ V.int (if b then 1 else 0) = .int i ∧ SqT K H p xs ∧ atI xs i = some v ∧ Q v H := fun u hu => by
      cases b with
      | true => exact ⟨u, _, _, _, rfl, rfl, hu, atI_nat (xs := [V.int (gc z), V.int (cc z)]) (j := 1) rfl, k⟩
      | false => exact ⟨u, _, _, _, rfl, rfl, hu, atI_nat (xs := [V.int (gc z), V.int (cc z)]) (j := 0) rfl, k⟩
    rcases h4 z hz with ⟨q1, q2, q3⟩ | ⟨u, q1, q2⟩
    · rw [q1]
      rw [← q2, ← q3] at h2
      exact fin T h2
    · rw [q1]; exact fin u q2
end
end L2.K4
end
section
set_option Elab.async false
set_option linter.all false
set_option maxRecDepth 100000
set_option maxHeartbeats 4000000
/-! The law's defs: crossings. -/
namespace L2.K4
open PySem PySem.Spec PyProof.Rows L2
theorem sw_zipT {K : PySem.W.Frag} {H : Hp} {a b : Addr} {xs ys : List V} (h : SqT K H a xs) (h' : SqT K H b ys) : SW (RZ.ItzT K a b) (min xs.length ys.length) (fun i v H' => ∃ T x y, v = .ref T ∧ H' T = some (.tup [x, y]) ∧ xs[i]? = some x ∧ ys[i]? = some y) H := fun i =>
  ⟨fun hi => ⟨⟨xs, ys, xs[i], ys[i], h, h', List.getElem?_eq_getElem (by omega), List.getElem?_eq_getElem (by omega)⟩, fun x H' ⟨T, y, z, e, hT, eH, q1, q2⟩ => ⟨by rw [eH]; exact Ex.laid hT, T, y, z, e, by rw [eH]; exact upd_same, q1 xs h, q2 ys h'⟩⟩, fun hi => ⟨xs, ys, h, h', by omega⟩⟩
theorem not_whole {xs : List V} (h : xs ≠ []) : ¬ (HT.sIx xs.length 0 (some (1 : Int)) = 0 ∧ HT.sIx xs.length xs.length none = xs.length) := fun ⟨q, _⟩ => by
  have e : HT.sIx xs.length 0 (some (1 : Int)) = min 1 xs.length := HT.sIx_nat _ _ 1
  rw [e] at q
  exact h (List.length_eq_zero_iff.mp (by omega))
/-- a step from a to its tail -/
theorem step_at {K : PySem.W.Frag} {H : Hp} {a : Wy} {xs : List V} {i : Nat} {x y : V} (h : AtL K H (a.map plK) xs) (hx : xs[i]? = some x) (hy : xs.tail[i]? = some y) : ∃ p q, (K34.steps a)[i]? = some (p, q) ∧ At K H (plK p) x ∧ At K H (plK q) y := by
  rw [List.getElem?_tail] at hy
  obtain ⟨k1, a1, a2⟩ := AtL.get h hx
  obtain ⟨k2, b1, b2⟩ := AtL.get h hy
  rw [List.getElem?_map] at a1 b1
  obtain ⟨p, hp, rfl⟩ := Option.map_eq_some_iff.mp a1
  obtain ⟨q, hq, rfl⟩ := Option.map_eq_some_iff.mp b1
  refine ⟨p, q, ?_, a2, b2⟩
  unfold K34.steps
  rw [List.getElem?_zip_eq_some]
  exact ⟨hp, by rw [List.getElem?_tail]; exact hq⟩
theorem steps_n {K : PySem.W.Frag} {H : Hp} {a : Wy} {xs : List V} (h : AtL K H (a.map plK) xs) : min xs.length xs.tail.length = (K34.steps a).length := by
  have l := AtL.length h
  rw [List.length_map] at l
  unfold K34.steps
  rw [List.length_zip, List.length_tail, List.length_tail, l]
def intsV (ns : List Nat) : List V := ns.map fun n => V.int (n : Nat)
section
variable {P : Program} {w : World} {K : PySem.W.Frag} {mg : Str → Option Value} {base : Heap}
def spCrs (K : PySem.W.Frag) : Sp := fun vs H Q _ => ∃ v a, vs = [v] ∧ At K H (wyK a) v ∧ a ≠ [] ∧ a.length ≤ 100 ∧ ∀ H' l, Ex H H' → H l = none → H' l = some (.lst (intsV (K34.crs a))) → Q (.ref l) H'
theorem ok_law_crossings (c : Cf K mg) : Kp P w K mg base 1 (He.ga K "_law_crossings") (spCrs K) := by
  obtain ⟨fd, F⟩ := F__law_crossings c
  have nd : (["_law_way", "_law_found", "_law_one", "_law_other"] : List Str).Nodup := by decide +kernel
  refine kp_of F (N := ["_law_way", "_law_found", "_law_one", "_law_other"]) (ps := ["_law_way"]) ⟨rfl, rfl, rfl, nd, rfl, by decide +kernel, by decide +kernel⟩ (F.bindsN fun _ _ _ _ _ _ us hl => match us, hl with | [_], _ => rfl) (fun vs H Q E h => ?_) (fun cdv A outer s H vs Q E hr h => ?_)
  · obtain ⟨v, a, rfl, _⟩ := h; rfl
  · obtain ⟨v, a, rfl, hv, hne, hlen, k⟩ := h
    obtain ⟨t, xs, rfl, ht, hx⟩ := at_wy hv
    refine ⟨_, pss_cons (ps_set (i := 1) nd rfl (.inl rfl) (pe_lst pa_nil))
      (pss_cons (ps_for PassesOwn.never rfl (RZ.pi_zipA (by rfl) (c.free "zip" (by decide +kernel)) (pa_cons (pv 0) (pa_cons (pe_slice sl_tup (pv 0) (po_some pe_int) po_none) pa_nil))) (pg_tup rfl (pgs_cons (pg_name (i := 2) nd rfl (.inl rfl)) (pgs_cons (pg_name (i := 3) nd rfl (.inl rfl)) pgs_nil)))
        (pss_one (ps_if (pt_cmpR op_lt (pe_ix ix_tup (pv 2) pe_int (fun _ _ => rfl)) (pe_ix ix_tup (pv 3) pe_int (fun _ _ => rfl)) (nomark _))
          (pss_one (ps_expr (pe_bm PySem.F.plainAttrs_list PySem.F.slot_list_append PySem.F.type_list_append mt_append (pv 1) (pa_cons (pe_op op_add (pe_op op_mul pe_int (pe_ix ix_tup (pv 2) pe_int (fun _ _ => rfl))) (pe_callTy call_int1 (by rfl) (c.free "int" (by decide +kernel)) (by decide +kernel) (pa_cons (pe_cmpR op_lt (pe_ix ix_tup (pv 2) pe_int (fun _ _ => rfl)) (pe_ix ix_tup (pv 3) pe_int (fun _ _ => rfl)) (nomark _)) pa_nil))) pa_nil)))) pss_nil)))
      (pss_one (ps_ret (pv 1)))), ?_⟩
    refine ⟨by show 0 ≤ sizeLine; decide, fun l hl => ?_⟩
    have e0 := Ex.laid (o := .lst []) hl
    have nx : xs ≠ [] := fun e => hne (by have := AtL.length hx; rw [e] at this; exact List.length_eq_zero_iff.mp (by simpa using this.symm))
    refine ⟨_, rfl, _, rfl, 1, rfl, t, xs, rfl, ext' e0 ht, not_whole nx, fun u hu => ?_⟩
    rw [cutV_tail]
    have eu := e0.trans (Ex.laid (o := .tup xs.tail) hu)
    have hlu : (upd (upd H l (.lst [])) u (.tup xs.tail)) l = some (.lst []) := Ex.laid hu _ _ upd_same
    have huu : (upd (upd H l (.lst [])) u (.tup xs.tail)) u = some (.tup xs.tail) := upd_same
    generalize upd (upd H l (.lst [])) u (.tup xs.tail) = H2 at eu hlu huu
    have B22 : Ex (er l H2) H2 := ex_er
    have hBl : (er l H2) l = none := er_self
    have nul : u ≠ l := by rintro rfl; rw [hlu] at huu; cases huu
    have huB : (er l H2) u = some (.tup xs.tail) := by rw [er_ne nul]; exact huu
    have eHB : Ex H (er l H2) := fun x o h => by rw [er_ne (ne_of_none h hl)]; exact eu x o h
    generalize er l H2 = B at B22 hBl huB eHB
    refine ⟨t, u, xs, xs.tail, rfl, .inr ⟨ext' eu ht, .inl (.inl huu), ?_⟩⟩
    refine forG (n := min xs.length xs.tail.length) (Y := fun i v H' => ∃ T x y, v = .ref T ∧ H' T = some (.tup [x, y]) ∧ xs[i]? = some x ∧ xs.tail[i]? = some y)
      (fun i σ' H' => (∃ o2 o3, σ' = [some (.ref t), some (.ref l), o2, o3]) ∧ Ex B H' ∧ H' l = some (.lst (intsV (((K34.steps a).take i).filterMap K34.cr1))))
      ⟨⟨none, none, rfl⟩, B22, hlu⟩ (fun i σ' H' _ q => sw_zipT (ext' (eHB.trans q.2.1) ht) (.inl (.inl (q.2.1 _ _ huB)))) (fun i x σ' H' H'' hi q ex hxi => ?_) fun σ' H' q => ?_
    · obtain ⟨⟨o2, o3, rfl⟩, e, hacc⟩ := q
      obtain ⟨T, x1, y1, rfl, hT, hx1, hy1⟩ := hxi
      have e' := e.trans ex
      obtain ⟨p, q, hst, ap, aq⟩ := step_at (AtL.keep (Ex.tk (eHB.trans e')) _ _ hx) hx1 hy1
      obtain ⟨tp, rfl, sp⟩ := at_pl ap
      obtain ⟨tq, rfl, sq⟩ := at_pl aq
      have hacc' := ex _ _ hacc
      refine ⟨T, _, rfl, .inl (.inl hT), rfl, _, _, rfl, _, _, rfl, rfl, ?_⟩
      refine ⟨_, rfl, tp, _, _, _, rfl, rfl, sp, atI_nat (xs := plV p) (j := 0) rfl, _, rfl, tq, _, _, _, rfl, rfl, sq, atI_nat (xs := plV q) (j := 0) rfl, _, _, rfl, rfl, _, rfl, ?_⟩
      have tk1 : (K34.steps a).take (i + 1) = (K34.steps a).take i ++ [(p, q)] := by rw [List.take_add_one, hst]; rfl
      have il : i < 100 := by
        have h1 := (List.getElem?_eq_some_iff.mp hst).1
        have h2 := steps_len a
        omega
      by_cases h : p.1 < q.1
      · rw [decide_eq_true (Int.ofNat_lt.mpr h)]
        refine iteT ⟨_, rfl, .inl ⟨rfl, _, .inl (.inl hacc')⟩, _, rfl, tp, _, _, _, rfl, rfl, sp, atI_nat (xs := plV p) (j := 1) rfl, 2, _, rfl, rfl, .inl (by decide), ?_⟩
        refine ⟨_, rfl, tp, _, _, _, rfl, rfl, sp, atI_nat (xs := plV p) (j := 1) rfl, _, rfl, tq, _, _, _, rfl, rfl, sq, atI_nat (xs := plV q) (j := 1) rfl, _, _, rfl, rfl, .inr ⟨_, rfl, _, _, rfl, rfl, ?_⟩⟩
        refine ⟨l, _, _, rfl, rfl, hacc', ?_, ⟨_, _, rfl⟩, Ex.mut e' hBl, ?_⟩
        · refine Nat.lt_of_le_of_lt (show _ ≤ 100 from ?_) (by decide)
          unfold intsV
          rw [List.length_map]
          exact Nat.le_trans (List.length_filterMap_le _ _) (by rw [List.length_take]; omega)
        · rw [upd_same, tk1, List.filterMap_append]
          unfold intsV
          rw [List.map_append]
          have : [(p, q)].filterMap K34.cr1 = [2 * p.2 + if p.2 < q.2 then 1 else 0] := by simp [K34.cr1, h]
          rw [this]
          congr 3
          by_cases h2 : p.2 < q.2
          · simp [h2]
          · simp [h2]
      · rw [decide_eq_false (fun z => h (Int.ofNat_lt.mp z))]
        refine iteF ⟨⟨_, _, rfl⟩, e', ?_⟩
        rw [hacc', tk1, List.filterMap_append]
        have : [(p, q)].filterMap K34.cr1 = [] := by simp [K34.cr1, h]
        rw [this, List.append_nil]
    · obtain ⟨⟨o2, o3, rfl⟩, e, hacc⟩ := q
      rw [steps_n hx, List.take_length] at hacc
      exact ⟨_, rfl, k H' l (eHB.trans e) hl hacc⟩
end
end L2.K4
end
section
set_option Elab.async false
set_option linter.all false
set_option maxRecDepth 100000
set_option maxHeartbeats 4000000
/-! == of lists of nested data. -/
namespace L2.K4
open PySem PySem.Spec PyProof.Rows L2
section
variable {X : Cx}
open Classical in
def rEqLA (K : PySem.W.Frag) (neg : Bool) : R2 := fun x y H Q => ∃ a b xs ys ks ls, x = .ref a ∧ y = .ref b ∧ SqL K H a xs ∧ SqL K H b ys ∧ AtL K H ks xs ∧ AtL K H ls ys ∧ (∀ k ∈ ks, numK k = true ∧ k.depth ≤ 8) ∧ (∀ k ∈ ls, numK k = true ∧ k.depth ≤ 8) ∧ Q (.bl (if neg then !decide (ks = ls) else decide (ks = ls))) H
theorem depthAll8 : ∀ ks : List NK, (∀ k ∈ ks, k.depth ≤ 8) → NestedKey.depthAll ks ≤ 8
  | [], _ => by simp [NestedKey.depthAll]
  | k :: ks, h => by
    have h1 := h k (List.mem_cons_self ..)
    have h2 := depthAll8 ks fun x hx => h x (List.mem_cons_of_mem _ hx)
    simp only [NestedKey.depthAll]
    omega
theorem shaped_list {ks : List NK} (h : ∀ k ∈ ks, numK k = true ∧ k.depth ≤ 8) : SeqAt.shaped (.list (NestedKey.datas ks)) = true := by
  unfold SeqAt.shaped
  have h1 : PyData.canLay0 (.list (NestedKey.datas ks)) = true := by
    simp only [PyData.canLay0]
    exact can_datas ks (numKs_all fun k hk => (h k hk).1)
  have h2 := depth_datas ks
  have h3 := depthAll8 ks fun k hk => (h k hk).2
  rw [h1, decide_eq_true (by simp only [PyData.depth]; omega)]; rfl
theorem eqv_list (ks ls : List NK) [Decidable (ks = ls)] : PyData.eqv (.list (NestedKey.datas ks)) (.list (NestedKey.datas ls)) = decide (ks = ls) := by
  simp only [PyData.eqv]
  rw [eqv_datas]
  have h := NestedKey.decide_eq (.tup ks) (.tup ls)
  have e : NestedKey.beq (.tup ks) (.tup ls) = NestedKey.beqAll ks ls := by simp only [NestedKey.beq]
  rw [← e, ← h]
  exact decide_eq_decide.mpr ⟨fun h => by injection h, fun h => by rw [h]⟩
theorem op_eqLA (hu : X.A.units + 64 < cLine) : OpR X (compareOp .Eq) (rEqLA X.K false) := by
  intro pins s σ H x y v u Q I rx ry ⟨a, b, xs, ys, ks, ls, ex, ey, h1, h2, a1, a2, n1, n2, q⟩
  subst ex ey
  refine op_eqD hu pins s σ H _ _ v u Q I rx ry ⟨_, _, .lst h1 a1, .lst h2 a2, shaped_list n1, shaped_list n2, ?_⟩
  classical
  rw [eqv_list]; exact q
theorem op_neLA (hu : X.A.units + 64 < cLine) : OpR X (compareOp .NotEq) (rEqLA X.K true) := by
  intro pins s σ H x y v u Q I rx ry ⟨a, b, xs, ys, ks, ls, ex, ey, h1, h2, a1, a2, n1, n2, q⟩
  subst ex ey
  refine op_neD hu pins s σ H _ _ v u Q I rx ry ⟨_, _, .lst h1 a1, .lst h2 a2, shaped_list n1, shaped_list n2, ?_⟩
  classical
  rw [eqv_list]; exact q
end
end L2.K4
end
section
set_option Elab.async false
set_option linter.all false
set_option maxRecDepth 100000
set_option maxHeartbeats 4000000
/-! The law's defs: is_above. -/
namespace L2.K4
open PySem PySem.Spec PyProof.Rows L2
def numsK (ns : List Nat) : List NK := ns.map fun n => NestedKey.num (n : Nat)
theorem at_ints {K : PySem.W.Frag} {H : Hp} : ∀ ns : List Nat, AtL K H (numsK ns) (intsV ns)
  | [] => AtL.nil
  | n :: ns => AtL.cons At.num (at_ints ns)
theorem numsK_ok (ns : List Nat) : ∀ k ∈ numsK ns, numK k = true ∧ k.depth ≤ 8 := fun k hk => by
  obtain ⟨n, _, rfl⟩ := List.mem_map.mp hk
  exact ⟨rfl, by simp [NestedKey.depth]⟩
theorem numsK_inj {ns ms : List Nat} (h : numsK ns = numsK ms) : ns = ms := by
  unfold numsK at h
  exact List.map_inj_right (fun a b e => by injection e with e; exact Int.ofNat.inj e) |>.mp h
theorem bools_of {bs : List Bool} {ys : List V} (h : Paired (fun (b : Bool) (v : V) => v = V.bl b) bs ys) : ys = bs.map V.bl := by
  induction h with
  | nil => rfl
  | cons h t ih => rw [ih, h]; rfl
theorem intsV_at {ns : List Nat} {i : Nat} {x : V} (h : (intsV ns)[i]? = some x) : ∃ n, ns[i]? = some n ∧ x = .int (n : Nat) := by
  unfold intsV at h
  rw [List.getElem?_map] at h
  obtain ⟨n, h1, h2⟩ := Option.map_eq_some_iff.mp h
  exact ⟨n, h1, h2.symm⟩
section
variable {P : Program} {w : World} {K : PySem.W.Frag} {mg : Str → Option Value} {base : Heap}
def spAbove (K : PySem.W.Frag) : Sp := fun vs H Q _ => ∃ a b ns ms, vs = [.ref a, .ref b] ∧ SqL K H a (intsV ns) ∧ SqL K H b (intsV ms) ∧ ns.length ≤ 100 ∧ ∀ H', Ex H H' → Q (.bl (K34.isAbove ns ms)) H'
theorem ok_law_is_above (c : Cf K mg) : Kp P w K mg base 1 (He.ga K "_law_is_above") (spAbove K) := by
  obtain ⟨fd, F⟩ := F__law_is_above c
  have nd : (["_law_one", "_law_other", "_law_first", "_law_second"] : List Str).Nodup := by decide +kernel
  refine kp_of F (N := ["_law_one", "_law_other", "_law_first", "_law_second"]) (ps := ["_law_one", "_law_other"]) ⟨rfl, rfl, rfl, nd, rfl, by decide +kernel, by decide +kernel⟩ (F.bindsN fun _ _ _ _ _ _ us hl => match us, hl with | [_, _], _ => rfl) (fun vs H Q E h => ?_) (fun cdv A outer s H vs Q E hr h => ?_)
  · obtain ⟨a, b, ns, ms, rfl, _⟩ := h; rfl
  · obtain ⟨a, b, ns, ms, rfl, ha, hb, hl, k⟩ := h
    refine ⟨_, pss_one (ps_ret (pe_and (pe_cmpR (op_neLA hr.units) (pv 0) (pv 1) (by rfl)) (pe_one (pe_callB (cr_all rfl) (by rfl) (c.free "all" (by decide +kernel)) (by decide +kernel) (pa_cons (pe_lc (own := [("_law_first", 2), ("_law_second", 3)]) (g := g2 K 2 3) (tt := tYes) (te := tOp (rI0 fun i j => .bl (decide (i ≤ j))) (tVar 2) (tVar 3)) rfl nd
      (RZ.pi_zipA (by rfl) (c.free "zip" (by decide +kernel)) (pa_cons (pv 0) (pa_cons (pv 1) pa_nil))) (blkOk_by (N := ["_law_one", "_law_other", "_law_first", "_law_second"]) (sc := defScope s_law_is_above) (by decide +kernel)) (fun _ _ _ _ _ => pg_tup rfl (pgs_cons (pg_name (i := 2) nd rfl (.inl rfl)) (pgs_cons (pg_name (i := 3) nd rfl (.inl rfl)) pgs_nil))) (fun _ _ _ _ _ => pts_nil)
      (fun _ _ _ _ _ => pe_cmpR op_le (pv 2) (pv 3) (nomark _))) pa_nil))))), ?_⟩
    refine ⟨_, rfl, _, rfl, a, b, _, _, numsK ns, numsK ms, rfl, rfl, ha, hb, at_ints ns, at_ints ms, numsK_ok ns, numsK_ok ms, _, rfl, ?_⟩
    by_cases h : ns = ms
    · subst h
      rw [show (!decide (numsK ns = numsK ns)) = false by simp]
      refine iteF ?_
      have e : K34.isAbove ns ns = false := by unfold K34.isAbove; simp
      have := k H Ex.refl
      rw [e] at this
      exact this
    · rw [show (!decide (numsK ns = numsK ms)) = true by simp; exact fun q => h (numsK_inj q)]
      refine iteT ⟨_, rfl, _, rfl, a, b, _, _, rfl, .inl ⟨ha, hb, fun D hD => ?_⟩⟩
      refine lcG (n := min (intsV ns).length (intsV ms).length) (Y := fun i v H' => ∃ T x y, v = .ref T ∧ H' T = some (.tup [x, y]) ∧ (intsV ns)[i]? = some x ∧ (intsV ms)[i]? = some y) hD (fun i => ((ns.zip ms)[i]?).map fun z => decide (z.1 ≤ z.2)) (fun _ b v _ => v = V.bl b) (fun _ _ _ _ _ h => h)
        (Nat.lt_of_le_of_lt (Nat.le_trans (Nat.min_le_left _ _) (by unfold intsV; rw [List.length_map]; exact hl)) (by decide)) (fun H' e => sw_zip (exl e ha) (exl e hb)) (fun i v H1 zs hi e1 hv hDl Q2 q2 => ?_) fun H2 ys e2 h2 hpp => ?_
      · obtain ⟨T, x, y, rfl, hT, hx, hy⟩ := hv
        obtain ⟨n, hn, rfl⟩ := intsV_at hx
        obtain ⟨m, hm, rfl⟩ := intsV_at hy
        refine ⟨T, _, rfl, .inl (.inl hT), rfl, _, _, rfl, _, _, rfl, rfl, rfl, _, rfl, _, rfl, _, _, rfl, rfl, q2 (some _) H1 Ex.refl ?_⟩
        have : (ns.zip ms)[i]? = some (n, m) := by rw [List.getElem?_zip_eq_some]; exact ⟨hn, hm⟩
        rw [this]
        exact congrArg V.bl (decide_eq_decide.mpr Int.ofNat_le)
      · have en : min (intsV ns).length (intsV ms).length = (ns.zip ms).length := by unfold intsV; rw [List.length_map, List.length_map, List.length_zip]
        have em : made (fun i => ((ns.zip ms)[i]?).map fun z => decide (z.1 ≤ z.2)) (min (intsV ns).length (intsV ms).length) = (ns.zip ms).map fun z => decide (z.1 ≤ z.2) := by
          have := made_all ((ns.zip ms).map fun z => decide (z.1 ≤ z.2))
          rw [List.length_map] at this
          rw [en]
          simpa only [List.getElem?_map] using this
        rw [em] at hpp
        have ey : ys = ((ns.zip ms).map fun z => decide (z.1 ≤ z.2)).map V.bl := by
          exact bools_of hpp
        refine ⟨D, (ns.zip ms).map fun z => decide (z.1 ≤ z.2), rfl, .inl (.inl (by rw [h2, ey])), ?_⟩
        have e : K34.isAbove ns ms = ((ns.zip ms).map fun z => decide (z.1 ≤ z.2)).all id := by
          unfold K34.isAbove
          rw [List.all_map, decide_eq_true h]; rfl
        rw [← e]
        exact k H2 e2
end
end L2.K4
end
section
set_option Elab.async false
set_option linter.all false
set_option maxRecDepth 100000
set_option maxHeartbeats 4000000
/-! The law's defs: next places. -/
namespace L2.K4
open PySem PySem.Spec PyProof.Rows L2
section
variable {P : Program} {w : World} {K : PySem.W.Frag} {mg : Str → Option Value} {base : Heap}
theorem rep1 {α : Type} (b : Bool) (x : α) : (List.replicate ((if b then 1 else 0 : Int)).toNat [x]).flatten = if b then [x] else [] := by cases b <;> rfl
theorem rep_b (b : Bool) : -(2 ^ 63) ≤ (if b then 1 else 0 : Int) ∧ (if b then 1 else 0 : Int) < 2 ^ 63 := by cases b <;> decide
theorem rep_s (b : Bool) (x : V) : [x].length * ((if b then 1 else 0 : Int)).toNat ≤ sizeLine := by
  cases b
  · show 1 * 0 ≤ sizeLine; decide
  · show 1 * 1 ≤ sizeLine; decide
theorem iteP {b : Bool} {A B : Prop} (h : b = true) (x : A) : if b = true then A else B := by rw [if_pos h]; exact x
theorem iteN {b : Bool} {A B : Prop} (h : b = false) (x : B) : if b = true then A else B := by rw [h]; exact x
/-- one place or none, as a new list -/
theorem at_rep {K : PySem.W.Frag} {H : Hp} (b : Bool) {q : Pl} {u : Addr} (h : SqT K H u (plV q)) : AtL K H ((if b then [q] else []).map plK) ((List.replicate ((if b then 1 else 0 : Int)).toNat [V.ref u]).flatten) := by
  rw [rep1]
  cases b
  · exact AtL.nil
  · exact AtL.one (pl_at h)
theorem ok_law_next (c : Cf K mg) : Kp P w K mg base 1 (He.ga K "_law_next") (spNext K) := by
  obtain ⟨fd, F⟩ := F__law_next c
  have nd : (["_law_old", "_law_new", "_law_place", "_law_i", "_law_j", "_law_found"] : List Str).Nodup := by decide +kernel
  refine kp_of F (N := ["_law_old", "_law_new", "_law_place", "_law_i", "_law_j", "_law_found"]) (ps := ["_law_old", "_law_new", "_law_place"]) ⟨rfl, rfl, rfl, nd, rfl, by decide +kernel, by decide +kernel⟩ (F.bindsN fun _ _ _ _ _ _ us hl => match us, hl with | [_, _, _], _ => rfl) (fun vs H Q E h => ?_) (fun cdv A outer s H vs Q E hr h => ?_)
  · obtain ⟨a, b, v, ls, ms, p, rfl, _⟩ := h; rfl
  · obtain ⟨a, b, v, ls, ms, p, rfl, hA, hB, hp, k⟩ := h
    obtain ⟨t, rfl, ht⟩ := at_pl hp
    refine ⟨_, pss_cons (ps_asg (pv 2) (pg_tup (by rfl) (pgs_cons (pg_name (i := 3) nd rfl (.inl rfl)) (pgs_cons (pg_name (i := 4) nd rfl (.inl rfl)) pgs_nil))))
      (pss_cons (ps_set (i := 5) nd rfl (.inl rfl) (pe_op op_rep (pe_lst (pa_cons (pe_tup (pa_cons (pe_op op_add (pv 3) pe_int) (pa_cons (pv 4) pa_nil))) pa_nil)) (pe_callTy call_int1 (by rfl) (c.free "int" (by decide +kernel)) (by decide +kernel) (pa_cons (pe_cmpR op_lt (pv 3) (pe_callB call_len_seq (by rfl) (c.free "len" (by decide +kernel)) PySem.boot_len (pa_cons (pv 0) pa_nil)) (nomark _)) pa_nil))))
      (Evl.pss_cut (ps_if (PW.pt (pw_and (pt_cmpR op_lt (pv 3) (pe_callB call_len_seq (by rfl) (c.free "len" (by decide +kernel)) PySem.boot_len (pa_cons (pv 0) pa_nil)) (nomark _)) (pw_and1 (pt_cmpR op_lt (pv 4) (pe_callB call_len_seq (by rfl) (c.free "len" (by decide +kernel)) PySem.boot_len (pa_cons (pv 1) pa_nil)) (nomark _)))))
        (pss_one (ps_set (i := 5) nd rfl (.inl rfl) (pe_op op_cat (pv 5) (pe_op op_rep (pe_lst (pa_cons (pe_tup (pa_cons (pe_op op_add (pv 3) pe_int) (pa_cons (pe_op op_add (pv 4) pe_int) pa_nil))) pa_nil)) (pe_callTy call_int1 (by rfl) (c.free "int" (by decide +kernel)) (by decide +kernel) (pa_cons (pe_cmpR op_eq (pe_ix ix_list (pv 0) (pv 3) (fun _ _ => rfl)) (pe_ix ix_list (pv 1) (pv 4) (fun _ _ => rfl)) (nomark _)) pa_nil)))))) pss_nil)
      (pss_one (ps_ret (pe_op op_cat (pv 5) (pe_op op_rep (pe_lst (pa_cons (pe_tup (pa_cons (pv 3) (pa_cons (pe_op op_add (pv 4) pe_int) pa_nil))) pa_nil)) (pe_callTy call_int1 (by rfl) (c.free "int" (by decide +kernel)) (by decide +kernel) (pa_cons (pe_cmpR op_lt (pv 4) (pe_callB call_len_seq (by rfl) (c.free "len" (by decide +kernel)) PySem.boot_len (pa_cons (pv 1) pa_nil)) (nomark _)) pa_nil)))))))), ?_⟩
    refine ⟨_, rfl, t, _, rfl, ht, rfl, _, _, rfl, _, _, rfl, rfl, ?_⟩
    refine ⟨_, rfl, _, _, rfl, rfl, _, rfl, by show 2 ≤ sizeLine; decide, fun u hu => ⟨by show 1 ≤ sizeLine; decide, fun l1 hl1 => ?_⟩⟩
    have e1 := (Ex.laid (o := .tup (plV (p.1 + 1, p.2))) hu).trans (Ex.laid (o := .lst [.ref u]) hl1)
    refine ⟨_, rfl, _, rfl, a, _, rfl, .inl (exl e1 hA), _, _, rfl, rfl, .inr ⟨_, rfl, l1, _, _, rfl, rfl, upd_same, (rep_b _).1, (rep_b _).2, rep_s _ _, fun l2 hl2 => ?_⟩⟩
    let St : List Pl → L2.St → Hp → Prop := fun qs σ H' => ∃ l, σ = [some (.ref a), some (.ref b), some (.ref t), some (.int p.1), some (.int p.2), some (.ref l)] ∧ H l = none ∧ Ex H H' ∧ ∃ xs, H' l = some (.lst xs) ∧ AtL K H' (qs.map plK) xs ∧ xs.length ≤ 2
    have e2 := Ex.laid (o := .lst (List.replicate ((if decide ((p.1 : Int) < ((ls.map V.str).length : Nat)) then 1 else 0 : Int)).toNat [V.ref u]).flatten) hl2
    have S1 : St (if decide ((p.1 : Int) < ((ls.map V.str).length : Nat)) then [(p.1 + 1, p.2)] else []) [some (.ref a), some (.ref b), some (.ref t), some (.int p.1), some (.int p.2), some (.ref l2)] (upd (upd (upd H u (.tup (plV (p.1 + 1, p.2)))) l1 (.lst [.ref u])) l2 (.lst (List.replicate ((if decide ((p.1 : Int) < ((ls.map V.str).length : Nat)) then 1 else 0 : Int)).toNat [V.ref u]).flatten)) := by
      refine ⟨l2, rfl, e1.free hl2, e1.trans e2, _, upd_same, at_rep _ (.inl (.inl (e2 _ _ (Ex.laid hl1 _ _ upd_same)))), ?_⟩
      rw [rep1]; split <;> simp
    refine ⟨St ((if decide ((p.1 : Int) < ((ls.map V.str).length : Nat)) then [(p.1 + 1, p.2)] else []) ++ (if p.1 < ls.length ∧ p.2 < ms.length ∧ K34.eqi ls ms p.1 p.2 = true then [(p.1 + 1, p.2 + 1)] else [])), ?_, fun σ2 H2 S2 => ?_⟩
    · have e12 := e1.trans e2
      refine ⟨_, rfl, _, rfl, a, _, rfl, .inl (exl e12 hA), _, _, rfl, rfl, _, rfl, ?_⟩
      have d1 : ∀ {n : Nat}, p.1 < ls.length → decide ((p.1 : Int) < ((ls.map V.str).length : Nat)) = true := fun h => decide_eq_true (by rw [List.length_map]; exact Int.ofNat_lt.mpr h)
      by_cases g1 : p.1 < ls.length
      · refine iteP (d1 (n := 0) g1) ⟨_, rfl, _, rfl, b, _, rfl, .inl (exl e12 hB), _, _, rfl, rfl, _, rfl, ?_⟩
        by_cases g2 : p.2 < ms.length
        · refine iteP (decide_eq_true (by rw [List.length_map]; exact Int.ofNat_lt.mpr g2)) ?_
          have i1 : (ls.map V.str)[p.1]? = some (.str ls[p.1]) := by rw [List.getElem?_map, List.getElem?_eq_getElem g1]; rfl
          have i2 : (ms.map V.str)[p.2]? = some (.str ms[p.2]) := by rw [List.getElem?_map, List.getElem?_eq_getElem g2]; rfl
          have e3 : K34.eqi ls ms p.1 p.2 = decide (V.str ls[p.1] = V.str ms[p.2]) := by
            unfold K34.eqi
            rw [List.getElem?_eq_getElem g1, List.getElem?_eq_getElem g2]
            exact decide_eq_decide.mpr ⟨fun h => congrArg V.str h, fun h => V.str.inj h⟩
          obtain ⟨l0, hσ, s1, s2, xs, s3, s4, s5⟩ := S1
          cases hσ
          refine ⟨_, rfl, _, rfl, _, _, rfl, rfl, _, rfl, _, _, rfl, rfl, by show 2 ≤ sizeLine; decide, fun u2 hu2 => ⟨by show 1 ≤ sizeLine; decide, fun l3 hl3 => ?_⟩⟩
          have f1 := (Ex.laid (o := .tup (plV (p.1 + 1, p.2 + 1))) hu2).trans (Ex.laid (o := .lst [.ref u2]) hl3)
          refine ⟨_, rfl, _, rfl, a, _, _, _, rfl, rfl, exl (e12.trans f1) hA, atI_nat i1, _, rfl, _, rfl, b, _, _, _, rfl, rfl, exl (e12.trans f1) hB, atI_nat i2, rfl, .inr ⟨_, rfl, l3, _, _, rfl, rfl, upd_same, (rep_b _).1, (rep_b _).2, rep_s _ _, fun l4 hl4 => ?_⟩⟩
          have f2 := Ex.laid (o := .lst (List.replicate ((if decide (V.str ls[p.1] = V.str ms[p.2]) then 1 else 0 : Int)).toNat [V.ref u2]).flatten) hl4
          refine ⟨l2, l4, xs, _, rfl, rfl, (f1.trans f2) _ _ s3, upd_same, ?_, fun l5 hl5 => ?_⟩
          · rw [rep1]
            refine Nat.le_trans (show _ ≤ 3 from ?_) (by decide)
            split <;> simp <;> omega
          · have f3 := Ex.laid (o := .lst (xs ++ (List.replicate ((if decide (V.str ls[p.1] = V.str ms[p.2]) then 1 else 0 : Int)).toNat [V.ref u2]).flatten)) hl5
            have f13 := (f1.trans f2).trans f3
            refine ⟨l5, rfl, (e12.trans (f1.trans f2)).free hl5, e12.trans f13, _, upd_same, ?_, ?_⟩
            · have hq : (if p.1 < ls.length ∧ p.2 < ms.length ∧ K34.eqi ls ms p.1 p.2 = true then [((p.1 + 1, p.2 + 1) : Pl)] else []) = if decide (V.str ls[p.1] = V.str ms[p.2]) then [(p.1 + 1, p.2 + 1)] else [] := by
                rw [e3]; simp [g1, g2]
              rw [hq, List.map_append]
              exact (AtL.keep (Ex.tk f13) _ _ s4).append (at_rep _ (.inl (.inl ((f2.trans f3) _ _ (Ex.laid hl3 _ _ upd_same)))))
            · rw [rep1, List.length_append]
              have : xs.length ≤ 1 := by
                have q := AtL.length s4
                rw [List.length_map] at q
                rw [q]; split <;> simp
              split <;> simp <;> omega
        · refine iteN (decide_eq_false (by rw [List.length_map]; exact fun q => g2 (Int.ofNat_lt.mp q))) ?_
          rw [if_neg (c := p.1 < ls.length ∧ _) (fun q => g2 q.2.1), List.append_nil]
          exact S1
      · refine iteN (decide_eq_false (by rw [List.length_map]; exact fun q => g1 (Int.ofNat_lt.mp q))) ?_
        rw [if_neg (c := p.1 < ls.length ∧ _) (fun q => g1 q.1), List.append_nil]
        exact S1
    · obtain ⟨l, rfl, hl, e, xs, h1, h2, h3⟩ := S2
      refine ⟨_, rfl, _, rfl, _, rfl, _, _, rfl, rfl, by show 2 ≤ sizeLine; decide, fun u hu => ⟨by show 1 ≤ sizeLine; decide, fun l3 hl3 => ?_⟩⟩
      have e3 := (Ex.laid (o := .tup (plV (p.1, p.2 + 1))) hu).trans (Ex.laid (o := .lst [.ref u]) hl3)
      refine ⟨_, rfl, _, rfl, b, _, rfl, .inl (exl (e.trans e3) hB), _, _, rfl, rfl, .inr ⟨_, rfl, l3, _, _, rfl, rfl, upd_same, (rep_b _).1, (rep_b _).2, rep_s _ _, fun l4 hl4 => ?_⟩⟩
      have e4 := Ex.laid (o := .lst (List.replicate ((if decide ((p.2 : Int) < ((ms.map V.str).length : Nat)) then 1 else 0 : Int)).toNat [V.ref u]).flatten) hl4
      refine ⟨l, l4, xs, _, rfl, rfl, (e3.trans e4) _ _ h1, upd_same, ?_, fun l5 hl5 => ?_⟩
      · rw [rep1]
        refine Nat.le_trans (show _ ≤ 3 from ?_) (by decide)
        split <;> simp <;> omega
      · have e5 := Ex.laid (o := .lst (xs ++ (List.replicate ((if decide ((p.2 : Int) < ((ms.map V.str).length : Nat)) then 1 else 0 : Int)).toNat [V.ref u]).flatten)) hl5
        have e35 := (e3.trans e4).trans e5
        refine k _ l5 _ (e.trans e35) ((e.trans (e3.trans e4)).free hl5) upd_same ?_
        have key : K34.nxt ls ms p = ((if decide ((p.1 : Int) < ((ls.map V.str).length : Nat)) then [(p.1 + 1, p.2)] else []) ++ (if p.1 < ls.length ∧ p.2 < ms.length ∧ K34.eqi ls ms p.1 p.2 = true then [(p.1 + 1, p.2 + 1)] else [])) ++ (if decide ((p.2 : Int) < ((ms.map V.str).length : Nat)) then [(p.1, p.2 + 1)] else []) := by
          unfold K34.nxt
          simp [List.append_assoc]
        rw [key, List.map_append]
        exact (AtL.keep (Ex.tk e35) _ _ h2).append (at_rep _ (.inl (.inl ((e4.trans e5) _ _ (Ex.laid hl3 _ _ upd_same)))))
end
end L2.K4
end
section
set_option Elab.async false
set_option linter.all false
set_option maxRecDepth 100000
set_option maxHeartbeats 4000000
/-! The law's defs: the cost of a way. -/
namespace L2.K4
open PySem PySem.Spec PyProof.Rows L2
section
variable {P : Program} {w : World} {K : PySem.W.Frag} {mg : Str → Option Value} {base : Heap}
def spLCost (K : PySem.W.Frag) : Sp := fun vs H Q _ => ∃ a b t v ls ms gc cc y, vs = [.ref a, .ref b, .ref t, v] ∧ SqL K H a (ls.map V.str) ∧ LOk ls ∧ SqL K H b (ms.map V.str) ∧ LOk ms ∧ KnAt K H t gc cc ∧ At K H (wyK y) v ∧ y ≠ [] ∧ y.length ≤ 100 ∧
  (∀ s ∈ K34.steps y, s.2 ∈ K34.nxt ls ms s.1) ∧ ∀ H', Ex H H' → Q (.int (K34.wcost ls ms gc cc y)) H'
theorem ok_law_cost (c : Cf K mg) : Kp P w K mg base 2 (He.ga K "_law_cost") (spLCost K) := by
  obtain ⟨fd, F⟩ := F__law_cost c
  have nd : (["_law_old", "_law_new", "_law_known", "_law_way", "_law_total", "_law_one", "_law_other"] : List Str).Nodup := by decide +kernel
  refine kp_of F (N := ["_law_old", "_law_new", "_law_known", "_law_way", "_law_total", "_law_one", "_law_other"]) (ps := ["_law_old", "_law_new", "_law_known", "_law_way"]) ⟨rfl, rfl, rfl, nd, rfl, by decide +kernel, by decide +kernel⟩ (F.bindsN fun _ _ _ _ _ _ us hl => match us, hl with | [_, _, _, _], _ => rfl) (fun vs H Q E h => ?_) (fun cdv A outer s H vs Q E hr h => ?_)
  · obtain ⟨a, b, t, v, ls, ms, gc, cc, y, rfl, _⟩ := h; rfl
  · obtain ⟨a, b, t, v, ls, ms, gc, cc, y, rfl, hA, hl, hB, hm, hK, hv, hne, hlen, hst, k⟩ := h
    obtain ⟨tw, xs, rfl, ht, hx⟩ := at_wy hv
    refine ⟨_, pss_cons (ps_set (i := 4) nd rfl (.inl rfl) pe_int)
      (pss_cons (ps_for PassesOwn.never rfl (RZ.pi_zipA (by rfl) (c.free "zip" (by decide +kernel)) (pa_cons (pv 3) (pa_cons (pe_slice sl_tup (pv 3) (po_some pe_int) po_none) pa_nil))) (pg_tup rfl (pgs_cons (pg_name (i := 5) nd rfl (.inl rfl)) (pgs_cons (pg_name (i := 6) nd rfl (.inl rfl)) pgs_nil)))
        (Evl.pss_cut (ps_if (pt_cmpR op_eq (pe_ix ix_tup (pv 6) pe_int (fun _ _ => rfl)) (pe_ix ix_tup (pv 5) pe_int (fun _ _ => rfl)) (nomark _))
          (pss_one (ps_set (i := 4) nd rfl (.inl rfl) (pe_op op_add (pv 4) (pe_cal c (ok_law_price c) hr (pa_cons (pv 2) (pa_cons (pe_ix ix_list (pv 0) (pe_ix ix_tup (pv 5) pe_int (fun _ _ => rfl)) (fun _ _ => rfl)) (pa_cons pe_int pa_nil))))))) pss_nil)
        (pss_one (ps_if (pt_cmpR op_eq (pe_ix ix_tup (pv 6) pe_int (fun _ _ => rfl)) (pe_ix ix_tup (pv 5) pe_int (fun _ _ => rfl)) (nomark _))
          (pss_one (ps_set (i := 4) nd rfl (.inl rfl) (pe_op op_add (pv 4) (pe_cal c (ok_law_price c) hr (pa_cons (pv 2) (pa_cons (pe_ix ix_list (pv 1) (pe_ix ix_tup (pv 5) pe_int (fun _ _ => rfl)) (fun _ _ => rfl)) (pa_cons pe_int pa_nil))))))) pss_nil))))
      (pss_one (ps_ret (pv 4)))), ?_⟩
    have nx : xs ≠ [] := fun e => hne (by have := AtL.length hx; rw [e] at this; exact List.length_eq_zero_iff.mp (by simpa using this.symm))
    refine ⟨_, rfl, _, rfl, 1, rfl, tw, xs, rfl, ht, not_whole nx, fun u hu => ?_⟩
    rw [cutV_tail]
    have eu := Ex.laid (o := .tup xs.tail) hu
    have huu : (upd H u (.tup xs.tail)) u = some (.tup xs.tail) := upd_same
    generalize upd H u (.tup xs.tail) = H2 at eu huu
    let cst : Pl × Pl → Int := fun s => K34.lcost ls ms gc cc s.1 s.2
    refine ⟨tw, u, xs, xs.tail, rfl, .inr ⟨ext' eu ht, .inl (.inl huu), ?_⟩⟩
    refine forG (n := min xs.length xs.tail.length) (Y := fun i v H' => ∃ T x y, v = .ref T ∧ H' T = some (.tup [x, y]) ∧ xs[i]? = some x ∧ xs.tail[i]? = some y)
      (fun i σ' H' => (∃ o5 o6, σ' = [some (.ref a), some (.ref b), some (.ref t), some (.ref tw), some (.int (((K34.steps y).take i).map cst).sum), o5, o6]) ∧ Ex H2 H')
      ⟨⟨none, none, rfl⟩, Ex.refl⟩ (fun i σ' H' _ q => sw_zipT (ext' (eu.trans q.2) ht) (.inl (.inl (q.2 _ _ huu)))) (fun i x σ' H' H'' hi q ex hxi => ?_) fun σ' H' q => ?_
    · obtain ⟨⟨o5, o6, rfl⟩, e⟩ := q
      obtain ⟨T, x1, y1, rfl, hT, hx1, hy1⟩ := hxi
      have e' := eu.trans (e.trans ex)
      obtain ⟨p, q, hs, ap, aq⟩ := step_at (AtL.keep (Ex.tk e') _ _ hx) hx1 hy1
      obtain ⟨tp, rfl, sp⟩ := at_pl ap
      obtain ⟨tq, rfl, sq⟩ := at_pl aq
      have hnx := hst (p, q) (List.mem_of_getElem? hs)
      refine ⟨T, _, rfl, .inl (.inl hT), rfl, _, _, rfl, _, _, rfl, rfl, ?_⟩
      refine ⟨fun σ3 H3 => σ3 = [some (.ref a), some (.ref b), some (.ref t), some (.ref tw), some (.int ((((K34.steps y).take i).map cst).sum + (if q.2 = p.2 then K34.gi ls gc p.1 else 0))), some (.ref tp), some (.ref tq)] ∧ H3 = H'', ?_, fun σ3 H3 h3 => ?_⟩
      · refine ⟨_, rfl, tq, _, _, _, rfl, rfl, sq, atI_nat (xs := plV q) (j := 1) rfl, _, rfl, tp, _, _, _, rfl, rfl, sp, atI_nat (xs := plV p) (j := 1) rfl, rfl, _, rfl, ?_⟩
        by_cases h : q.2 = p.2
        · refine iteP (decide_eq_true (by rw [h])) ?_
          have h1 : p.1 < ls.length := by
            rcases (K34.nxt_iff ls ms).mp hnx with ⟨q1, _⟩ | ⟨q1, _⟩ | ⟨_, q1⟩
            · exact q1
            · exact q1
            · have q2 : q = (p.1, p.2 + 1) := q1
              rw [q2] at h; simp at h
          have i1 : (ls.map V.str)[p.1]? = some (.str ls[p.1]) := by rw [List.getElem?_map, List.getElem?_eq_getElem h1]; rfl
          have g1 : K34.gi ls gc p.1 = gc ls[p.1] := by unfold K34.gi; rw [List.getElem?_eq_getElem h1]
          refine ⟨_, rfl, _, rfl, _, rfl, _, rfl, tp, _, _, _, rfl, rfl, sp, atI_nat (xs := plV p) (j := 0) rfl, a, _, _, _, rfl, rfl, exl e' hA, atI_nat i1, t, ls[p.1], false, gc, cc, rfl, hl.2 _ (List.getElem_mem h1), hK.ex e', _, _, rfl, rfl, ?_⟩
          exact ⟨by rw [if_pos h, g1]; rfl, rfl⟩
        · refine iteN (decide_eq_false (fun z => h (Int.ofNat.inj (V.int.inj z)))) ⟨by rw [if_neg h, Int.add_zero]; rfl, rfl⟩
      · obtain ⟨rfl, rfl⟩ := h3
        have tk1 : (((K34.steps y).take (i + 1)).map cst).sum = (((K34.steps y).take i).map cst).sum + ((if q.2 = p.2 then K34.gi ls gc p.1 else 0) + (if q.1 = p.1 then K34.gi ms cc p.2 else 0)) := by
          rw [List.take_add_one, hs, List.map_append, List.sum_append]
          simp [cst, K34.lcost]
        refine ⟨_, rfl, tq, _, _, _, rfl, rfl, sq, atI_nat (xs := plV q) (j := 0) rfl, _, rfl, tp, _, _, _, rfl, rfl, sp, atI_nat (xs := plV p) (j := 0) rfl, rfl, _, rfl, ?_⟩
        by_cases h : q.1 = p.1
        · refine iteP (decide_eq_true (by rw [h])) ?_
          have h1 : p.2 < ms.length := by
            rcases (K34.nxt_iff ls ms).mp hnx with ⟨_, q1⟩ | ⟨_, q1, _⟩ | ⟨q1, _⟩
            · have q2 : q = (p.1 + 1, p.2) := q1
              rw [q2] at h; simp at h
            · exact q1
            · exact q1
          have i1 : (ms.map V.str)[p.2]? = some (.str ms[p.2]) := by rw [List.getElem?_map, List.getElem?_eq_getElem h1]; rfl
          have g1 : K34.gi ms cc p.2 = cc ms[p.2] := by unfold K34.gi; rw [List.getElem?_eq_getElem h1]
          refine ⟨_, rfl, _, rfl, _, rfl, _, rfl, tp, _, _, _, rfl, rfl, sp, atI_nat (xs := plV p) (j := 1) rfl, b, _, _, _, rfl, rfl, exl e' hB, atI_nat i1, t, ms[p.2], true, gc, cc, rfl, hm.2 _ (List.getElem_mem h1), hK.ex e', _, _, rfl, rfl, ?_⟩
          exact ⟨⟨_, _, by rw [tk1, if_pos h, g1, ← Int.add_assoc]; rfl⟩, e.trans ex⟩
        · refine iteN (decide_eq_false (fun z => h (Int.ofNat.inj (V.int.inj z)))) ⟨⟨_, _, by rw [tk1, if_neg h, Int.add_zero]⟩, e.trans ex⟩
    · obtain ⟨⟨o5, o6, rfl⟩, e⟩ := q
      rw [steps_n hx, List.take_length]
      exact ⟨_, rfl, k H' (eu.trans e)⟩
end
end L2.K4
end
section
set_option Elab.async false
set_option linter.all false
set_option maxRecDepth 100000
set_option maxHeartbeats 4000000
/-! The law's defs: longer ways. -/
namespace L2.K4
open PySem PySem.Spec PyProof.Rows L2
theorem nxt_ne {ls ms : List Str} {q : Pl} (h1 : q.1 ≤ ls.length) (h2 : q.2 ≤ ms.length) (h : q ≠ (ls.length, ms.length)) : K34.nxt ls ms q ≠ [] := fun e => by
  by_cases g : q.1 < ls.length
  · have : ((q.1 + 1, q.2) : Pl) ∈ K34.nxt ls ms q := (K34.nxt_iff ls ms).mpr (.inl ⟨g, rfl⟩)
    rw [e] at this; cases this
  · have g2 : q.2 < ms.length := by
      rcases Nat.lt_or_ge q.2 ms.length with z | z
      · exact z
      · exact absurd (Prod.ext (by dsimp only; omega) (by dsimp only; omega)) h
    have : ((q.1, q.2 + 1) : Pl) ∈ K34.nxt ls ms q := (K34.nxt_iff ls ms).mpr (.inr (.inr ⟨g2, rfl⟩))
    rw [e] at this; cases this
theorem nxt_len (ls ms : List Str) (q : Pl) : (K34.nxt ls ms q).length ≤ 3 := by
  unfold K34.nxt
  simp only [List.length_append]
  split <;> split <;> split <;> simp
/-- what one way gives -/
def lon1 (ls ms : List Str) (w : Wy) : List Wy := if w.getLast? = some (ls.length, ms.length) then [w] else (K34.nxt ls ms (w.getLast?.getD (0, 0))).map fun p => w ++ [p]
theorem longer_eq (ls ms : List Str) (ws : List Wy) : K34.longer ls ms ws = ws.flatMap (lon1 ls ms) := rfl
theorem wyK_snoc (y : Wy) (q : Pl) : wyK (y ++ [q]) = .tup (y.map plK ++ [plK q]) := by unfold wyK; rw [List.map_append]; rfl
theorem at_repK {K : PySem.W.Frag} {H : Hp} (b : Bool) {k : NK} {v : V} (h : At K H k v) : AtL K H (if b then [k] else []) ((List.replicate ((if b then 1 else 0 : Int)).toNat [v]).flatten) := by
  rw [rep1]
  cases b
  · exact AtL.nil
  · exact AtL.one h
theorem rep_len (b : Bool) (v : V) : ((List.replicate ((if b then 1 else 0 : Int)).toNat [v]).flatten).length = if b then 1 else 0 := by rw [rep1]; cases b <;> rfl
theorem pls_ok (ps : List Pl) : ∀ k ∈ ps.map plK, numK k = true ∧ k.depth ≤ 8 := fun k hk => by
  obtain ⟨p, _, rfl⟩ := List.mem_map.mp hk
  exact ⟨numK_pl p, plK_depth p⟩
section
variable {P : Program} {w : World} {K : PySem.W.Frag} {mg : Str → Option Value} {base : Heap}
def WysOk (ls ms : List Str) (ws : List Wy) : Prop := ws.length ≤ 10000 ∧ ∀ y ∈ ws, y.length ≤ 20 ∧ ∃ q, y.getLast? = some q ∧ q.1 ≤ ls.length ∧ q.2 ≤ ms.length
def spLonger (K : PySem.W.Frag) : Sp := fun vs H Q _ => ∃ a b l ls ms ws xs, vs = [.ref a, .ref b, .ref l] ∧ SqL K H a (ls.map V.str) ∧ SqL K H b (ms.map V.str) ∧ H l = some (.lst xs) ∧ AtL K H (ws.map wyK) xs ∧ WysOk ls ms ws ∧
  ∀ H' l' xs', Ex H H' → H l' = none → H' l' = some (.lst xs') → AtL K H' ((K34.longer ls ms ws).map wyK) xs' → Q (.ref l') H'
theorem ok_law_longer (c : Cf K mg) : Kp P w K mg base 2 (He.ga K "_law_longer") (spLonger K) := by
  obtain ⟨fd, F⟩ := F__law_longer c
  have nd : (["_law_old", "_law_new", "_law_some", "_law_found", "_law_end", "_law_way", "_law_others", "_law_place"] : List Str).Nodup := by decide +kernel
  refine kp_of F (N := ["_law_old", "_law_new", "_law_some", "_law_found", "_law_end", "_law_way", "_law_others", "_law_place"]) (ps := ["_law_old", "_law_new", "_law_some"]) ⟨rfl, rfl, rfl, nd, rfl, by decide +kernel, by decide +kernel⟩ (F.bindsN fun _ _ _ _ _ _ us hl => match us, hl with | [_, _, _], _ => rfl) (fun vs H Q E h => ?_) (fun cdv A outer s H vs Q E hr h => ?_)
  · obtain ⟨a, b, l, ls, ms, ws, xs, rfl, _⟩ := h; rfl
  · obtain ⟨a, b, l, ls, ms, ws, xs, rfl, hA, hB, hl, hx, hok, k⟩ := h
    have hu64 := hr.units
    refine ⟨_, pss_cons (ps_par (i := 3) (j := 4) rfl nd rfl rfl (by decide) rfl rfl (pa_cons (pe_lst pa_nil) (pa_cons (pe_tup (pa_cons (pe_callB call_len_seq (by rfl) (c.free "len" (by decide +kernel)) PySem.boot_len (pa_cons (pv 0) pa_nil)) (pa_cons (pe_callB call_len_seq (by rfl) (c.free "len" (by decide +kernel)) PySem.boot_len (pa_cons (pv 1) pa_nil)) pa_nil))) pa_nil)) (by rfl))
      (pss_cons (ps_for PassesOwn.never rfl (pi_list (pv 2)) (pg_name (i := 5) nd rfl (.inr rfl))
        (Evl.pss_cut (ps_set (i := 6) nd rfl (.inl rfl) (pe_ifExp (pt_cmpR (op_eqA hr.units) (pe_ix ix_tup (pv 5) (pe_un un_neg pe_int) (fun _ _ => rfl)) (pv 4) (nomark _)) (pe_lst pa_nil) (pe_cal c (ok_law_next c) hr (pa_cons (pv 0) (pa_cons (pv 1) (pa_cons (pe_ix ix_tup (pv 5) (pe_un un_neg pe_int) (fun _ _ => rfl)) pa_nil))))))
        (pss_one (ps_expr (pe_bm PySem.F.plainAttrs_list PySem.F.slot_list_extend PySem.F.type_list_extend mt_extend (pv 3) (pa_cons (pe_op op_cat
          (pe_lc (own := [("_law_place", 7)]) (g := gName 7) (tt := tYes) (te := tOp (rCatT K) (tVar 5) (tTup (tCons (tVar 7) tNil))) rfl nd (pi_list (pv 6)) (blkOk_by (N := ["_law_old", "_law_new", "_law_some", "_law_found", "_law_end", "_law_way", "_law_others", "_law_place"]) (sc := defScope s_law_longer) (by decide +kernel)) (fun _ _ _ _ _ => pg_name (i := 7) nd rfl (Or.inl rfl)) (fun _ _ _ _ _ => pts_nil) (fun _ _ _ _ _ => pe_op op_catT (pv 5) (pe_tup (pa_cons (pv 7) pa_nil))))
          (pe_op op_rep (pe_lst (pa_cons (pv 5) pa_nil)) (pe_callTy call_int1 (by rfl) (c.free "int" (by decide +kernel)) (by decide +kernel) (pa_cons (pe_cmpR (op_eqLA hr.units) (pv 6) (pe_lst pa_nil) (nomark _)) pa_nil)))) pa_nil))))))
      (pss_one (ps_ret (pv 3)))), ?_⟩
    refine ⟨by show 0 ≤ sizeLine; decide, fun fo hfo => ?_⟩
    have e0 := Ex.laid (o := .lst []) hfo
    refine ⟨_, rfl, a, _, rfl, .inl (exl e0 hA), _, rfl, b, _, rfl, .inl (exl e0 hB), by show 2 ≤ sizeLine; decide, fun en hen => ⟨_, _, rfl, ?_⟩⟩
    have e2 := e0.trans (Ex.laid (o := .tup [V.int ((ls.map V.str).length : Nat), V.int ((ms.map V.str).length : Nat)]) hen)
    have hfo2 : (upd (upd H fo (.lst [])) en (.tup [V.int ((ls.map V.str).length : Nat), V.int ((ms.map V.str).length : Nat)])) fo = some (.lst []) := Ex.laid hen _ _ upd_same
    have hen2 : (upd (upd H fo (.lst [])) en (.tup [V.int ((ls.map V.str).length : Nat), V.int ((ms.map V.str).length : Nat)])) en = some (.tup (plV (ls.length, ms.length))) := by rw [upd_same, List.length_map, List.length_map]; rfl
    generalize upd (upd H fo (.lst [])) en _ = H2 at e2 hfo2 hen2
    have B22 : Ex (er fo H2) H2 := ex_er
    have hBf : (er fo H2) fo = none := er_self
    have nef : en ≠ fo := by rintro rfl; rw [hfo2] at hen2; cases hen2
    have henB : (er fo H2) en = some (.tup (plV (ls.length, ms.length))) := by rw [er_ne nef]; exact hen2
    have eHB : Ex H (er fo H2) := fun x o h => by rw [er_ne (ne_of_none h hfo)]; exact e2 x o h
    generalize er fo H2 = B at B22 hBf henB eHB
    have lx : xs.length = ws.length := by rw [AtL.length hx, List.length_map]
    refine ⟨_, rfl, l, rfl, ⟨_, .inl (.inl (e2 _ _ hl))⟩, ?_⟩
    refine forG (n := xs.length) (Y := fun i x _ => xs[i]? = some x)
      (fun i σ' H' => (∃ o5 o6, σ' = [some (.ref a), some (.ref b), some (.ref l), some (.ref fo), some (.ref en), o5, o6, none]) ∧ Ex B H' ∧ ∃ acc, H' fo = some (.lst acc) ∧ AtL K H' ((K34.longer ls ms (ws.take i)).map wyK) acc ∧ acc.length ≤ 3 * i)
      ⟨⟨none, none, rfl⟩, B22, [], hfo2, by rw [List.take_zero]; exact AtL.nil, Nat.zero_le _⟩ (fun i σ' H' _ q => sw_list (.inl (.inl (q.2.1 _ _ (eHB _ _ hl))))) (fun i x σ' H' H'' hi q ex hxi => ?_) fun σ' H' q => ?_
    · obtain ⟨⟨o5, o6, rfl⟩, e, acc, hacc, aacc, lacc⟩ := q
      have e' := e.trans ex
      have eH := eHB.trans e'
      obtain ⟨ky, k1, k2⟩ := AtL.get (AtL.keep (Ex.tk eH) _ _ hx) hxi
      rw [List.getElem?_map] at k1
      obtain ⟨y, hy, rfl⟩ := Option.map_eq_some_iff.mp k1
      obtain ⟨tw, zs, rfl, st, az⟩ := at_wy k2
      obtain ⟨hl20, q, hq, hq1, hq2⟩ := hok.2 y (List.mem_of_getElem? hy)
      obtain ⟨zs', z, ez, aq⟩ := AtL.last (k := plK q) az (by rw [List.getLast?_map, hq]; rfl)
      have gx : atI zs (-1) = some z := by rw [ez]; exact atI_last _ _
      have nz : zs ≠ [] := by rw [ez]; simp
      have lz : zs.length ≤ 20 := by rw [AtL.length az, List.length_map]; exact hl20
      have ae : At K H'' (plK (ls.length, ms.length)) (.ref en) := pl_at (.inl (.inl (e' _ _ henB)))
      refine ⟨fun σ2 H3 => ∃ lo qs ys, σ2 = [some (.ref a), some (.ref b), some (.ref l), some (.ref fo), some (.ref en), some (.ref tw), some (.ref lo), none] ∧ Ex H'' H3 ∧ H3 lo = some (.lst ys) ∧ AtL K H3 (qs.map plK) ys ∧ qs = (if q = (ls.length, ms.length) then [] else K34.nxt ls ms q), ?_, fun σ2 H3 S2 => ?_⟩
      · refine ⟨_, rfl, 1, rfl, tw, _, _, _, rfl, rfl, st, gx, _, rfl, plK q, plK (ls.length, ms.length), aq, ae, numK_pl _, numK_pl _, plK_depth _, plK_depth _, _, rfl, ?_⟩
        by_cases h : q = (ls.length, ms.length)
        · exact iteP (decide_eq_true (by rw [h])) ⟨by show 0 ≤ sizeLine; decide, fun lo hlo => ⟨lo, [], [], rfl, Ex.laid hlo, upd_same, AtL.nil, by rw [if_pos h]⟩⟩
        · exact iteN (decide_eq_false fun z => h (plK_inj z)) ⟨_, rfl, _, rfl, _, rfl, 1, rfl, tw, _, _, _, rfl, rfl, st, gx, a, b, _, ls, ms, q, rfl, exl eH hA, exl eH hB, aq, fun H3 lo ys e3 hlo0 hlo3 a3 => ⟨lo, _, ys, rfl, e3, hlo3, a3, by rw [if_neg h]⟩⟩
      · obtain ⟨lo, qs, ys, rfl, e3, hlo3, a3, hqs⟩ := S2
        have eB3 := e'.trans e3
        have hfo3 := (ex.trans e3) _ _ hacc
        have lq : qs.length ≤ 3 := by
          rw [hqs]; split
          · exact Nat.zero_le _
          · exact nxt_len _ _ _
        have ly : ys.length = qs.length := by rw [AtL.length a3, List.length_map]
        refine ⟨_, rfl, .inl ⟨rfl, _, .inl (.inl hfo3)⟩, _, rfl, lo, rfl, ⟨_, .inl (.inl hlo3)⟩, fun D hD => ?_⟩
        refine lcG (n := ys.length) (Y := fun i x _ => ys[i]? = some x) hD (fun i => (qs.map fun p => wyK (y ++ [p]))[i]?) (AtD K) AtD.mono (by rw [ly]; exact Nat.lt_of_le_of_lt lq (by decide)) (fun H' e => sw_list (.inl (.inl (e _ _ hlo3)))) (fun j x H4 ds hj e4 hxj hDl Q2 q2 => ?_) fun H4 ds e4 hds hpp => ?_
        · obtain ⟨kx, k1, k2⟩ := AtL.get (AtL.keep (Ex.tk e4) _ _ a3) hxj
          rw [List.getElem?_map] at k1
          obtain ⟨p, hp, rfl⟩ := Option.map_eq_some_iff.mp k1
          refine ⟨rfl, _, rfl, _, rfl, by show 1 ≤ sizeLine; decide, fun u hu => ?_⟩
          have e5 := Ex.laid (o := .tup [x]) hu
          refine ⟨tw, u, zs, [x], rfl, rfl, ext' ((e3.trans e4).trans e5) st, .inl (.inl upd_same), nz, Nat.le_trans (show zs.length + 1 ≤ 21 by omega) (by decide), fun z => by (cases z), fun _ u2 hu2 => ?_⟩
          have e6 := Ex.laid (o := .tup (zs ++ [x])) hu2
          refine q2 (some (.ref u2)) _ (e5.trans e6) ?_
          rw [List.getElem?_map, hp]
          show AtD K D (wyK (y ++ [p])) _ _
          rw [wyK_snoc]
          exact AtD.of (At.tup (.inl (.inl upd_same)) ((AtL.keep (Ex.tk (((e3.trans e4).trans e5).trans e6)) _ _ az).append (AtL.one (At.keep (Ex.tk (e5.trans e6)) _ _ k2)))) ((e5.trans e6) _ _ hDl)
        · have em : made (fun i => (qs.map fun p => wyK (y ++ [p]))[i]?) ys.length = qs.map fun p => wyK (y ++ [p]) := by
            have := made_all (qs.map fun p => wyK (y ++ [p]))
            rwa [List.length_map, ← ly] at this
          rw [em] at hpp
          have hds' := AtD.all hpp
          have lds : ds.length ≤ 3 := by rw [AtL.length hds', List.length_map]; exact lq
          refine ⟨_, rfl, by show 1 ≤ sizeLine; decide, fun l1 hl1 => ?_⟩
          have e5 := Ex.laid (o := .lst [V.ref tw]) hl1
          refine ⟨_, rfl, by show 0 ≤ sizeLine; decide, fun l2 hl2 => ?_⟩
          have e6 := Ex.laid (o := .lst []) hl2
          have e46 := (e4.trans e5).trans e6
          refine ⟨lo, l2, ys, [], qs.map plK, [], rfl, rfl, .inl (.inl (e46 _ _ hlo3)), .inl (.inl upd_same), AtL.keep (Ex.tk e46) _ _ a3, AtL.nil, pls_ok _, fun k hk => (by cases hk), ?_⟩
          refine .inr ⟨_, rfl, l1, _, _, rfl, rfl, Ex.laid hl2 _ _ upd_same, (rep_b _).1, (rep_b _).2, rep_s _ _, fun l3 hl3 => ?_⟩
          have e7 := Ex.laid (o := .lst (List.replicate ((if decide (qs.map plK = []) then 1 else 0 : Int)).toNat [V.ref tw]).flatten) hl3
          have lsum : ds.length + ((List.replicate ((if decide (qs.map plK = []) then 1 else 0 : Int)).toNat [V.ref tw]).flatten).length ≤ 3 := by
            have q1 := AtL.length hds'
            rw [List.length_map] at q1
            rw [rep_len, q1]
            by_cases h : qs = []
            · rw [h]; decide
            · rw [decide_eq_false (by simpa using h)]; exact lq
          refine ⟨D, l3, ds, _, rfl, rfl, ((e5.trans e6).trans e7) _ _ hds, upd_same, Nat.le_trans lsum (by decide), fun l4 hl4 => ?_⟩
          have e8 := Ex.laid (o := .lst (ds ++ (List.replicate ((if decide (qs.map plK = []) then 1 else 0 : Int)).toNat [V.ref tw]).flatten)) hl4
          have e48 := (e46.trans e7).trans e8
          refine ⟨fo, l4, acc, _, rfl, rfl, e48 _ _ hfo3, upd_same, ?_, ⟨_, _, rfl⟩, Ex.mut (eB3.trans e48) hBf, _, upd_same, ?_, ?_⟩
          · have := hok.1
            exact Nat.le_trans (Nat.add_le_add_left (show _ ≤ 3 from by rw [List.length_append]; exact lsum) _) (Nat.le_trans (show _ ≤ 30003 by omega) (by decide))
          · have t1 : ws.take (i + 1) = ws.take i ++ [y] := by rw [List.take_add_one, hy]; rfl
            have t2 : (K34.longer ls ms (ws.take (i + 1))).map wyK = (K34.longer ls ms (ws.take i)).map wyK ++ ((qs.map fun p => wyK (y ++ [p])) ++ (if decide (qs.map plK = []) then [wyK y] else [])) := by
              rw [t1, longer_eq, longer_eq, List.flatMap_append, List.map_append]
              congr 1
              rw [List.flatMap_singleton]
              unfold lon1
              rw [hq]
              by_cases h : q = (ls.length, ms.length)
              · rw [if_pos h] at hqs
                subst hqs
                rw [if_pos (by rw [h])]
                rfl
              · rw [if_neg h] at hqs
                rw [if_neg (fun z => h (Option.some.inj z)), hqs]
                have := nxt_ne hq1 hq2 h
                simp [this, List.map_map, Function.comp_def]
            rw [t2]
            have tk := TK.lst (K := K) (o := .lst (acc ++ (ds ++ (List.replicate ((if decide (qs.map plK = []) then 1 else 0 : Int)).toNat [V.ref tw]).flatten))) (e48 _ _ hfo3)
            refine AtL.keep tk _ _ ((AtL.keep (Ex.tk ((ex.trans e3).trans e48)) _ _ aacc).append ((AtL.keep (Ex.tk (((e5.trans e6).trans e7).trans e8)) _ _ hds').append (at_repK _ ?_)))
            exact At.keep (Ex.tk (e3.trans e48)) _ _ k2
          · rw [List.length_append]
            exact Nat.le_trans (Nat.add_le_add_left (show _ ≤ 3 from by rw [List.length_append]; exact lsum) _) (by omega)
    · obtain ⟨⟨o5, o6, rfl⟩, e, acc, hacc, aacc, lacc⟩ := q
      rw [lx, List.take_length] at aacc
      exact ⟨_, rfl, k H' fo acc (eHB.trans e) hfo hacc aacc⟩
end
end L2.K4
end
section
set_option Elab.async false
set_option linter.all false
set_option maxRecDepth 100000
set_option maxHeartbeats 4000000
/-! The law's defs: all ways. -/
namespace L2.K4
open PySem PySem.Spec PyProof.Rows L2
theorem lon1_len (ls ms : List Str) (y : Wy) : (lon1 ls ms y).length ≤ 3 := by
  unfold lon1
  split
  · simp
  · rw [List.length_map]; exact nxt_len _ _ _
theorem longer_len (ls ms : List Str) : ∀ ws : List Wy, (K34.longer ls ms ws).length ≤ 3 * ws.length
  | [] => Nat.zero_le _
  | y :: ws => by
    have a := longer_len ls ms ws
    have b := lon1_len ls ms y
    rw [longer_eq] at a ⊢
    rw [List.flatMap_cons, List.length_append, List.length_cons]
    omega
theorem ways_len (ls ms : List Str) : ∀ k, (K34.ways ls ms k).length ≤ 3 ^ k
  | 0 => Nat.le_refl 1
  | k + 1 => by
    have a := ways_len ls ms k
    have b := longer_len ls ms (K34.ways ls ms k)
    show (K34.longer ls ms (K34.ways ls ms k)).length ≤ _
    rw [Nat.pow_succ]; omega
theorem ways_few (ls ms : List Str) {k : Nat} (hk : k ≤ 8) : (K34.ways ls ms k).length ≤ 10000 :=
  Nat.le_trans (ways_len ls ms k) (Nat.le_trans (Nat.pow_le_pow_right (by decide) hk) (by decide))
theorem ways_ok (ls ms : List Str) {k : Nat} (hk : k ≤ 8) : WysOk ls ms (K34.ways ls ms k) := ⟨ways_few ls ms hk, fun y hy => by
  obtain ⟨q, hG, hl⟩ := (K34.ways_iff ls ms k y).mp hy
  exact ⟨by omega, q, hG.last, hG.inb ⟨Nat.zero_le _, Nat.zero_le _⟩⟩⟩
theorem ways_ex (ls ms : List Str) : ∀ k, k ≤ 8 → ∃ y, y ∈ K34.ways ls ms k
  | 0, _ => ⟨_, List.mem_cons_self⟩
  | k + 1, hk => by
    obtain ⟨y, hy⟩ := ways_ex ls ms k (by omega)
    obtain ⟨q, hq, h1, h2⟩ := ((ways_ok ls ms (k := k) (by omega)).2 y hy).2
    have : lon1 ls ms y ≠ [] := by
      unfold lon1
      rw [hq]
      by_cases h : q = (ls.length, ms.length)
      · rw [if_pos (by rw [h])]; simp
      · rw [if_neg (fun z => h (Option.some.inj z))]
        have := nxt_ne h1 h2 h
        simpa using this
    obtain ⟨z, hz⟩ := List.exists_mem_of_ne_nil _ this
    exact ⟨z, by show z ∈ K34.longer ls ms (K34.ways ls ms k); rw [longer_eq]; exact List.mem_flatMap.mpr ⟨y, hy, hz⟩⟩
theorem gc_steps {ls ms : List Str} {p q : Pl} {y : Wy} (h : K34.Gc ls ms p q y) : ∀ s ∈ K34.steps y, s.2 ∈ K34.nxt ls ms s.1 := by
  induction h with
  | nil p => intro s hs; rw [K34.steps_one] at hs; cases hs
  | cons e k ih =>
    obtain ⟨t, rfl⟩ := k.head
    intro s hs
    rw [K34.steps_cons, List.mem_cons] at hs
    rcases hs with rfl | hs
    · exact e
    · exact ih s hs
theorem made_bind {α κ : Type} (xs : List α) (f : α → Option κ) : made (fun i => (xs[i]?).bind f) xs.length = xs.filterMap f := by
  have h := made_all xs
  have : made (fun i => (xs[i]?).bind f) xs.length = (made (fun i => xs[i]?) xs.length).filterMap f := by
    unfold made
    rw [List.filterMap_filterMap]
  rw [this, h]
theorem made_mapL {α κ : Type} (xs : List α) (f : α → κ) : made (fun i => (xs[i]?).map f) xs.length = xs.map f := by
  have := made_all (xs.map f)
  rw [List.length_map] at this
  simpa only [List.getElem?_map] using this
section
variable {P : Program} {w : World} {K : PySem.W.Frag} {mg : Str → Option Value} {base : Heap}
def spWays (K : PySem.W.Frag) : Sp := fun vs H Q _ => ∃ a b ls ms, vs = [.ref a, .ref b] ∧ SqL K H a (ls.map V.str) ∧ SqL K H b (ms.map V.str) ∧ ls.length ≤ 4 ∧ ms.length ≤ 4 ∧
  ∀ H' l xs, Ex H H' → H l = none → H' l = some (.lst xs) → AtL K H' ((K34.ways ls ms (ls.length + ms.length)).map wyK) xs → Q (.ref l) H'
theorem ok_law_ways (c : Cf K mg) : Kp P w K mg base 3 (He.ga K "_law_ways") (spWays K) := by
  obtain ⟨fd, F⟩ := F__law_ways c
  have nd : (["_law_old", "_law_new", "_law_found", "_law_turn"] : List Str).Nodup := by decide +kernel
  refine kp_of F (N := ["_law_old", "_law_new", "_law_found", "_law_turn"]) (ps := ["_law_old", "_law_new"]) ⟨rfl, rfl, rfl, nd, rfl, by decide +kernel, by decide +kernel⟩ (F.bindsN fun _ _ _ _ _ _ us hl => match us, hl with | [_, _], _ => rfl) (fun vs H Q E h => ?_) (fun cdv A outer s H vs Q E hr h => ?_)
  · obtain ⟨a, b, ls, ms, rfl, _⟩ := h; rfl
  · obtain ⟨a, b, ls, ms, rfl, hA, hB, hl, hm, k⟩ := h
    refine ⟨_, pss_cons (ps_set (i := 2) nd rfl (.inl rfl) (pe_lst (pa_cons (pe_tup (pa_cons (pe_tup (pa_cons pe_int (pa_cons pe_int pa_nil))) pa_nil)) pa_nil)))
      (pss_cons (ps_for PassesOwn.never rfl (pi_range1 (by rfl) (c.free "range" (by decide +kernel)) (pa_cons (pe_op op_add (pe_callB call_len_seq (by rfl) (c.free "len" (by decide +kernel)) PySem.boot_len (pa_cons (pv 0) pa_nil)) (pe_callB call_len_seq (by rfl) (c.free "len" (by decide +kernel)) PySem.boot_len (pa_cons (pv 1) pa_nil))) pa_nil)) (pg_name (i := 3) nd rfl (.inl rfl))
        (pss_one (ps_set (i := 2) nd rfl (.inl rfl) (pe_cal c (ok_law_longer c) hr (pa_cons (pv 0) (pa_cons (pv 1) (pa_cons (pv 2) pa_nil)))))))
      (pss_one (ps_ret (pv 2)))), ?_⟩
    refine ⟨by show 2 ≤ sizeLine; decide, fun t ht => ⟨by show 1 ≤ sizeLine; decide, fun u hu => ⟨by show 1 ≤ sizeLine; decide, fun l hl0 => ?_⟩⟩⟩
    have e1 := Ex.laid (o := .tup [V.int 0, V.int 0]) ht
    have e2 := Ex.laid (o := .tup [V.ref t]) hu
    have e3 := Ex.laid (o := .lst [V.ref u]) hl0
    have hat : AtL K (upd (upd (upd H t (.tup [V.int 0, V.int 0])) u (.tup [V.ref t])) l (.lst [V.ref u])) ((K34.ways ls ms 0).map wyK) [V.ref u] :=
      AtL.one (At.tup (.inl (.inl (e3 _ _ upd_same))) (AtL.one (pl_at (p := (0, 0)) (.inl (.inl ((e2.trans e3) _ _ upd_same))))))
    have hlf := (e1.trans e2).free hl0
    have hll : (upd (upd (upd H t (.tup [V.int 0, V.int 0])) u (.tup [V.ref t])) l (.lst [V.ref u])) l = some (.lst [V.ref u]) := upd_same
    have e13 := (e1.trans e2).trans e3
    generalize upd (upd (upd H t (.tup [V.int 0, V.int 0])) u (.tup [V.ref t])) l (.lst [V.ref u]) = H2 at hat hll e13
    refine ⟨_, rfl, a, _, rfl, .inl (exl e13 hA), _, rfl, b, _, rfl, .inl (exl e13 hB), _, _, rfl, rfl, _, rfl, ?_⟩
    have ej : (((ls.map V.str).length : Nat) : Int) + (((ms.map V.str).length : Nat) : Int) = ((ls.length + ms.length : Nat) : Int) := by rw [List.length_map, List.length_map]; omega
    refine ⟨by omega, by omega, ?_⟩
    rw [ej, Int.toNat_natCast]
    refine forG (n := ls.length + ms.length) (Y := fun i x _ => x = .int (0 + i))
      (fun i σ' H' => ∃ lf o3 xs, σ' = [some (.ref a), some (.ref b), some (.ref lf), o3] ∧ H lf = none ∧ H' lf = some (.lst xs) ∧ AtL K H' ((K34.ways ls ms i).map wyK) xs ∧ Ex H H')
      ⟨l, none, _, rfl, hlf, hll, hat, e13⟩ (fun i σ' H' _ q => sw_range) (fun i x σ' H' H'' hi q ex hxi => ?_) fun σ' H' q => ?_
    · obtain ⟨lf, o3, xs, rfl, h0, h1, h2, e⟩ := q
      have e' := e.trans ex
      exact ⟨_, rfl, _, rfl, _, rfl, a, b, lf, ls, ms, K34.ways ls ms i, xs, rfl, exl e' hA, exl e' hB, ex _ _ h1, AtL.keep (Ex.tk ex) _ _ h2, ways_ok ls ms (by omega), fun H3 l3 xs3 e3 hl3 h3 a3 => ⟨l3, _, xs3, rfl, e'.free hl3, h3, a3, e'.trans e3⟩⟩
    · obtain ⟨lf, o3, xs, rfl, h0, h1, h2, e⟩ := q
      exact ⟨_, rfl, k H' lf xs e h0 h1 h2⟩
end
end L2.K4
end
section
set_option Elab.async false
set_option linter.all false
set_option maxRecDepth 100000
set_option maxHeartbeats 4000000
/-! The law's defs: the least ways. -/
namespace L2.K4
open PySem PySem.Spec PyProof.Rows L2
theorem filterMap_pick {α β : Type} (f : α → Int) (n : Int) (g : α → β) : ∀ ws : List α, (ws.filterMap fun y => if f y = n then some (g y) else none) = (ws.filter fun y => decide (f y = n)).map g
  | [] => rfl
  | y :: ws => by
    rw [List.filterMap_cons, List.filter_cons]
    have ih := filterMap_pick f n g ws
    by_cases h : f y = n
    · rw [if_pos h, decide_eq_true h, if_pos rfl, List.map_cons, ih]
    · rw [if_neg h, decide_eq_false h, ih]; rfl
section
variable {P : Program} {w : World} {K : PySem.W.Frag} {mg : Str → Option Value} {base : Heap}
/-- a way and its cost -/
def wcK (ls ms : List Str) (gc cc : Str → Int) (y : Wy) : NK := .tup [wyK y, .num (K34.wcost ls ms gc cc y)]
theorem at_wc {K : PySem.W.Frag} {H : Hp} {ls ms : List Str} {gc cc : Str → Int} {y : Wy} {v : V} (h : At K H (wcK ls ms gc cc y) v) : ∃ t x, v = .ref t ∧ SqT K H t [x, .int (K34.wcost ls ms gc cc y)] ∧ At K H (wyK y) x := by
  obtain ⟨t, xs, rfl, hs, ha⟩ := At.tup_inv h
  obtain ⟨x, xs', rfl, h1, h2⟩ := ha.cons_inv
  obtain ⟨z, zs, rfl, h3, h4⟩ := h2.cons_inv
  obtain rfl := h4.nil_inv
  obtain rfl := h3.num_eq
  exact ⟨t, x, rfl, hs, h1⟩
abbrev NL : List Str := ["_law_old", "_law_new", "_law_known", "_law_rows", "_law_low", "_law_way", "_law_cost_here"]
/-- the ways of a web -/
def WaysOf (ls ms : List Str) (gc cc : Str → Int) (Ls : List Wy) : Prop := Ls.length ≤ 10000 ∧ ∀ y, y ∈ Ls ↔ K34.Ch (K34.dweb ls ms gc cc).net (0, 0) ((K34.dweb ls ms gc cc).m, (K34.dweb ls ms gc cc).n) y
def spLeast (K : PySem.W.Frag) : Sp := fun vs H Q _ => ∃ a b t ls ms gc cc, vs = [.ref a, .ref b, .ref t] ∧ SqL K H a (ls.map V.str) ∧ LOk ls ∧ SqL K H b (ms.map V.str) ∧ LOk ms ∧ KnAt K H t gc cc ∧
  ∀ H' l xs Ls, Ex H H' → H l = none → H' l = some (.lst xs) → AtL K H' (Ls.map wyK) xs → WaysOf ls ms gc cc Ls → Q (.ref l) H'
theorem ok_law_least (c : Cf K mg) : Kp P w K mg base 4 (He.ga K "_law_least") (spLeast K) := by
  obtain ⟨fd, F⟩ := F__law_least c
  have nd : NL.Nodup := by decide +kernel
  refine kp_of F (N := NL) (ps := ["_law_old", "_law_new", "_law_known"]) ⟨rfl, rfl, rfl, nd, rfl, by decide +kernel, by decide +kernel⟩ (F.bindsN fun _ _ _ _ _ _ us hl => match us, hl with | [_, _, _], _ => rfl) (fun vs H Q E h => ?_) (fun cdv A outer s H vs Q E hr h => ?_)
  · obtain ⟨a, b, t, ls, ms, gc, cc, rfl, _⟩ := h; rfl
  · obtain ⟨a, b, t, ls, ms, gc, cc, rfl, hA, hl, hB, hm, hK, k⟩ := h
    refine ⟨_, pss_cons (ps_setLc (i := 3) (own := [("_law_way", 5)]) (g := gName 5) (tt := tYes) (te := tTup (tCons (tVar 5) (tCons (tCal (spLCost K) (tCons (tVar 0) (tCons (tVar 1) (tCons (tVar 2) (tCons (tVar 5) tNil))))) tNil))) rfl nd rfl rfl (sw_true rfl rfl (by decide) (by decide +kernel))
        (pi_list (pe_cal c (ok_law_ways c) hr (pa_cons (pv 0) (pa_cons (pv 1) pa_nil)))) (blkOk_by (N := NL) (sc := defScope s_law_least) (by decide +kernel)) (fun _ _ _ _ _ => pg_name (i := 5) nd rfl (Or.inl rfl)) (fun _ _ _ _ _ => pts_nil)
        (fun _ _ _ _ _ => pe_tup (pa_cons (pv 5) (pa_cons (pe_cal c (ok_law_cost c) hr (pa_cons (pv 0) (pa_cons (pv 1) (pa_cons (pv 2) (pa_cons (pv 5) pa_nil))))) pa_nil))))
      (pss_cons (ps_set (i := 4) nd rfl (.inr rfl) (pe_callB (cr_min rfl) (by rfl) (c.free "min" (by decide +kernel)) (by decide +kernel) (pa_cons (pe_lc (own := [("_law_way", 5), ("_law_cost_here", 6)]) (g := g2 K 5 6) (tt := tYes) (te := tVar 6) rfl nd (pi_list (pv 3)) (blkOk_by (N := NL) (sc := defScope s_law_least) (by decide +kernel))
        (fun _ _ _ _ _ => pg_tup rfl (pgs_cons (pg_name (i := 5) nd rfl (.inl rfl)) (pgs_cons (pg_name (i := 6) nd rfl (.inl rfl)) pgs_nil))) (fun _ _ _ _ _ => pts_nil) (fun _ _ _ _ _ => pv 6)) pa_nil)))
      (pss_one (ps_ret (pe_lc (own := [("_law_way", 5), ("_law_cost_here", 6)]) (g := g2 K 5 6) (tt := tTest (tOp rEq (tVar 6) (tVar 4))) (te := tVar 5) rfl nd (pi_list (pv 3)) (blkOk_by (N := NL) (sc := defScope s_law_least) (by decide +kernel))
        (fun _ _ _ _ _ => pg_tup rfl (pgs_cons (pg_name (i := 5) nd rfl (.inl rfl)) (pgs_cons (pg_name (i := 6) nd rfl (.inl rfl)) pgs_nil))) (fun _ _ _ _ _ => pts_one (pt_cmpR op_eq (pv 6) (pv 4) (nomark _))) (fun _ _ _ _ _ => pv 5))))), ?_⟩
    have hl4 := hl.1
    have hm4 := hm.1
    refine ⟨_, rfl, _, rfl, a, b, ls, ms, rfl, hA, hB, hl4, hm4, fun H1 l1 xs e1 hl10 hl1 ax => ⟨l1, rfl, ⟨_, .inl (.inl hl1)⟩, fun D hD => ?_⟩⟩
    have hws : ∀ y ∈ K34.ways ls ms (ls.length + ms.length), y ≠ [] ∧ y.length ≤ 100 ∧ ∀ s ∈ K34.steps y, s.2 ∈ K34.nxt ls ms s.1 := fun y hy => by
      have g := (K34.ways_all ls ms y).mp hy
      have g2 := g.len
      dsimp only at g2
      obtain ⟨tt, ht⟩ := g.head
      exact ⟨by rw [ht]; simp, by omega, gc_steps g⟩
    have hfew : (K34.ways ls ms (ls.length + ms.length)).length ≤ 10000 := ways_few ls ms (by omega)
    have hli := K34.least_iff ls ms gc cc
    have hne : K34.ways ls ms (ls.length + ms.length) ≠ [] := fun e => by
      obtain ⟨y, hy⟩ := ways_ex ls ms (ls.length + ms.length) (by omega)
      rw [e] at hy; cases hy
    generalize K34.ways ls ms (ls.length + ms.length) = ws at ax hws hfew hli hne
    have lx : xs.length = ws.length := by rw [AtL.length ax, List.length_map]
    have few : xs.length < sizeLine := by rw [lx]; exact Nat.lt_of_le_of_lt hfew (by decide)
    refine lcG (n := xs.length) (Y := fun i x _ => xs[i]? = some x) hD (fun i => (ws[i]?).map (wcK ls ms gc cc)) (AtD K) AtD.mono few (fun H' e => sw_list (.inl (.inl (e _ _ hl1)))) (fun i x H2 zs hi e2 hxi hDl Q2 q2 => ?_) fun H2 rs e2 hrs hpp => ?_
    · obtain ⟨kx, k1, k2⟩ := AtL.get (AtL.keep (Ex.tk e2) _ _ ax) hxi
      rw [List.getElem?_map] at k1
      obtain ⟨y, hy, rfl⟩ := Option.map_eq_some_iff.mp k1
      obtain ⟨n1, n2, n3⟩ := hws y (List.mem_of_getElem? hy)
      have e12 := e1.trans e2
      refine ⟨rfl, _, rfl, _, rfl, _, rfl, _, rfl, _, rfl, a, b, t, x, ls, ms, gc, cc, y, rfl, exl e12 hA, hl, exl e12 hB, hm, hK.ex e12, k2, n1, n2, n3, fun H3 e3 => ⟨by show 2 ≤ sizeLine; decide, fun u hu => q2 (some (.ref u)) _ (e3.trans (Ex.laid hu)) ?_⟩⟩
      rw [hy]
      have e4 := Ex.laid (o := .tup [x, V.int (K34.wcost ls ms gc cc y)]) hu
      exact AtD.of (At.tup (.inl (.inl upd_same)) (AtL.two (At.keep (Ex.tk (e3.trans e4)) _ _ k2) At.num)) ((e3.trans e4) _ _ hDl)
    · rw [lx, made_mapL] at hpp
      have ar := AtD.all hpp
      have lr : rs.length = ws.length := by rw [AtL.length ar, List.length_map]
      have fewr : rs.length < sizeLine := by rw [lr, ← lx]; exact few
      have e12 := e1.trans e2
      refine ⟨_, rfl, D, rfl, ⟨_, .inl (.inl hrs)⟩, fun D2 hD2 => ?_⟩
      refine lcG (n := rs.length) (Y := fun i x _ => rs[i]? = some x) hD2 (fun i => (ws[i]?).map fun y => V.int (K34.wcost ls ms gc cc y)) IsV IsV.mono fewr (fun H' e => sw_list (.inl (.inl (e _ _ hrs)))) (fun i x H3 zs hi e3 hxi hDl Q2 q2 => ?_) fun H3 cs e3 hcs hpp => ?_
      · obtain ⟨kx, k1, k2⟩ := AtL.get (AtL.keep (Ex.tk e3) _ _ ar) hxi
        rw [List.getElem?_map] at k1
        obtain ⟨y, hy, rfl⟩ := Option.map_eq_some_iff.mp k1
        obtain ⟨u, x, rfl, hu, hx⟩ := at_wc k2
        refine ⟨u, _, rfl, hu, rfl, _, _, rfl, _, _, rfl, rfl, rfl, _, rfl, q2 (some _) H3 Ex.refl ?_⟩
        rw [hy]; rfl
      · rw [lr, made_mapL] at hpp
        have := IsV.all hpp
        subst this
        have ei : (ws.map fun y => V.int (K34.wcost ls ms gc cc y)) = (ws.map fun y => K34.wcost ls ms gc cc y).map V.int := by rw [List.map_map]; rfl
        rw [ei] at hcs
        refine ⟨D2, _, rfl, .inl (.inl hcs), by rw [List.length_map]; exact List.length_pos_iff.mpr hne, fun low hlow hall => ?_⟩
        obtain ⟨y0, hy0, ey0⟩ := List.mem_map.mp hlow
        have hLs := hli low ⟨y0, hy0, ey0⟩ fun y hy => hall _ (List.mem_map.mpr ⟨y, hy, rfl⟩)
        have hrs3 := e3 _ _ hrs
        refine ⟨_, rfl, D, rfl, ⟨_, .inl (.inl hrs3)⟩, fun D3 hD3 => ?_⟩
        refine lcG (n := rs.length) (Y := fun i x _ => rs[i]? = some x) hD3 (fun i => (ws[i]?).bind fun y => if K34.wcost ls ms gc cc y = low then some (wyK y) else none) (AtD K) AtD.mono fewr (fun H' e => sw_list (.inl (.inl (e _ _ hrs3)))) (fun i x H4 zs hi e4 hxi hDl Q2 q2 => ?_) fun H4 os e4 hos hpp => ?_
        · obtain ⟨kx, k1, k2⟩ := AtL.get (AtL.keep (Ex.tk (e3.trans e4)) _ _ ar) hxi
          rw [List.getElem?_map] at k1
          obtain ⟨y, hy, rfl⟩ := Option.map_eq_some_iff.mp k1
          obtain ⟨u, x, rfl, hu, hx⟩ := at_wc k2
          refine ⟨u, _, rfl, hu, rfl, _, _, rfl, _, _, rfl, rfl, rfl, _, rfl, _, rfl, rfl, _, rfl, ?_⟩
          by_cases h : K34.wcost ls ms gc cc y = low
          · refine iteP (decide_eq_true (by rw [h])) ⟨_, rfl, q2 (some x) H4 Ex.refl ?_⟩
            rw [hy]
            show OptP _ _ (if K34.wcost ls ms gc cc y = low then some (wyK y) else none) _
            rw [if_pos h]
            exact AtD.of hx hDl
          · refine iteN (decide_eq_false (fun z => h (V.int.inj z))) (q2 none H4 Ex.refl ?_)
            rw [hy]
            show OptP _ _ (if K34.wcost ls ms gc cc y = low then some (wyK y) else none) _
            rw [if_neg h]
            exact trivial
        · rw [lr, made_bind] at hpp
          have ef := filterMap_pick (fun y => K34.wcost ls ms gc cc y) low wyK ws
          rw [ef] at hpp
          exact k H4 D3 os _ ((e12.trans e3).trans e4) ((e12.trans e3).free hD3) hos (AtD.all hpp) ⟨Nat.le_trans (List.length_filter_le _ _) hfew, hLs⟩
end
end L2.K4
end
section
set_option Elab.async false
set_option linter.all false
set_option maxRecDepth 100000
set_option maxHeartbeats 4000000
/-! The law's defs: stretches. -/
namespace L2.K4
open PySem PySem.Spec PyProof.Rows L2
theorem cp_lt {α : Type} [DecidableEq α] : ∀ (a b : List α) (i : Nat), i < K34.cp a b → ∃ x, a[i]? = some x ∧ b[i]? = some x
  | [], _, i, h => by simp [K34.cp] at h
  | _ :: _, [], i, h => by simp [K34.cp] at h
  | x :: a, y :: b, i, h => by
    unfold K34.cp at h
    by_cases e : x = y
    · rw [if_pos e] at h
      subst e
      cases i with
      | zero => exact ⟨x, rfl, rfl⟩
      | succ i => exact cp_lt a b i (by omega)
    · rw [if_neg e] at h; omega
theorem cp_at {α : Type} [DecidableEq α] : ∀ (a b : List α), K34.cp a b < a.length → K34.cp a b < b.length → ∃ x y, a[K34.cp a b]? = some x ∧ b[K34.cp a b]? = some y ∧ x ≠ y
  | [], _, h, _ => by simp at h
  | _ :: _, [], _, h => by simp at h
  | x :: a, y :: b, h, h' => by
    unfold K34.cp at h h' ⊢
    by_cases e : x = y
    · rw [if_pos e] at h h' ⊢
      exact cp_at a b (by simpa using h) (by simpa using h')
    · rw [if_neg e]
      exact ⟨x, y, rfl, rfl, e⟩
theorem atI_neg {α : Type} {xs : List α} {n : Nat} {v : α} (h0 : 0 < n) (hn : n ≤ xs.length) (e : xs[xs.length - n]? = some v) : atI xs (-(n : Int)) = some v := by
  unfold atI ixN
  rw [if_neg (by omega), if_pos (by omega)]
  show xs[(-(n : Int) + xs.length).toNat]? = some v
  rw [show (-(n : Int) + xs.length).toNat = xs.length - n by omega]
  exact e
theorem rt_get {α : Type} {a : List α} {j : Nat} {x : α} (h : a.reverse.tail[j]? = some x) : j + 2 ≤ a.length ∧ a[a.length - (j + 2)]? = some x := by
  rw [List.getElem?_tail] at h
  have h1 := (List.getElem?_eq_some_iff.mp h).1
  rw [List.length_reverse] at h1
  rw [List.getElem?_reverse h1] at h
  exact ⟨by omega, by rw [← h]; congr 1; omega⟩
theorem slA_at {K : PySem.W.Frag} {H : Hp} {t : Addr} {zs : List V} {y : Wy} {a b : Nat} {Q : VK} (ht : SqT K H t zs) (hz : AtL K H (y.map plK) zs) (hab : a + b ≤ y.length) (k : ∀ H' r, Ex H H' → At K H' (wyK (K34.cut1 a b y)) r → Q r H') :
    rSlA K (.ref t) (some (a : Int)) (some (((zs.length : Nat) : Int) - (b : Nat))) H Q := by
  have lz : zs.length = y.length := by rw [AtL.length hz, List.length_map]
  have e : ((zs.length : Nat) : Int) - (b : Nat) = ((zs.length - b : Nat) : Int) := by omega
  have ec : AtL K H ((K34.cut1 a b y).map plK) ((zs.drop a).take (zs.length - b - a)) := by
    unfold K34.cut1
    rw [List.map_take, List.map_drop, lz]
    exact AtL.take _ (AtL.drop _ hz)
  rw [e]
  refine ⟨t, zs, rfl, ht, fun w => ?_, fun _ p hp => ?_⟩
  · rw [HT.sIx_nat, HT.sIx_nat] at w
    refine k H _ Ex.refl (At.tup ht ?_)
    have : (zs.drop a).take (zs.length - b - a) = zs := by
      obtain ⟨w1, w2⟩ := w
      by_cases h0 : zs.length = 0
      · have := List.length_eq_zero_iff.mp h0
        subst this; simp
      · have a0 : a = 0 := by omega
        have b0 : b = 0 := by omega
        subst a0; subst b0
        simp
    rw [this] at ec
    exact ec
  · have ecut : cutV zs (some (a : Int)) (some ((zs.length - b : Nat) : Int)) = (zs.drop a).take (zs.length - b - a) := by
      unfold cutV
      rw [HT.sIx_nat, HT.sIx_nat, Nat.min_eq_left (by omega), Nat.min_eq_left (by omega)]
    rw [ecut]
    exact k _ _ (Ex.laid hp) (At.tup (.inl (.inl upd_same)) (AtL.keep (Ex.tk (Ex.laid hp)) _ _ ec))
section
variable {P : Program} {w : World} {K : PySem.W.Frag} {mg : Str → Option Value} {base : Heap}
def spStr (K : PySem.W.Frag) : Sp := fun vs H Q _ => ∃ v u y z U L, vs = [v, u] ∧ At K H (wyK y) v ∧ At K H (wyK z) u ∧ K34.Parts y z U L ∧ ∀ H' r, Ex H H' → At K H' (fcK (U, L)) r → Q r H'
theorem ok_law_stretches (c : Cf K mg) : Kp P w K mg base 1 (He.ga K "_law_stretches") (spStr K) := by
  obtain ⟨fd, F⟩ := F__law_stretches c
  have nd : (["_law_one", "_law_other", "_law_ahead", "_law_behind"] : List Str).Nodup := by decide +kernel
  refine kp_of F (N := ["_law_one", "_law_other", "_law_ahead", "_law_behind"]) (ps := ["_law_one", "_law_other"]) ⟨rfl, rfl, rfl, nd, rfl, by decide +kernel, by decide +kernel⟩ (F.bindsN fun _ _ _ _ _ _ us hl => match us, hl with | [_, _], _ => rfl) (fun vs H Q E h => ?_) (fun cdv A outer s H vs Q E hr h => ?_)
  · obtain ⟨v, u, y, z, U, L, rfl, _⟩ := h; rfl
  · obtain ⟨v, u, y, z, U, L, rfl, hv, hu, hP, k⟩ := h
    obtain ⟨tv, xs, rfl, sv, av⟩ := at_wy hv
    obtain ⟨tu, zs, rfl, su, au⟩ := at_wy hu
    refine ⟨_, pss_cons (ps_asg (pe_tup (pa_cons pe_int (pa_cons pe_int pa_nil))) (pg_tup (by rfl) (pgs_cons (pg_name (i := 2) nd rfl (.inl rfl)) (pgs_cons (pg_name (i := 3) nd rfl (.inl rfl)) pgs_nil))))
      (pss_cons (ps_while PassesOwn.never (pt_cmpR (op_eqA hr.units) (pe_ix ix_tup (pv 0) (pe_op op_add (pv 2) pe_int) (fun _ _ => rfl)) (pe_ix ix_tup (pv 1) (pe_op op_add (pv 2) pe_int) (fun _ _ => rfl)) (nomark _)) (pss_one (ps_set (i := 2) nd rfl (.inl rfl) (pe_op op_add (pv 2) pe_int))))
      (pss_cons (ps_while PassesOwn.never (pt_cmpR (op_eqA hr.units) (pe_ix ix_tup (pv 0) (pe_op op_sub (pe_un un_neg (pv 3)) pe_int) (fun _ _ => rfl)) (pe_ix ix_tup (pv 1) (pe_op op_sub (pe_un un_neg (pv 3)) pe_int) (fun _ _ => rfl)) (nomark _)) (pss_one (ps_set (i := 3) nd rfl (.inl rfl) (pe_op op_add (pv 3) pe_int))))
      (pss_one (ps_ret (pe_tup (pa_cons (pe_slice sl_tupA (pv 0) (po_some (pv 2)) (po_some (pe_op op_sub (pe_callB call_len_seq (by rfl) (c.free "len" (by decide +kernel)) PySem.boot_len (pa_cons (pv 0) pa_nil)) (pv 3)))) (pa_cons (pe_slice sl_tupA (pv 1) (po_some (pv 2)) (po_some (pe_op op_sub (pe_callB call_len_seq (by rfl) (c.free "len" (by decide +kernel)) PySem.boot_len (pa_cons (pv 1) pa_nil)) (pv 3)))) pa_nil))))))), ?_⟩
    obtain ⟨pre, post, ey, ez, c1, c2, l1, l2, l3, l4⟩ := hP.cps
    have hstr := hP.str
    have ha : pre.length + post.length ≤ y.length := by rw [ey]; simp
    have hb : pre.length + post.length ≤ z.length := by rw [ez]; simp
    unfold K34.str at hstr
    obtain ⟨x1, x2, x3, x4, x5⟩ := cp_at _ _ l1 l2
    obtain ⟨w1, w2, w3, w4, w5⟩ := cp_at _ _ l3 l4
    have f1 := fun i => cp_lt y.tail z.tail i
    have f2 := fun i => cp_lt y.reverse.tail z.reverse.tail i
    rw [c1, c2] at hstr
    rw [c1] at x3 x4 f1
    rw [c2] at w3 w4 f2
    have lxs : xs.length = y.length := by rw [AtL.length av, List.length_map]
    have lzs : zs.length = z.length := by rw [AtL.length au, List.length_map]
    refine ⟨by show 2 ≤ sizeLine; decide, fun p0 hp0 => ⟨p0, _, rfl, .inl (.inl upd_same), rfl, _, _, rfl, _, _, rfl, rfl, ?_⟩⟩
    have e0 := Ex.laid (o := .tup [V.int 0, V.int 0]) hp0
    replace sv := ext' e0 sv
    replace su := ext' e0 su
    replace av := AtL.keep (Ex.tk e0) _ _ av
    replace au := AtL.keep (Ex.tk e0) _ _ au
    replace k := fun H' r (e : Ex _ H') => k H' r (e0.trans e)
    clear hv hu
    generalize upd H p0 (.tup [V.int 0, V.int 0]) = H0 at sv su av au k
    refine ⟨fun m σ' H' => ∃ i, m = pre.length - i ∧ i ≤ pre.length ∧ σ' = [some (.ref tv), some (.ref tu), some (.int (i : Nat)), some (.int 0)] ∧ H' = H0, ⟨_, 0, rfl, Nat.zero_le _, rfl, rfl⟩, ?_⟩
    rintro m σ' H' ⟨i, rfl, hi, rfl, rfl⟩
    obtain ⟨p, q, hp, hq, hpq⟩ : ∃ p q, y[i + 1]? = some p ∧ z[i + 1]? = some q ∧ (p = q ↔ i < pre.length) := by
      rcases Nat.lt_or_ge i pre.length with h | h
      · obtain ⟨x, q1, q2⟩ := f1 i h
        rw [List.getElem?_tail] at q1 q2
        exact ⟨x, x, q1, q2, fun _ => h, fun _ => rfl⟩
      · have : i = pre.length := by omega
        subst this
        rw [List.getElem?_tail] at x3 x4
        exact ⟨x1, x2, x3, x4, fun e => absurd e x5, fun e => by omega⟩
    obtain ⟨vx, gx, ax⟩ := AtL.getK (k := plK p) av (by rw [List.getElem?_map, hp]; rfl)
    obtain ⟨vz, gz, az⟩ := AtL.getK (k := plK q) au (by rw [List.getElem?_map, hq]; rfl)
    refine ⟨_, rfl, _, rfl, _, _, rfl, rfl, tv, _, _, _, rfl, rfl, sv, atI_nat (j := i + 1) gx, _, rfl, _, rfl, _, _, rfl, rfl, tu, _, _, _, rfl, rfl, su, atI_nat (j := i + 1) gz, plK p, plK q, ax, az, numK_pl _, numK_pl _, plK_depth _, plK_depth _, _, rfl, ?_⟩
    by_cases h : p = q
    · have hlt := hpq.mp h
      refine iteP (decide_eq_true (by rw [h])) ⟨fun σ'' H'' => σ'' = [some (.ref tv), some (.ref tu), some (.int ((i + 1 : Nat) : Nat)), some (.int 0)] ∧ H'' = H', fun σ'' H'' q => ⟨_, by omega, i + 1, rfl, hlt, q.1, q.2⟩, _, rfl, _, _, rfl, rfl, rfl, rfl⟩
    · have hi' : i = pre.length := by
        rcases Nat.lt_or_ge i pre.length with g | g
        · exact absurd (hpq.mpr g) h
        · omega
      subst hi'
      refine iteN (decide_eq_false fun g => h (plK_inj g)) ?_
      refine ⟨fun m σ' H'' => ∃ j, m = post.length - j ∧ j ≤ post.length ∧ σ' = [some (.ref tv), some (.ref tu), some (.int (pre.length : Nat)), some (.int (j : Nat))] ∧ H'' = H', ⟨_, 0, rfl, Nat.zero_le _, rfl, rfl⟩, ?_⟩
      rintro m σ'' H'' ⟨j, rfl, hj, rfl, rfl⟩
      obtain ⟨p', q', hp', hq', hpq'⟩ : ∃ p q, y.reverse.tail[j]? = some p ∧ z.reverse.tail[j]? = some q ∧ (p = q ↔ j < post.length) := by
        rcases Nat.lt_or_ge j post.length with h | h
        · obtain ⟨x, q1, q2⟩ := f2 j h
          exact ⟨x, x, q1, q2, fun _ => h, fun _ => rfl⟩
        · have : j = post.length := by omega
          subst this
          exact ⟨w1, w2, w3, w4, fun e => absurd e w5, fun e => by omega⟩
      obtain ⟨r1, r2⟩ := rt_get hp'
      obtain ⟨r3, r4⟩ := rt_get hq'
      obtain ⟨vx', gx', ax'⟩ := AtL.getK (k := plK p') av (by rw [List.getElem?_map, r2]; rfl)
      obtain ⟨vz', gz', az'⟩ := AtL.getK (k := plK q') au (by rw [List.getElem?_map, r4]; rfl)
      have ej : -((j : Nat) : Int) - 2 = -((j + 2 : Nat) : Int) := by omega
      have i1 : atI xs (-((j : Nat) : Int) - 2) = some vx' := by rw [ej]; exact atI_neg (by omega) (by omega) (by rw [lxs]; exact gx')
      have i2 : atI zs (-((j : Nat) : Int) - 2) = some vz' := by rw [ej]; exact atI_neg (by omega) (by omega) (by rw [lzs]; exact gz')
      refine ⟨_, rfl, _, rfl, _, rfl, _, _, rfl, rfl, tv, _, _, _, rfl, rfl, sv, i1, _, rfl, _, rfl, _, rfl, _, _, rfl, rfl, tu, _, _, _, rfl, rfl, su, i2, plK p', plK q', ax', az', numK_pl _, numK_pl _, plK_depth _, plK_depth _, _, rfl, ?_⟩
      by_cases h2 : p' = q'
      · have hlt := hpq'.mp h2
        refine iteP (decide_eq_true (by rw [h2])) ⟨fun σ3 H3 => σ3 = [some (.ref tv), some (.ref tu), some (.int (pre.length : Nat)), some (.int ((j + 1 : Nat) : Nat))] ∧ H3 = H'', fun σ3 H3 q => ⟨_, by omega, j + 1, rfl, hlt, q.1, q.2⟩, _, rfl, _, _, rfl, rfl, rfl, rfl⟩
      · have hj' : j = post.length := by
          rcases Nat.lt_or_ge j post.length with g | g
          · exact absurd (hpq'.mpr g) h2
          · omega
        subst hj'
        refine iteN (decide_eq_false fun g => h2 (plK_inj g)) ?_
        refine ⟨_, rfl, _, rfl, _, rfl, _, rfl, tv, _, rfl, .inr sv, _, rfl, _, _, rfl, rfl, _, rfl, slA_at sv av ha fun H1 r1 e1 a1 => ?_⟩
        refine ⟨_, rfl, _, rfl, _, rfl, _, rfl, tu, _, rfl, .inr (ext' e1 su), _, rfl, _, _, rfl, rfl, _, rfl, slA_at (ext' e1 su) (AtL.keep (Ex.tk e1) _ _ au) hb fun H2 r2 e2 a2 => ⟨by show 2 ≤ sizeLine; decide, fun u hu => ?_⟩⟩
        have e3 := Ex.laid (o := .tup [r1, r2]) hu
        refine k _ _ ((e1.trans e2).trans e3) ?_
        rw [← hstr]
        exact At.tup (.inl (.inl upd_same)) (AtL.two (At.keep (Ex.tk (e2.trans e3)) _ _ a1) (At.keep (Ex.tk e3) _ _ a2))
end
end L2.K4
end
section
set_option Elab.async false
set_option linter.all false
set_option maxRecDepth 100000
set_option maxHeartbeats 4000000
/-! The law's defs: passed faces. -/
namespace L2.K4
open PySem PySem.Spec PyProof.Rows L2
theorem cutV_win (ns : List Nat) (b n : Nat) : cutV (intsV ns) (some (b : Int)) (some ((b : Int) + (n : Nat))) = intsV ((ns.drop b).take n) := by
  have e : ((b : Int) + (n : Nat)) = ((b + n : Nat) : Int) := by omega
  rw [e]
  unfold cutV intsV
  rw [HT.sIx_nat, HT.sIx_nat, List.map_take, List.map_drop, List.length_map]
  rcases Nat.le_total b ns.length with h | h
  · rw [Nat.min_eq_left h]
    rcases Nat.le_total (b + n) ns.length with g | g
    · rw [Nat.min_eq_left g]; congr 1; omega
    · rw [Nat.min_eq_right g, List.take_of_length_le (by rw [List.length_drop, List.length_map]; omega), List.take_of_length_le (by rw [List.length_drop, List.length_map]; omega)]
  · rw [Nat.min_eq_right h, List.drop_of_length_le (by rw [List.length_map]; omega), List.drop_of_length_le (by rw [List.length_map]; omega)]
    simp
section
variable {P : Program} {w : World} {K : PySem.W.Frag} {mg : Str → Option Value} {base : Heap}
abbrev NP : List Str := ["_law_way", "_law_faces", "_law_rows", "_law_found", "_law_upper", "_law_lower", "_law_ahead", "_law_begin", "_law_line", "_law_own"]
def FcsOk (gs : List Fc) : Prop := gs.length ≤ 1000 ∧ ∀ f ∈ gs, f.2 ≠ [] ∧ f.2.length ≤ 100
def spPassed (K : PySem.W.Frag) : Sp := fun vs H Q _ => ∃ v l y gs xs, vs = [v, .ref l] ∧ At K H (wyK y) v ∧ y ≠ [] ∧ y.length ≤ 100 ∧ H l = some (.lst xs) ∧ AtL K H (gs.map fcK) xs ∧ FcsOk gs ∧
  ∀ H' l' xs', Ex H H' → H l' = none → H' l' = some (.lst xs') → AtL K H' ((gs.filter (K34.passed y)).map fcK) xs' → Q (.ref l') H'
theorem ok_law_passed (c : Cf K mg) : Kp P w K mg base 2 (He.ga K "_law_passed") (spPassed K) := by
  obtain ⟨fd, F⟩ := F__law_passed c
  have nd : NP.Nodup := by decide +kernel
  refine kp_of F (N := NP) (ps := ["_law_way", "_law_faces"]) ⟨rfl, rfl, rfl, nd, rfl, by decide +kernel, by decide +kernel⟩ (F.bindsN fun _ _ _ _ _ _ us hl => match us, hl with | [_, _], _ => rfl) (fun vs H Q E h => ?_) (fun cdv A outer s H vs Q E hr h => ?_)
  · obtain ⟨v, l, y, gs, xs, rfl, _⟩ := h; rfl
  · obtain ⟨v, l, y, gs, xs, rfl, hv, hne, hlen, hl, hx, hok, k⟩ := h
    refine ⟨_, pss_cons (ps_par (i := 2) (j := 3) rfl nd rfl rfl (by decide) rfl rfl (pa_cons (pe_cal c (ok_law_crossings c) hr (pa_cons (pv 0) pa_nil)) (pa_cons (pe_lst pa_nil) pa_nil)) (by rfl))
      (pss_cons (ps_for PassesOwn.never rfl (pi_list (pv 1)) (pg_tup rfl (pgs_cons (pg_name (i := 4) nd rfl (.inl rfl)) (pgs_cons (pg_name (i := 5) nd rfl (.inl rfl)) pgs_nil)))
        (pss_cons (ps_par (i := 6) (j := 7) rfl nd rfl rfl (by decide) rfl rfl (pa_cons (pe_cal c (ok_law_crossings c) hr (pa_cons (pv 5) pa_nil)) (pa_cons (pe_ix ix_tup (pe_ix ix_tup (pv 5) pe_int (fun _ _ => rfl)) pe_int (fun _ _ => rfl)) pa_nil)) (by rfl))
        (pss_one (ps_if (pt_val (pe_callB (cr_all rfl) (by rfl) (c.free "all" (by decide +kernel)) (by decide +kernel) (pa_cons (pe_lc (own := [("_law_line", 8), ("_law_own", 9)]) (g := g2 K 8 9) (tt := tYes) (te := tOp (rI0 fun i j => .bl (decide (i ≤ j))) (tVar 8) (tVar 9)) rfl nd
            (RZ.pi_zipA (by rfl) (c.free "zip" (by decide +kernel)) (pa_cons (pv 6) (pa_cons (pe_slice sl_list (pv 2) (po_some (pv 7)) (po_some (pe_op op_add (pv 7) (pe_callB call_len_seq (by rfl) (c.free "len" (by decide +kernel)) PySem.boot_len (pa_cons (pv 6) pa_nil))))) pa_nil))) (blkOk_by (N := NP) (sc := defScope s_law_passed) (by decide +kernel)) (fun _ _ _ _ _ => pg_tup rfl (pgs_cons (pg_name (i := 8) nd rfl (.inl rfl)) (pgs_cons (pg_name (i := 9) nd rfl (.inl rfl)) pgs_nil))) (fun _ _ _ _ _ => pts_nil)
            (fun _ _ _ _ _ => pe_cmpR op_le (pv 8) (pv 9) (nomark _))) pa_nil)))
          (pss_one (ps_expr (pe_bm PySem.F.plainAttrs_list PySem.F.slot_list_append PySem.F.type_list_append mt_append (pv 3) (pa_cons (pe_tup (pa_cons (pv 4) (pa_cons (pv 5) pa_nil))) pa_nil)))) pss_nil))))
      (pss_one (ps_ret (pv 3)))), ?_⟩
    refine ⟨_, rfl, v, y, rfl, hv, hne, hlen, fun H1 r e1 hr0 hr1 => ⟨by show 0 ≤ sizeLine; decide, fun fo hfo => ⟨_, _, rfl, ?_⟩⟩⟩
    have e2 := Ex.laid (o := .lst []) hfo
    have hfo2 : (upd H1 fo (.lst [])) fo = some (.lst []) := upd_same
    have hr2 := e2 _ _ hr1
    have nrf : r ≠ fo := ne_of_none hr1 hfo
    generalize upd H1 fo (.lst []) = H2 at e2 hfo2 hr2
    have hfo0 := e1.free hfo
    have B22 : Ex (er fo H2) H2 := ex_er
    have hBf : (er fo H2) fo = none := er_self
    have hrB : (er fo H2) r = some (.lst (intsV (K34.crs y))) := by rw [er_ne nrf]; exact hr2
    have eHB : Ex H (er fo H2) := fun x o h => by rw [er_ne (ne_of_none h hfo0)]; exact (e1.trans e2) x o h
    generalize er fo H2 = B at B22 hBf hrB eHB
    have lx : xs.length = gs.length := by rw [AtL.length hx, List.length_map]
    refine ⟨_, rfl, l, rfl, ⟨_, .inl (.inl ((e1.trans e2) _ _ hl))⟩, ?_⟩
    refine forG (n := xs.length) (Y := fun i x _ => xs[i]? = some x)
      (fun i σ' H' => (∃ o4 o5 o6 o7, σ' = [some v, some (.ref l), some (.ref r), some (.ref fo), o4, o5, o6, o7, none, none]) ∧ Ex B H' ∧ ∃ acc, H' fo = some (.lst acc) ∧ AtL K H' (((gs.take i).filter (K34.passed y)).map fcK) acc ∧ acc.length ≤ i)
      ⟨⟨none, none, none, none, rfl⟩, B22, [], hfo2, by rw [List.take_zero]; exact AtL.nil, Nat.zero_le _⟩ (fun i σ' H' _ q => sw_list (.inl (.inl (q.2.1 _ _ (eHB _ _ hl))))) (fun i x σ' H' H'' hi q ex hxi => ?_) fun σ' H' q => ?_
    · obtain ⟨⟨o4, o5, o6, o7, rfl⟩, e, acc, hacc, aacc, lacc⟩ := q
      have e' := e.trans ex
      have eH := eHB.trans e'
      obtain ⟨ky, k1, k2⟩ := AtL.get (AtL.keep (Ex.tk eH) _ _ hx) hxi
      rw [List.getElem?_map] at k1
      obtain ⟨f, hf, rfl⟩ := Option.map_eq_some_iff.mp k1
      obtain ⟨n1, n2⟩ := hok.2 f (List.mem_of_getElem? hf)
      obtain ⟨t, x1, y1, rfl, ht, h1, h2⟩ := at_fc k2
      obtain ⟨tl, zs, rfl, sl, al⟩ := at_wy h2
      obtain ⟨p, hp⟩ : ∃ p, f.2.head? = some p := by
        cases hh : f.2 with
        | nil => exact absurd hh n1
        | cons a b => exact ⟨a, rfl⟩
      refine ⟨t, _, rfl, ht, rfl, _, _, rfl, _, _, rfl, rfl, ?_⟩
      refine ⟨_, rfl, _, f.2, rfl, h2, n1, n2, fun H3 r3 e3 h30 h31 => ?_⟩
      obtain ⟨x0, g0, a0⟩ := AtL.head (k := plK p) (AtL.keep (Ex.tk e3) _ _ al) (by rw [List.head?_map, hp]; rfl)
      obtain ⟨tp, rfl, sp⟩ := at_pl a0
      refine ⟨_, rfl, tl, _, _, _, rfl, rfl, ext' e3 sl, atI_nat (j := 0) g0, tp, _, _, _, rfl, rfl, sp, atI_nat (xs := plV p) (j := 0) rfl, _, _, rfl, ?_⟩
      have eB3 := e'.trans e3
      have hr3 := eB3 _ _ hrB
      refine ⟨_, rfl, _, rfl, _, rfl, _, rfl, _, rfl, _, rfl, r3, _, rfl, .inl (.inl (.inl h31)), _, _, rfl, rfl, _, rfl, r, _, rfl, .inl (.inl hr3), fun s hs => ?_⟩
      have ew : cutV (intsV (K34.crs y)) (some (p.1 : Int)) (some ((p.1 : Int) + (((intsV (K34.crs f.2)).length : Nat) : Int))) = intsV (((K34.crs y).drop p.1).take (K34.crs f.2).length) := by
        have := cutV_win (K34.crs y) p.1 (intsV (K34.crs f.2)).length
        rw [this]
        congr 2
        unfold intsV; rw [List.length_map]
      have e4 := Ex.laid (o := .lst (cutV (intsV (K34.crs y)) (some (p.1 : Int)) (some ((p.1 : Int) + (((intsV (K34.crs f.2)).length : Nat) : Int))))) hs
      have hs4 : (upd H3 s (.lst (cutV (intsV (K34.crs y)) (some (p.1 : Int)) (some ((p.1 : Int) + (((intsV (K34.crs f.2)).length : Nat) : Int)))))) s = some (.lst (intsV (((K34.crs y).drop p.1).take (K34.crs f.2).length))) := by rw [upd_same, ew]
      refine ⟨r3, s, _, _, rfl, .inl ⟨.inl (.inl (e4 _ _ h31)), .inl (.inl hs4), fun D hD => ?_⟩⟩
      have hcr : (K34.crs f.2).length ≤ 100 := by
        unfold K34.crs
        exact Nat.le_trans (List.length_filterMap_le _ _) (by have := steps_len f.2; omega)
      have ezip : K34.passed y f = (((K34.crs f.2).zip (((K34.crs y).drop p.1).take (K34.crs f.2).length)).map fun z => decide (z.1 ≤ z.2)).all id := by
        unfold K34.passed
        rw [hp, List.all_map]; rfl
      have h31' := e4 _ _ h31
      have eB4 := eB3.trans e4
      have exf := (ex.trans e3).trans e4
      generalize upd H3 s (.lst (cutV (intsV (K34.crs y)) (some (p.1 : Int)) (some ((p.1 : Int) + (((intsV (K34.crs f.2)).length : Nat) : Int))))) = H4 at e4 hs4 h31' eB4 exf hD
      generalize K34.crs f.2 = ns at h31' hs4 hcr ezip
      generalize ((K34.crs y).drop p.1).take ns.length = ms at hs4 ezip
      refine lcG (n := min (intsV ns).length (intsV ms).length) (Y := fun i v H' => ∃ T x y, v = .ref T ∧ H' T = some (.tup [x, y]) ∧ (intsV ns)[i]? = some x ∧ (intsV ms)[i]? = some y) hD (fun i => ((ns.zip ms)[i]?).map fun z => decide (z.1 ≤ z.2)) (fun _ b v _ => v = V.bl b) (fun _ _ _ _ _ h => h)
        (Nat.lt_of_le_of_lt (Nat.le_trans (Nat.min_le_left _ _) (by unfold intsV; rw [List.length_map]; exact hcr)) (by decide)) (fun H' e => sw_zip (.inl (.inl (e _ _ h31'))) (.inl (.inl (e _ _ hs4)))) (fun i v H1 zs hi e1 hv hDl Q2 q2 => ?_) fun H5 ys e5 hD5 hpp => ?_
      · obtain ⟨T, x, y, rfl, hT, hx, hy⟩ := hv
        obtain ⟨n, hn, rfl⟩ := intsV_at hx
        obtain ⟨m, hm, rfl⟩ := intsV_at hy
        refine ⟨T, _, rfl, .inl (.inl hT), rfl, _, _, rfl, _, _, rfl, rfl, rfl, _, rfl, _, rfl, _, _, rfl, rfl, q2 (some _) H1 Ex.refl ?_⟩
        have : (ns.zip ms)[i]? = some (n, m) := by rw [List.getElem?_zip_eq_some]; exact ⟨hn, hm⟩
        rw [this]
        exact congrArg V.bl (decide_eq_decide.mpr Int.ofNat_le)
      · have en : min (intsV ns).length (intsV ms).length = (ns.zip ms).length := by unfold intsV; rw [List.length_map, List.length_map, List.length_zip]
        rw [en, made_mapL] at hpp
        have ey := bools_of hpp
        rw [ey] at hD5
        refine ⟨D, (ns.zip ms).map fun z => decide (z.1 ≤ z.2), rfl, .inl (.inl hD5), ?_⟩
        rw [← ezip]
        refine ⟨_, rfl, ?_⟩
        have hfo5 := (exf.trans e5) _ _ hacc
        have t1 : gs.take (i + 1) = gs.take i ++ [f] := by rw [List.take_add_one, hf]; rfl
        by_cases hb : K34.passed y f = true
        · refine iteP hb ⟨_, rfl, .inl ⟨rfl, _, .inl (.inl hfo5)⟩, _, rfl, _, rfl, by show 2 ≤ sizeLine; decide, fun u hu => ?_⟩
          have e6 := Ex.laid (o := .tup [x1, V.ref tl]) hu
          refine ⟨fo, acc, _, rfl, rfl, e6 _ _ hfo5, Nat.lt_of_le_of_lt (show acc.length ≤ 1000 by have := hok.1; omega) (by decide), ⟨_, _, _, _, rfl⟩, Ex.mut ((eB4.trans e5).trans e6) hBf, _, upd_same, ?_, by rw [List.length_append, List.length_singleton]; omega⟩
          rw [t1, List.filter_append, List.map_append]
          have tk := TK.lst (K := K) (o := .lst (acc ++ [V.ref u])) (e6 _ _ hfo5)
          have ef : [f].filter (K34.passed y) = [f] := by simp [hb]
          rw [ef]
          refine AtL.keep tk _ _ ((AtL.keep (Ex.tk ((exf.trans e5).trans e6)) _ _ aacc).append (AtL.one (At.tup (.inl (.inl upd_same)) (AtL.two (At.keep (Ex.tk (((e3.trans e4).trans e5).trans e6)) _ _ h1) (At.keep (Ex.tk (((e3.trans e4).trans e5).trans e6)) _ _ h2)))))
        · refine iteN (by simpa using hb) ⟨⟨_, _, _, _, rfl⟩, eB4.trans e5, acc, hfo5, ?_, by omega⟩
          rw [t1, List.filter_append]
          have ef : [f].filter (K34.passed y) = [] := by simp [hb]
          rw [ef, List.append_nil]
          exact AtL.keep (Ex.tk (exf.trans e5)) _ _ aacc
    · obtain ⟨⟨o4, o5, o6, o7, rfl⟩, e, acc, hacc, aacc, lacc⟩ := q
      rw [lx, List.take_length] at aacc
      exact ⟨_, rfl, k H' fo acc (eHB.trans e) hfo0 hacc aacc⟩
end
end L2.K4
end
section
set_option Elab.async false
set_option linter.all false
set_option maxRecDepth 100000
set_option maxHeartbeats 4000000
/-! The law's defs: flips. -/
namespace L2.K4
open PySem PySem.Spec PyProof.Rows L2
theorem at_key {α β : Type} {R : α → β → Prop} {as : List α} {bs : List β} (h : Paired R as bs) : ∀ {i : Nat} {a : α}, as[i]? = some a → ∃ b, bs[i]? = some b ∧ R a b := by
  induction h with
  | nil => intro i a h; simp at h
  | cons h t ih =>
    intro i a e
    cases i with
    | zero => cases e; exact ⟨_, rfl, h⟩
    | succ i => exact ih e
theorem ints_of {D : Addr} {ks : List Nat} {ys : List V} (h : Paired (fun (k : Nat) (v : V) => v = V.int (k : Nat)) ks ys) : ys = intsV ks := by
  induction h with
  | nil => rfl
  | cons h t ih => rw [ih, h]; rfl
theorem mem_made {κ : Type} {ks : Nat → Option κ} {n : Nat} {k : κ} : k ∈ made ks n ↔ ∃ i, i < n ∧ ks i = some k := by
  unfold made
  rw [List.mem_filterMap]
  exact ⟨fun ⟨i, h1, h2⟩ => ⟨i, List.mem_range.mp h1, h2⟩, fun ⟨i, h1, h2⟩ => ⟨i, List.mem_range.mpr h1, h2⟩⟩
/-- one above the other, none between -/
def FP (Ls : List Wy) (y z : Wy) : Prop := K34.isAbove (K34.crs y) (K34.crs z) = true ∧ ∀ t ∈ Ls, ¬ (K34.isAbove (K34.crs y) (K34.crs t) = true ∧ K34.isAbove (K34.crs t) (K34.crs z) = true)
def crAt (Ls : List Wy) (k : Nat) : List Nat := match Ls[k]? with | some z => K34.crs z | none => []
theorem crAt_get {Ls : List Wy} {k : Nat} {z : Wy} (h : Ls[k]? = some z) : crAt Ls k = K34.crs z := by unfold crAt; rw [h]
/-- the numbers of the ways below y -/
def belowK (Ls : List Wy) (y : Wy) (i : Nat) : Option Nat := if i < Ls.length ∧ K34.isAbove (K34.crs y) (crAt Ls i) = true then some i else none
def below (Ls : List Wy) (y : Wy) : List Nat := made (belowK Ls y) Ls.length
theorem mem_below {Ls : List Wy} {y : Wy} {k : Nat} : k ∈ below Ls y ↔ ∃ z, Ls[k]? = some z ∧ K34.isAbove (K34.crs y) (K34.crs z) = true := by
  unfold below
  rw [mem_made]
  constructor
  · rintro ⟨i, hi, h⟩
    unfold belowK at h
    split at h
    · rename_i q
      cases h
      refine ⟨Ls[k], List.getElem?_eq_getElem hi, ?_⟩
      rw [← crAt_get (List.getElem?_eq_getElem hi)]; exact q.2
    · cases h
  · rintro ⟨z, h, q⟩
    have hi := (List.getElem?_eq_some_iff.mp h).1
    refine ⟨k, hi, ?_⟩
    unfold belowK
    rw [if_pos ⟨hi, by rw [crAt_get h]; exact q⟩]
theorem below_len (Ls : List Wy) (y : Wy) : (below Ls y).length ≤ Ls.length := made_len _ _
/-- the asking after one between -/
theorem any_below {Ls : List Wy} {y z : Wy} {k : Nat} (hk : Ls[k]? = some z) (ha : K34.isAbove (K34.crs y) (K34.crs z) = true) :
    (!((below Ls y).map fun o => K34.isAbove (crAt Ls o) (crAt Ls k)).any id) = true ↔ FP Ls y z := by
  rw [Bool.not_eq_true', List.any_eq_false]
  rw [crAt_get hk]
  constructor
  · intro h
    refine ⟨ha, fun t ht ⟨h1, h2⟩ => ?_⟩
    obtain ⟨o, ho⟩ := List.getElem?_of_mem ht
    exact h _ (List.mem_map.mpr ⟨o, mem_below.mpr ⟨t, ho, h1⟩, rfl⟩) (by rw [crAt_get ho]; exact h2)
  · rintro ⟨_, h⟩ b hb
    obtain ⟨o, ho, rfl⟩ := List.mem_map.mp hb
    obtain ⟨t, h1, h2⟩ := mem_below.mp ho
    rw [crAt_get h1]
    exact fun q => h t (List.mem_of_getElem? h1) ⟨h2, q⟩
/-- the keys of a dict of faces -/
def KeysF (kvs : List (NK × V)) (S : Fc → Prop) : Prop := ∃ fs : List Fc, kvs.map (·.1) = fs.map fcK ∧ fs.Nodup ∧ ∀ f, f ∈ fs ↔ S f
theorem KeysF.put {kvs : List (NK × V)} {S S' : Fc → Prop} {f : Fc} {v : V} (h : KeysF kvs S) (hS : ∀ g, S' g ↔ S g ∨ g = f) : KeysF (putK kvs (fcK f) v) S' := by
  obtain ⟨fs, h1, h2, h3⟩ := h
  have hk := putK_keys (kvs := kvs) (k := fcK f) (v := v)
  by_cases hf : f ∈ fs
  · refine ⟨fs, ?_, h2, fun g => ?_⟩
    · rw [hk, if_pos (by rw [h1]; exact List.mem_map.mpr ⟨f, hf, rfl⟩)]; exact h1
    · rw [h3, hS]
      exact ⟨.inl, fun h => h.elim id fun e => e ▸ (h3 f).mp hf⟩
  · have hnf : fcK f ∉ kvs.map (·.1) := by
      rw [h1]
      intro h
      obtain ⟨g, hg, e⟩ := List.mem_map.mp h
      exact hf (fcK_inj e ▸ hg)
    refine ⟨fs ++ [f], ?_, ?_, fun g => ?_⟩
    · rw [hk, if_neg hnf, h1, List.map_append]; rfl
    · exact List.nodup_append.mpr ⟨h2, (by simp), fun a ha b hb => by rw [List.mem_singleton.mp hb]; exact fun e => hf (e ▸ ha)⟩
    · rw [List.mem_append, List.mem_singleton, h3, hS]
theorem KeysF.congr {kvs : List (NK × V)} {S S' : Fc → Prop} (h : KeysF kvs S) (hS : ∀ g, S' g ↔ S g) : KeysF kvs S' := by
  obtain ⟨fs, h1, h2, h3⟩ := h
  exact ⟨fs, h1, h2, fun f => (h3 f).trans (hS f).symm⟩
end L2.K4
end
section
set_option Elab.async false
set_option linter.all false
set_option maxRecDepth 100000
set_option maxHeartbeats 4000000
/-! The law's defs: flips, walked. -/
namespace L2.K4
open PySem PySem.Spec PyProof.Rows L2
theorem crs_len {y : Wy} (h : y.length ≤ 100) : (K34.crs y).length ≤ 100 := by
  unfold K34.crs
  exact Nat.le_trans (List.length_filterMap_le _ _) (by have := steps_len y; omega)
theorem putN_len {kvs : List (NK × V)} {k : NK} {v : V} : (putK kvs k v).length ≤ kvs.length + 1 := by
  have h := congrArg List.length (putK_keys (kvs := kvs) (k := k) (v := v))
  rw [List.length_map] at h
  rw [h]
  split <;> simp
section
variable {P : Program} {w : World} {K : PySem.W.Frag} {mg : Str → Option Value} {base : Heap}
abbrev NFl : List Str := ["_law_least_here", "_law_rows", "_law_found", "_law_at", "_law_one", "_law_below", "_law_k", "_law_other", "_law_way"]
/-- the rows of crossings -/
def RowsC (H : Hp) (Ls : List Wy) (rs : List V) : Prop := rs.length = Ls.length ∧ ∀ (i : Nat) (y : Wy), Ls[i]? = some y → ∃ p, rs[i]? = some (.ref p) ∧ H p = some (.lst (intsV (K34.crs y)))
theorem RowsC.ex {H H' : Hp} {Ls : List Wy} {rs : List V} (h : RowsC H Ls rs) (e : Ex H H') : RowsC H' Ls rs := ⟨h.1, fun i y hy => let ⟨p, a, b⟩ := h.2 i y hy; ⟨p, a, e _ _ b⟩⟩
def spFlips (P : Program) (w : World) (K : PySem.W.Frag) : Sp := fun vs H Q _ => ∃ l Ls xs, vs = [.ref l] ∧ H l = some (.lst xs) ∧ AtL K H (Ls.map wyK) xs ∧ Ls.length ≤ 30 ∧ (∀ y ∈ Ls, y ≠ [] ∧ y.length ≤ 100) ∧ (∀ y ∈ Ls, ∀ z ∈ Ls, FP Ls y z → ∃ U L, K34.Parts y z U L) ∧
  ∀ H' d kvs, Ex H H' → H d = none → ND P w K H' d kvs → KeysF kvs (K34.IsFlip Ls) → kvs.length ≤ 900 → Q (.ref d) H'
theorem ok_law_flips (c : Cf K mg) : Kp P w K mg base 2 (He.ga K "_law_flips") (spFlips P w K) := by
  obtain ⟨fd, F⟩ := F__law_flips c
  have nd : NFl.Nodup := by decide +kernel
  refine kp_of F (N := NFl) (ps := ["_law_least_here"]) ⟨rfl, rfl, rfl, nd, rfl, by decide +kernel, by decide +kernel⟩ (F.bindsN fun _ _ _ _ _ _ us hl => match us, hl with | [_], _ => rfl) (fun vs H Q E h => ?_) (fun cdv A outer s H vs Q E hr h => ?_)
  · obtain ⟨l, Ls, xs, rfl, _⟩ := h; rfl
  · obtain ⟨l, Ls, xs, rfl, hl, hx, h30, hok, hpt, k⟩ := h
    have hu9 : (A.deeper (envOfC "_law_flips" (defScope s_law_flips) s.heap.objs.size (He.ga K "_law_flips") cdv)).units + 9 < cLine := by have := hr.units; omega
    refine ⟨_, pss_cons (ps_asg (pe_tup (pa_cons (pe_lc (own := [("_law_way", 8)]) (g := gName 8) (tt := tYes) (te := tCal (spCrs K) (tCons (tVar 8) tNil)) rfl nd (pi_list (pv 0)) (blkOk_by (N := NFl) (sc := defScope s_law_flips) (by decide +kernel)) (fun _ _ _ _ _ => pg_name (i := 8) nd rfl (Or.inl rfl)) (fun _ _ _ _ _ => pts_nil)
          (fun _ _ _ _ _ => pe_cal c (ok_law_crossings c) hr (pa_cons (pv 8) pa_nil))) (pa_cons pe_dnewN pa_nil))) (pg_tup (by rfl) (pgs_cons (pg_name (i := 1) nd rfl (.inr rfl)) (pgs_cons (pg_name (i := 2) nd rfl (.inl rfl)) pgs_nil))))
      (pss_cons (ps_for PassesOwn.never rfl (pi_enum (by rfl) (c.free "enumerate" (by decide +kernel)) (pa_cons (pv 1) pa_nil)) (pg_tup rfl (pgs_cons (pg_name (i := 3) nd rfl (.inl rfl)) (pgs_cons (pg_name (i := 4) nd rfl (.inr rfl)) pgs_nil)))
        (pss_cons (ps_setLc (i := 5) (own := [("_law_k", 6), ("_law_other", 7)]) (g := g2 K 6 7) (tt := tB (tCal (spAbove K) (tCons (tVar 4) (tCons (tVar 7) tNil)))) (te := tVar 6) rfl nd rfl rfl (sw_true rfl rfl (by decide) (by decide +kernel)) (pi_enum (by rfl) (c.free "enumerate" (by decide +kernel)) (pa_cons (pv 1) pa_nil)) (blkOk_by (N := NFl) (sc := defScope s_law_flips) (by decide +kernel))
            (fun _ _ _ _ _ => pg_tup rfl (pgs_cons (pg_name (i := 6) nd rfl (.inl rfl)) (pgs_cons (pg_name (i := 7) nd rfl (.inl rfl)) pgs_nil))) (fun _ _ _ _ _ => pts_one (pt_val (pe_cal c (ok_law_is_above c) hr (pa_cons (pv 4) (pa_cons (pv 7) pa_nil))))) (fun _ _ _ _ _ => pv 6))
        (pss_one (ps_for PassesOwn.never rfl (pi_list (pv 5)) (pg_name (i := 6) nd rfl (.inr rfl))
          (pss_one (ps_if (pt_not (pt_val (pe_callB (cr_any rfl) (by rfl) (c.free "any" (by decide +kernel)) (by decide +kernel) (pa_cons (pe_lc (own := [("_law_other", 7)]) (g := gName 7) (tt := tYes) (te := tCal (spAbove K) (tCons (tOp (rIxL K) (tVar 1) (tVar 7)) (tCons (tOp (rIxL K) (tVar 1) (tVar 6)) tNil))) rfl nd (pi_list (pv 5)) (blkOk_by (N := NFl) (sc := defScope s_law_flips) (by decide +kernel)) (fun _ _ _ _ _ => pg_name (i := 7) nd rfl (Or.inl rfl)) (fun _ _ _ _ _ => pts_nil)
              (fun _ _ _ _ _ => pe_cal c (ok_law_is_above c) hr (pa_cons (pe_ix ix_list (pv 1) (pv 7) (fun _ _ => rfl)) (pa_cons (pe_ix ix_list (pv 1) (pv 6) (fun _ _ => rfl)) pa_nil)))) pa_nil))))
            (pss_one (ps_asg pe_bl (pg_sub (pv 2) (pe_cal c (ok_law_stretches c) hr (pa_cons (pe_ix ix_list (pv 0) (pv 3) (fun _ _ => rfl)) (pa_cons (pe_ix ix_list (pv 0) (pv 6) (fun _ _ => rfl)) pa_nil))) (set_N hu9)))) pss_nil))))))
      (pss_one (ps_ret (pv 2)))), ?_⟩
    have lx : xs.length = Ls.length := by rw [AtL.length hx, List.length_map]
    have few : xs.length < sizeLine := by rw [lx]; exact Nat.lt_of_le_of_lt h30 (by decide)
    refine ⟨_, rfl, l, rfl, ⟨_, .inl (.inl hl)⟩, fun R hR0 => ?_⟩
    refine lcG (n := xs.length) (Y := fun i x _ => xs[i]? = some x) hR0 (fun i => (Ls[i]?).map K34.crs) (LsD fun (ns : List Nat) ys _ => ys = intsV ns) (LsD.mono fun _ _ _ _ _ h => h) few (fun H' e => sw_list (.inl (.inl (e _ _ hl)))) (fun i x H1 zs hi e1 hxi hDl Q2 q2 => ?_) fun H1 rs e1 hrs hpp => ?_
    · obtain ⟨kx, k1, k2⟩ := AtL.get (AtL.keep (Ex.tk e1) _ _ hx) hxi
      rw [List.getElem?_map] at k1
      obtain ⟨y, hy, rfl⟩ := Option.map_eq_some_iff.mp k1
      obtain ⟨n1, n2⟩ := hok y (List.mem_of_getElem? hy)
      refine ⟨rfl, _, rfl, x, y, rfl, k2, n1, n2, fun H3 r e3 h30 h31 => q2 (some (.ref r)) H3 e3 ?_⟩
      rw [hy]
      exact ⟨r, _, rfl, (ne_of_none hDl h30).symm, h31, rfl⟩
    · rw [lx, made_mapL] at hpp
      have rc1 : RowsC H1 Ls rs := ⟨by have := paired_len hpp; rw [List.length_map] at this; exact this.symm, fun i y hy => by
        obtain ⟨b, hb, p, ys, rfl, _, h1, h2⟩ := at_key hpp (i := i) (a := K34.crs y) (by rw [List.getElem?_map, hy]; rfl)
        exact ⟨p, hb, by rw [h1]; rw [show ys = intsV (K34.crs y) from h2]⟩⟩
      clear hpp
      intro d H2 hd0 e2 nd2 same
      refine ⟨by show 2 ≤ sizeLine; decide, fun t ht => ⟨t, _, rfl, .inl (.inl upd_same), rfl, _, _, rfl, _, _, rfl, rfl, ?_⟩⟩
      have e3 := Ex.laid (o := .tup [V.ref R, V.ref d]) ht
      have nd3 := nd2.ex e3
      have hd00 : H d = none := e1.free hd0
      generalize upd H2 t (.tup [V.ref R, V.ref d]) = H3 at e3 nd3
      have eB : Ex H1 (er d H3) := fun x o h => by rw [er_ne (ne_of_none h hd0)]; exact (e2.trans e3) x o h
      have B33 : Ex (er d H3) H3 := ex_er
      have hBd : (er d H3) d = none := er_self
      generalize er d H3 = B at eB B33 hBd
      have rcB := rc1.ex eB
      have hRB := eB _ _ hrs
      have hlB := eB _ _ (e1 _ _ hl)
      have hxB := AtL.keep (Ex.tk (e1.trans eB)) _ _ hx
      have lrs : rs.length = Ls.length := rcB.1
      have fewr : rs.length < sizeLine := by rw [lrs, ← lx]; exact few
      refine ⟨_, rfl, R, rs, rfl, .inl (.inl ((e2.trans e3) _ _ hrs)), ?_⟩
      refine forG (n := rs.length) (Y := fun i v H' => ∃ T x, v = .ref T ∧ H' T = some (.tup [.int (i : Nat), x]) ∧ rs[i]? = some x)
        (fun i σ' H' => (∃ o3 o4 o5 o6, σ' = [some (.ref l), some (.ref R), some (.ref d), o3, o4, o5, o6, none, none]) ∧ Ex B H' ∧ ∃ kvs, ND P w K H' d kvs ∧ kvs.length ≤ 30 * i ∧ KeysF kvs (fun f => ∃ y ∈ Ls.take i, ∃ z ∈ Ls, FP Ls y z ∧ f = K34.str y z))
        ⟨⟨none, none, none, none, rfl⟩, B33, [], nd3, Nat.zero_le _, [], rfl, List.nodup_nil, by simp⟩ (fun i σ' H' _ q => sw_enum (.inl (.inl (q.2.1 _ _ hRB)))) (fun i v σ' H' H'' hi q ex hv => ?_) fun σ' H' q => ?_
      · obtain ⟨⟨o3, o4, o5, o6, rfl⟩, e, kvs, ndk, lk, kf⟩ := q
        obtain ⟨T, x, rfl, hT, hxr⟩ := hv
        have e' := e.trans ex
        have hy : Ls[i]? = some (Ls[i]'(by omega)) := List.getElem?_eq_getElem (by omega)
        generalize Ls[i]'(by omega) = y at hy
        have my := List.mem_of_getElem? hy
        obtain ⟨ny1, ny2⟩ := hok y my
        obtain ⟨p, hp1, hp2⟩ := (rcB.ex e').2 i y hy
        rw [hxr] at hp1
        cases hp1
        obtain ⟨vx, gx, ax⟩ := AtL.getK (k := wyK y) hxB (by rw [List.getElem?_map, hy]; rfl)
        refine ⟨T, _, rfl, .inl (.inl hT), rfl, _, _, rfl, _, _, rfl, rfl, ?_⟩
        refine ⟨_, rfl, R, rs, rfl, .inl (.inl (e' _ _ hRB)), fun D hD => ?_⟩
        refine lcG (n := rs.length) (Y := fun i v H' => ∃ T x, v = .ref T ∧ H' T = some (.tup [.int (i : Nat), x]) ∧ rs[i]? = some x) hD (belowK Ls y) (fun _ (k : Nat) v _ => v = V.int (k : Nat)) (fun _ _ _ _ _ h => h) fewr (fun H' e2 => sw_enum (.inl (.inl ((e'.trans e2) _ _ hRB)))) (fun j v H4 zs hj e4 hv hDl Q2 q2 => ?_) fun H4 ys e4 hys hpp => ?_
        · obtain ⟨T2, x2, rfl, hT2, hxr2⟩ := hv
          have hz : Ls[j]? = some (Ls[j]'(by omega)) := List.getElem?_eq_getElem (by omega)
          generalize Ls[j]'(by omega) = z at hz
          obtain ⟨p2, hp3, hp4⟩ := (rcB.ex (e'.trans e4)).2 j z hz
          rw [hxr2] at hp3
          cases hp3
          refine ⟨T2, _, rfl, .inl (.inl hT2), rfl, _, _, rfl, _, _, rfl, rfl, rfl, _, rfl, _, rfl, p, p2, K34.crs y, K34.crs z, rfl, .inl (.inl (e4 _ _ hp2)), .inl (.inl hp4), crs_len ny2, fun H5 e5 => ⟨_, rfl, ?_⟩⟩
          by_cases ha : K34.isAbove (K34.crs y) (K34.crs z) = true
          · refine iteP ha ⟨_, rfl, q2 (some (.int (j : Nat))) H5 e5 ?_⟩
            unfold belowK
            rw [if_pos ⟨by omega, by rw [crAt_get hz]; exact ha⟩]
            exact rfl
          · refine iteN (by simpa using ha) (q2 none H5 e5 ?_)
            unfold belowK
            rw [if_neg (fun q => ha (by rw [← crAt_get hz]; exact q.2))]
            exact trivial
        · rw [lrs] at hpp
          have hys2 := ints_of (D := D) hpp
          have hys3 : ys = intsV (below Ls y) := hys2
          subst hys3
          have ndD : D ≠ d := by
            obtain ⟨φ, hφ⟩ := (ndk.ex ex).isExt
            exact (ne_of_none hφ hD).symm
          have lb : (intsV (below Ls y)).length = (below Ls y).length := by unfold intsV; rw [List.length_map]
          have lb2 := below_len Ls y
          have fewb : (intsV (below Ls y)).length < sizeLine := by rw [lb]; exact Nat.lt_of_le_of_lt (Nat.le_trans lb2 h30) (by decide)
          refine ⟨_, rfl, D, rfl, ⟨_, .inl (.inl hys)⟩, ?_⟩
          refine forG (n := (intsV (below Ls y)).length) (Y := fun i x _ => (intsV (below Ls y))[i]? = some x)
            (fun j σ' H' => (∃ o6, σ' = [some (.ref l), some (.ref R), some (.ref d), some (.int (i : Nat)), some (.ref p), some (.ref D), o6, none, none]) ∧ Ex B H' ∧ H' D = some (.lst (intsV (below Ls y))) ∧ ∃ kvs, ND P w K H' d kvs ∧ kvs.length ≤ 30 * i + j ∧ KeysF kvs (fun f => (∃ y ∈ Ls.take i, ∃ z ∈ Ls, FP Ls y z ∧ f = K34.str y z) ∨ ∃ b ∈ (below Ls y).take j, ∃ z, Ls[b]? = some z ∧ FP Ls y z ∧ f = K34.str y z))
            ⟨⟨_, rfl⟩, e'.trans e4, hys, kvs, ndk.ex (ex.trans e4), lk, kf.congr (by simp)⟩ (fun j σ' H' _ q => sw_list (.inl (.inl q.2.2.1))) (fun j v σ' H5 H6 hj q ex6 hv => ?_) fun σ' H5 q => ?_
          · obtain ⟨⟨o6, rfl⟩, e5, hD5, kvs, ndk, lk, kf⟩ := q
            obtain ⟨b, hb, rfl⟩ := intsV_at hv
            obtain ⟨z, hz, ha⟩ := mem_below.mp (List.mem_of_getElem? hb)
            have e6 := e5.trans ex6
            have mz := List.mem_of_getElem? hz
            obtain ⟨vz, gz, az⟩ := AtL.getK (k := wyK z) hxB (by rw [List.getElem?_map, hz]; rfl)
            have tkj : (below Ls y).take (j + 1) = (below Ls y).take j ++ [b] := by rw [List.take_add_one, hb]; rfl
            refine ⟨_, rfl, D, rfl, ⟨_, .inl (.inl (ex6 _ _ hD5))⟩, fun D2 hD2 => ?_⟩
            refine lcG (n := (intsV (below Ls y)).length) (Y := fun i x _ => (intsV (below Ls y))[i]? = some x) hD2 (fun i => ((below Ls y)[i]?).map fun o => K34.isAbove (crAt Ls o) (crAt Ls b)) (fun _ (b : Bool) v _ => v = V.bl b) (fun _ _ _ _ _ h => h) fewb (fun H' e7 => sw_list (.inl (.inl ((ex6.trans e7) _ _ hD5)))) (fun m v H7 zs hm e7 hv hDl Q2 q2 => ?_) fun H7 bs e7 hbs hpp => ?_
            · obtain ⟨o, ho, rfl⟩ := intsV_at hv
              obtain ⟨t, ht, _⟩ := mem_below.mp (List.mem_of_getElem? ho)
              have rc7 := rcB.ex (e6.trans e7)
              have hR7 := (e6.trans e7) _ _ hRB
              obtain ⟨p3, hp5, hp6⟩ := rc7.2 o t ht
              obtain ⟨p4, hp7, hp8⟩ := rc7.2 b z hz
              refine ⟨rfl, _, rfl, _, rfl, R, _, _, _, rfl, rfl, .inl (.inl hR7), atI_nat hp5, _, rfl, _, rfl, R, _, _, _, rfl, rfl, .inl (.inl hR7), atI_nat hp7, p3, p4, K34.crs t, K34.crs z, rfl, .inl (.inl hp6), .inl (.inl hp8), crs_len (hok t (List.mem_of_getElem? ht)).2, fun H8 e8 => q2 (some _) H8 e8 ?_⟩
              rw [ho]
              show V.bl _ = V.bl (K34.isAbove (crAt Ls o) (crAt Ls b))
              rw [crAt_get ht, crAt_get hz]
            · rw [lb, made_mapL] at hpp
              have eb := bools_of hpp
              rw [eb] at hbs
              refine ⟨D2, _, rfl, .inl (.inl hbs), ⟨_, rfl, ?_⟩⟩
              have e67 := e6.trans e7
              have nd7 := ndk.ex (ex6.trans e7)
              by_cases hfp : FP Ls y z
              · refine iteP ((any_below hz ha).mpr hfp) ?_
                obtain ⟨U, L, hP⟩ := hpt y my z mz hfp
                have hl7 := e67 _ _ hlB
                refine ⟨_, rfl, _, rfl, _, rfl, l, _, _, _, rfl, rfl, .inl (.inl hl7), atI_nat gx, _, rfl, _, rfl, l, _, _, _, rfl, rfl, .inl (.inl hl7), atI_nat gz, vx, vz, y, z, U, L, rfl, At.keep (Ex.tk e67) _ _ ax, At.keep (Ex.tk e67) _ _ az, hP, fun H8 r e8 ar => ?_⟩
                refine ⟨d, kvs, fcK (U, L), rfl, nd7.ex e8, ar, ⟨_, rfl⟩, fcK_d8 _, Nat.lt_of_le_of_lt (show kvs.length ≤ 1000 by omega) (by decide), fun H9 same9 tk9 nd9 => ?_⟩
                refine ⟨⟨_, rfl⟩, fun x o h => by rw [same9 x (ne_of_none h hBd)]; exact (e67.trans e8) x o h, by rw [same9 D ndD]; exact ((ex6.trans e7).trans e8) _ _ hD5, _, nd9, Nat.le_trans putN_len (by omega), kf.put fun g => ?_⟩
                rw [tkj]
                simp only [List.mem_append, List.mem_singleton]
                constructor
                · rintro (h | ⟨b', hb' | rfl, z', h1, h2, h3⟩)
                  · exact .inl (.inl h)
                  · exact .inl (.inr ⟨b', hb', z', h1, h2, h3⟩)
                  · rw [hz] at h1
                    cases h1
                    exact .inr (h3.trans hP.str)
                · rintro ((h | ⟨b', hb', z', h1, h2, h3⟩) | rfl)
                  · exact .inl h
                  · exact .inr ⟨b', .inl hb', z', h1, h2, h3⟩
                  · exact .inr ⟨b, .inr rfl, z, hz, hfp, hP.str.symm⟩
              · refine iteN (Bool.eq_false_iff.mpr fun q => hfp ((any_below hz ha).mp q)) ⟨⟨_, rfl⟩, e67, (ex6.trans e7) _ _ hD5, kvs, nd7, by omega, kf.congr fun g => ?_⟩
                rw [tkj]
                simp only [List.mem_append, List.mem_singleton]
                constructor
                · rintro (h | ⟨b', hb' | rfl, z', h1, h2, h3⟩)
                  · exact .inl h
                  · exact .inr ⟨b', hb', z', h1, h2, h3⟩
                  · rw [hz] at h1
                    cases h1
                    exact absurd h2 hfp
                · rintro (h | ⟨b', hb', z', h1, h2, h3⟩)
                  · exact .inl h
                  · exact .inr ⟨b', .inl hb', z', h1, h2, h3⟩
          · obtain ⟨⟨o6, rfl⟩, e5, hD5, kvs, ndk, lk, kf⟩ := q
            refine ⟨⟨_, _, _, _, rfl⟩, e5, kvs, ndk, by omega, kf.congr fun g => ?_⟩
            rw [lb, List.take_length, List.take_add_one, hy]
            simp only [List.mem_append, Option.toList_some, List.mem_singleton]
            constructor
            · rintro ⟨y', hy' | rfl, z', h1, h2, h3⟩
              · exact .inl ⟨y', hy', z', h1, h2, h3⟩
              · obtain ⟨b, hb⟩ := List.getElem?_of_mem h1
                exact .inr ⟨b, mem_below.mpr ⟨z', hb, h2.1⟩, z', hb, h2, h3⟩
            · rintro (⟨y', hy', z', h1, h2, h3⟩ | ⟨b, hb, z', h1, h2, h3⟩)
              · exact ⟨y', .inl hy', z', h1, h2, h3⟩
              · exact ⟨y, .inr rfl, z', List.mem_of_getElem? h1, h2, h3⟩
      · obtain ⟨⟨o3, o4, o5, o6, rfl⟩, e, kvs, ndk, lk, kf⟩ := q
        refine ⟨_, rfl, k H' d kvs ((e1.trans eB).trans e) hd00 ndk (kf.congr fun g => ?_) (by omega)⟩
        rw [lrs, List.take_length]
        constructor
        · rintro ⟨y, hy, z, hz, h1, h2, h3⟩
          exact ⟨y, hy, z, hz, ⟨h1, h2⟩, h3⟩
        · rintro ⟨y, hy, z, hz, ⟨h1, h2⟩, h3⟩
          exact ⟨y, hy, z, hz, h1, h2, h3⟩
end
end L2.K4
end
section
set_option Elab.async false
set_option linter.all false
set_option maxRecDepth 100000
set_option maxHeartbeats 4000000
/-! The law's defs: the pot. -/
namespace L2.K4
open PySem PySem.Spec PyProof.Rows L2
/-- the pot: two numbers, the second small -/
def PotAt (H : Hp) (p : Addr) : Prop := ∃ x y : Int, H p = some (.lst [.int x, .int y]) ∧ 0 ≤ y ∧ y < 2147483648
theorem PotAt.ex {H H' : Hp} {p : Addr} (h : PotAt H p) (e : Ex H H') : PotAt H' p := let ⟨x, y, a, b⟩ := h; ⟨x, y, e _ _ a, b⟩
theorem PotAt.some {H : Hp} {p : Addr} (h : PotAt H p) : ∃ o, H p = some o := let ⟨x, y, a, b⟩ := h; ⟨_, a⟩
theorem KD.refl {p : Addr} {H : Hp} : KD p H H := fun _ _ _ h => h
section
variable {P : Program} {w : World} {K : PySem.W.Frag} {mg : Str → Option Value} {base : Heap}
def spPot (K : PySem.W.Frag) : Sp := fun vs H Q _ => ∃ (a : Addr) (ns : List Int) (i : Nat), vs = [.ref a, .int i] ∧ SqL K H a (ns.map V.int) ∧ i ≤ 10 ∧ ∀ H' p, Ex H H' → H p = none → PotAt H' p → Q (.ref p) H'
theorem ok_law_pot (c : Cf K mg) : Kp P w K mg base 1 (He.ga K "_law_pot") (spPot K) := by
  obtain ⟨fd, F⟩ := F__law_pot c
  have nd : (["_law_script", "_law_index", "_law_cell"] : List Str).Nodup := by decide +kernel
  refine kp_of F (N := ["_law_script", "_law_index", "_law_cell"]) (ps := ["_law_script", "_law_index"]) ⟨rfl, rfl, rfl, nd, rfl, by decide +kernel, by decide +kernel⟩ (F.bindsN fun _ _ _ _ _ _ us hl => match us, hl with | [_, _], _ => rfl) (fun vs H Q E h => ?_) (fun cdv A outer s H vs Q E hr h => ?_)
  · obtain ⟨a, ns, i, rfl, _⟩ := h; rfl
  · obtain ⟨a, ns, i, rfl, ha, hi, k⟩ := h
    refine ⟨_, Evl.pss_cut (ps_set (i := 2) nd rfl (.inl rfl) (pe_ifExp (pt_cmpR op_lt (pv 1) (pe_callB call_len_seq (by rfl) (c.free "len" (by decide +kernel)) PySem.boot_len (pa_cons (pv 0) pa_nil)) (nomark _))
        (pe_callB call_abs (by rfl) (c.free "abs" (by decide +kernel)) (by decide +kernel) (pa_cons (pe_ix ix_list (pv 0) (pv 1) (fun _ _ => rfl)) pa_nil)) (pe_op op_add (pe_op op_mul pe_int (pv 1)) pe_int)))
      (pss_one (ps_ret (pe_lst (pa_cons (pe_callB (call_max2 rfl) (by rfl) (c.free "max" (by decide +kernel)) (by decide +kernel) (pa_cons pe_int (pa_cons (pe_op op_sub (pv 2) (pe_op op_pow pe_int pe_int)) pa_nil)))
        (pa_cons (pe_op op_mod (pe_callTy call_int1 (by rfl) (c.free "int" (by decide +kernel)) (by decide +kernel) (pa_cons (pe_op op_add (pe_op op_add (pe_op op_mul (pe_op op_mod (pe_callTy call_int1 (by rfl) (c.free "int" (by decide +kernel)) (by decide +kernel) (pa_cons (pv 2) pa_nil)) pe_int) pe_int) (pe_op op_mul pe_int (pv 1))) pe_int) pa_nil)) pe_int) pa_nil))))), ?_⟩
    refine ⟨fun σ2 H2 => H2 = H ∧ ∃ cell : Int, σ2 = [some (.ref a), some (.int (i : Nat)), some (.int cell)], ?_, ?_⟩
    · refine ⟨_, rfl, _, rfl, a, _, rfl, .inl ha, _, _, rfl, rfl, _, rfl, ?_⟩
      by_cases h : i < (ns.map V.int).length
      · exact iteP (decide_eq_true (Int.ofNat_lt.mpr h)) ⟨_, rfl, _, rfl, a, _, _, _, rfl, rfl, ha, atI_nat (by rw [List.getElem?_map, List.getElem?_eq_getElem (by simpa using h)]; rfl), _, rfl, rfl, _, rfl⟩
      · exact iteN (decide_eq_false fun z => h (Int.ofNat_lt.mp z)) ⟨_, rfl, _, _, rfl, rfl, .inl (by decide), _, _, rfl, rfl, rfl, _, rfl⟩
    · rintro σ2 H2 ⟨rfl, cell, rfl⟩
      exact ⟨_, rfl, 10, 18, rfl, rfl, ⟨by decide, by decide, by decide⟩, _, _, rfl, rfl, _, _, rfl, _, rfl, .inl ⟨_, rfl, _, _, rfl, rfl, (show (0 : Int) < 2147483587 by decide), _, _, rfl, rfl, .inr (by decide), _, rfl, _, _, rfl, rfl, .inl (by decide), _, _, rfl, rfl, _, _, rfl, rfl,
        .inl ⟨_, rfl, _, _, rfl, rfl, (show (0 : Int) < 2147483647 by decide), by show 2 ≤ sizeLine; decide, fun p hp => k _ p (Ex.laid hp) hp ⟨_, _, upd_same, Int.emod_nonneg _ (by decide), Int.lt_trans (Int.emod_lt_of_pos _ (by decide)) (by decide)⟩⟩⟩⟩
def spDraw : Sp := fun vs H Q _ => ∃ (p : Addr) (m : Int), vs = [.ref p, .int m] ∧ PotAt H p ∧ 0 < m ∧ m < 1000 ∧ ∀ (H' : Hp) (d : Int), KD p H H' → PotAt H' p → 0 ≤ d → d < m → Q (.int d) H'
theorem ok_law_draw (c : Cf K mg) : Kp P w K mg base 1 (He.ga K "_law_draw") spDraw := by
  obtain ⟨fd, F⟩ := F__law_draw c
  have nd : (["_law_pot_here", "_law_many", "_law_digit"] : List Str).Nodup := by decide +kernel
  refine kp_of F (N := ["_law_pot_here", "_law_many", "_law_digit"]) (ps := ["_law_pot_here", "_law_many"]) ⟨rfl, rfl, rfl, nd, rfl, by decide +kernel, by decide +kernel⟩ (F.bindsN fun _ _ _ _ _ _ us hl => match us, hl with | [_, _], _ => rfl) (fun vs H Q E h => ?_) (fun cdv A outer s H vs Q E hr h => ?_)
  · obtain ⟨p, m, rfl, _⟩ := h; rfl
  · obtain ⟨p, m, rfl, ⟨x, y, hp, y0, y1⟩, m0, m1, k⟩ := h
    refine ⟨_, pss_cons (ps_if (pt_cmpR op_gt (pe_ix ix_list (pv 0) pe_int (fun _ _ => rfl)) pe_int (nomark _))
        (pss_cons (ps_asg (pe_callB call_divmod (by rfl) (c.free "divmod" (by decide +kernel)) (by decide +kernel) (pa_cons (pe_ix ix_list (pv 0) pe_int (fun _ _ => rfl)) (pa_cons (pv 1) pa_nil))) (pg_tup (by rfl) (pgs_cons (pg_sub (pv 0) pe_int set_list) (pgs_cons (pg_name (i := 2) nd rfl (.inl rfl)) pgs_nil)))) (pss_one (ps_ret (pv 2)))) pss_nil)
      (pss_cons (ps_asg (pe_op op_mod (pe_callTy call_int1 (by rfl) (c.free "int" (by decide +kernel)) (by decide +kernel) (pa_cons (pe_op op_add (pe_op op_mul (pe_ix ix_list (pv 0) pe_int (fun _ _ => rfl)) pe_int) pe_int) pa_nil)) pe_int) (pg_sub (pv 0) pe_int set_list))
      (pss_one (ps_ret (pe_op op_mod (pe_op op_fdiv (pe_op op_mod (pe_callTy call_int1 (by rfl) (c.free "int" (by decide +kernel)) (by decide +kernel) (pa_cons (pe_op op_mul (pe_ix ix_list (pv 0) pe_int (fun _ _ => rfl)) (pe_ix ix_list (pv 0) pe_int (fun _ _ => rfl))) pa_nil)) pe_int) pe_int) (pv 1))))), ?_⟩
    refine ⟨_, rfl, p, _, _, _, rfl, rfl, .inl (.inl hp), atI_nat (xs := [V.int x, V.int y]) (j := 0) rfl, _, _, rfl, rfl, _, rfl, ?_⟩
    by_cases h : 0 < x
    · refine iteP (decide_eq_true h) ⟨_, rfl, p, _, _, _, rfl, rfl, .inl (.inl hp), atI_nat (xs := [V.int x, V.int y]) (j := 0) rfl, _, rfl, x, m, rfl, ⟨m0, by omega⟩, fun t ht => ?_⟩
      have e := Ex.laid (o := .tup [V.int (x / m), V.int (x % m)]) ht
      refine ⟨t, _, rfl, .inl (.inl upd_same), rfl, _, _, rfl, _, rfl, p, _, _, 0, rfl, rfl, e _ _ hp, rfl, _, _, rfl, rfl, ?_⟩
      exact ⟨_, rfl, k _ _ (fun a o hn h => by rw [upd_ne hn]; exact e a o h) ⟨x / m, y, upd_same, y0, y1⟩ (Int.emod_nonneg _ (by omega)) (Int.emod_lt_of_pos _ m0)⟩
    · refine iteN (decide_eq_false h) ⟨_, rfl, p, _, _, _, rfl, rfl, .inl (.inl hp), atI_nat (xs := [V.int x, V.int y]) (j := 1) rfl, _, _, rfl, rfl, .inr (by decide), _, _, rfl, rfl, .inl ⟨_, rfl, _, _, rfl, rfl, (show (0 : Int) < 2147483629 by decide), _, rfl, p, _, _, 1, rfl, rfl, hp, rfl, ?_⟩⟩
      have y0' : 0 ≤ (y * 39373 + 12227) % 2147483629 := Int.emod_nonneg _ (by decide)
      have y1' : (y * 39373 + 12227) % 2147483629 < 2147483629 := Int.emod_lt_of_pos _ (by decide)
      have hz : (upd H p (.lst ([V.int x, V.int y].set 1 ((fun i j : Int => V.int (i % j)) (y * 39373 + 12227) 2147483629)))) p = some (.lst [V.int x, V.int ((y * 39373 + 12227) % 2147483629)]) := upd_same
      refine ⟨_, rfl, p, _, _, _, rfl, rfl, .inl (.inl hz), atI_nat (xs := [V.int x, V.int ((y * 39373 + 12227) % 2147483629)]) (j := 1) rfl, _, rfl, p, _, _, _, rfl, rfl, .inl (.inl hz), atI_nat (xs := [V.int x, V.int ((y * 39373 + 12227) % 2147483629)]) (j := 1) rfl, _, _, rfl, rfl, .inl ⟨by omega, by omega⟩, .inl ⟨_, rfl, _, _, rfl, rfl, (show (0 : Int) < 2147483563 by decide), _, _, rfl, rfl, ⟨by decide, by decide⟩, _, rfl, _, _, rfl, rfl, m0, ?_⟩⟩
      exact k _ _ (fun a o hn h => by rw [upd_ne hn]; exact h) ⟨x, _, hz, y0', by omega⟩ (Int.emod_nonneg _ (by omega)) (Int.emod_lt_of_pos _ m0)
def spPick : Sp := fun vs H Q _ => ∃ (p l : Addr) (xs : List V), vs = [.ref p, .ref l] ∧ PotAt H p ∧ H l = some (.lst xs) ∧ l ≠ p ∧ xs ≠ [] ∧ xs.length < 1000 ∧ ∀ (H' : Hp) (x : V), KD p H H' → PotAt H' p → x ∈ xs → Q x H'
theorem ok_law_pick (c : Cf K mg) : Kp P w K mg base 2 (He.ga K "_law_pick") spPick := by
  obtain ⟨fd, F⟩ := F__law_pick c
  have nd : (["_law_pot_here", "_law_some"] : List Str).Nodup := by decide +kernel
  refine kp_of F (N := ["_law_pot_here", "_law_some"]) (ps := ["_law_pot_here", "_law_some"]) ⟨rfl, rfl, rfl, nd, rfl, by decide +kernel, by decide +kernel⟩ (F.bindsN fun _ _ _ _ _ _ us hl => match us, hl with | [_, _], _ => rfl) (fun vs H Q E h => ?_) (fun cdv A outer s H vs Q E hr h => ?_)
  · obtain ⟨p, l, xs, rfl, _⟩ := h; rfl
  · obtain ⟨p, l, xs, rfl, hp, hl, hlp, hne, hlen, k⟩ := h
    refine ⟨_, pss_one (ps_ret (pe_ix ix_list (pv 1) (pe_cal c (ok_law_draw c) hr (pa_cons (pv 0) (pa_cons (pe_callB call_len_seq (by rfl) (c.free "len" (by decide +kernel)) PySem.boot_len (pa_cons (pv 1) pa_nil)) pa_nil))) (fun _ _ => rfl))), ?_⟩
    refine ⟨_, rfl, _, rfl, _, rfl, l, _, rfl, .inl (.inl (.inl hl)), p, _, rfl, hp, by have := List.length_pos_iff.mpr hne; omega, by omega, fun H' d kd hp' d0 d1 => ?_⟩
    have hd : d.toNat < xs.length := by omega
    refine ⟨l, _, _, _, rfl, rfl, .inl (.inl (kd l _ hlp hl)), by have := atI_nat (List.getElem?_eq_getElem hd); rwa [Int.toNat_of_nonneg d0] at this, k H' _ kd hp' (List.getElem_mem hd)⟩
end
end L2.K4
end
section
set_option Elab.async false
set_option linter.all false
set_option maxRecDepth 100000
set_option maxHeartbeats 4000000
/-! The law's defs: texts. -/
namespace L2.K4
open PySem PySem.Spec PyProof.Rows L2
/-- all but the pot stands, the pot is a pot -/
structure Dw (p : Addr) (H H' : Hp) : Prop where
  kd : KD p H H'
  pot : PotAt H' p
theorem Dw.ex {p : Addr} {H H' H'' : Hp} (h : Dw p H H') (e : Ex H' H'') : Dw p H H'' := ⟨h.kd.trans (KD.ex e), h.pot.ex e⟩
theorem Dw.go {p : Addr} {H H' H'' : Hp} (h : Dw p H H') (k : KD p H' H'') (q : PotAt H'' p) : Dw p H H'' := ⟨h.kd.trans k, q⟩
theorem PotAt.ne {H : Hp} {p l : Addr} (h : PotAt H p) (hl : H l = none) : l ≠ p := by
  obtain ⟨o, q⟩ := h.some
  exact (ne_of_none q hl).symm
/-- a comprehension that draws -/
theorem lcM {J : It} {n : Nat} {Y : Nat → V → Hp → Prop} {g : TG} {tt : TT} {te : TE} {vs : List Nat} {σ : L2.St} {H : Hp} {D : Addr} {Qd : Hp → Prop} {p : Addr} (hD : H D = none) (hp : PotAt H p) (R : V → Prop) (hn : n < sizeLine)
    (hw : ∀ H', Dw p H H' → SW J n Y H')
    (step : ∀ i x H1, i < n → Dw p H H1 → Y i x H1 → ∀ Q2 : Option V → Hp → Prop, (∀ v H2, Dw p H1 H2 → (∀ y, v = some y → R y) → Q2 v H2) → tturn g tt te vs σ x H1 Q2)
    (fin : ∀ H2 ys, Dw p H H2 → H2 D = some (.lst ys) → ys.length ≤ n → (∀ y ∈ ys, R y) → Qd H2) :
    ∃ W : Nat → Nat → Hp → Prop, (∃ m, W 0 m (upd H D (.lst []))) ∧ ∀ i m H, W i m H →
      (J.stop i H ∧ Qd H) ∨ (J.go i H ∧ ∃ Nx : Hp → Prop, (∀ H', Nx H' → ∃ m', m' < m ∧ W (i + 1) m' H') ∧ ∀ x H', J.yld i H x H' → g x (wipe σ vs) H' fun σ2 H2 => wipe σ2 vs = wipe σ vs ∧ tt σ2 H2 fun b H3 =>
        if b = true then te σ2 H3 fun y H4 => ∃ acc, H4 D = some (.lst acc) ∧ acc.length < sizeLine ∧ Nx (upd H4 D (.lst (acc ++ [y]))) else Nx H3) := by
  have hDp : D ≠ p := hp.ne hD
  let W : Nat → Nat → Hp → Prop := fun i m H' => m = n - i ∧ i ≤ n ∧ Dw p H H' ∧ ∃ ys, H' D = some (.lst ys) ∧ ys.length ≤ i ∧ ∀ y ∈ ys, R y
  refine ⟨W, ⟨n, by simp, Nat.zero_le _, ⟨KD.ex (Ex.laid hD), hp.ex (Ex.laid hD)⟩, [], upd_same, Nat.zero_le _, fun y h => by cases h⟩, ?_⟩
  rintro i m H' ⟨rfl, hi, e, ys, hy, hl, hr⟩
  have s := hw H' e i
  rcases Nat.lt_or_ge i n with h | h
  · refine .inr ⟨(s.1 h).1, fun H'' => W (i + 1) (n - (i + 1)) H'', fun H'' q => ⟨_, by omega, q⟩, fun x H1 hy1 => ?_⟩
    obtain ⟨e1, y1⟩ := (s.1 h).2 x H1 hy1
    have hy' : H1 D = some (.lst ys) := e1 _ _ hy
    exact step i x H1 h (e.ex e1) y1 (fun v H2 => match v with
      | none => W (i + 1) (n - (i + 1)) H2
      | some y => ∃ acc, H2 D = some (.lst acc) ∧ acc.length < sizeLine ∧ W (i + 1) (n - (i + 1)) (upd H2 D (.lst (acc ++ [y])))) fun v H2 e2 ho => by
        have hyy : H2 D = some (.lst ys) := e2.kd _ _ hDp hy'
        have ex2 : Dw p H H2 := (e.ex e1).go e2.kd e2.pot
        cases v with
        | none => exact ⟨rfl, h, ex2, ys, hyy, by omega, hr⟩
        | some y =>
          refine ⟨ys, hyy, by omega, rfl, h, ⟨fun a o hn ha => ?_, ?_⟩, _, upd_same, by rw [List.length_append, List.length_singleton]; omega, fun z hz => ?_⟩
          · rw [upd_ne (ne_of_none ha hD)]; exact ex2.kd a o hn ha
          · obtain ⟨x, y, a, b⟩ := ex2.pot
            exact ⟨x, y, by rw [upd_ne hDp.symm]; exact a, b⟩
          · rcases List.mem_append.mp hz with hz | hz
            · exact hr z hz
            · rw [List.mem_singleton.mp hz]; exact ho y rfl
  · have hi' : i = n := Nat.le_antisymm hi h
    subst hi'
    exact .inl ⟨s.2 (Nat.le_refl _), fin H' ys e hy hl hr⟩
/-- an allowed line -/
def IsLn (v : V) : Prop := ∃ z ∈ LN, v = .str z
theorem lns_of : ∀ {ys : List V}, (∀ y ∈ ys, IsLn y) → ∃ ls : List Str, ys = ls.map V.str ∧ ∀ z ∈ ls, z ∈ LN
  | [], _ => ⟨[], rfl, fun _ h => by cases h⟩
  | y :: ys, h => by
    obtain ⟨z, hz, rfl⟩ := h y List.mem_cons_self
    obtain ⟨ls, rfl, hl⟩ := lns_of fun y hy => h y (List.mem_cons_of_mem _ hy)
    exact ⟨z :: ls, rfl, fun x hx => by
      rcases List.mem_cons.mp hx with rfl | hx
      · exact hz
      · exact hl x hx⟩
theorem cutV_mem {xs : List V} {lo hi : Option Int} {x : V} (h : x ∈ cutV xs lo hi) : x ∈ xs := List.mem_of_mem_drop (List.mem_of_mem_take h)
theorem cutV_four (xs : List V) : (cutV xs none (some 4)).length ≤ 4 := by
  unfold cutV
  have e : HT.sIx xs.length xs.length (some (4 : Int)) = min 4 xs.length := HT.sIx_nat _ _ 4
  rw [e, HT.sIx_none, List.length_take]
  omega
theorem ln1 {zs : List Str} (h : ∀ z ∈ zs, z ∈ LN) : ∀ y ∈ zs.map V.str, IsLn y := fun y hy => by
  obtain ⟨z, hz, rfl⟩ := List.mem_map.mp hy
  exact ⟨z, h z hz, rfl⟩
/-- a list of letters -/
def LT (p : Addr) (H : Hp) (x : V) : Prop := ∃ l ys, x = V.ref l ∧ H l = some (.lst ys) ∧ l ≠ p ∧ ys ≠ [] ∧ ys.length < 1000 ∧ ∀ y ∈ ys, IsLn y
theorem LT.kd {p : Addr} {H H' : Hp} {x : V} (h : LT p H x) (k : KD p H H') : LT p H' x := let ⟨l, ys, a, b, c, d⟩ := h; ⟨l, ys, a, k l _ c b, c, d⟩
section
variable {P : Program} {w : World} {K : PySem.W.Frag} {mg : Str → Option Value} {base : Heap}
abbrev NT : List Str := ["_law_pot_here", "_law_most", "_law_letters", "_law_old", "_law_new", "_law_at", "_law_turn", "_law_line"]
def spLTexts : Sp := fun vs H Q _ => ∃ p, vs = [.ref p, .int 4] ∧ PotAt H p ∧ ∀ H' t o n ls ms, Dw p H H' → H' t = some (.tup [.ref o, .ref n]) → H' o = some (.lst (ls.map V.str)) → LOk ls → H' n = some (.lst (ms.map V.str)) → LOk ms → Q (.ref t) H'
theorem ok_law_texts (c : Cf K mg) : Kp P w K mg base 3 (He.ga K "_law_texts") spLTexts := by
  obtain ⟨fd, F⟩ := F__law_texts c
  have nd : NT.Nodup := by decide +kernel
  refine kp_of F (N := NT) (ps := ["_law_pot_here", "_law_most"]) ⟨rfl, rfl, rfl, nd, rfl, by decide +kernel, by decide +kernel⟩ (F.bindsN fun _ _ _ _ _ _ us hl => match us, hl with | [_, _], _ => rfl) (fun vs H Q E h => ?_) (fun cdv A outer s H vs Q E hr h => ?_)
  · obtain ⟨p, rfl, _⟩ := h; rfl
  · obtain ⟨p, rfl, hp, k⟩ := h
    refine ⟨_, pss_cons (ps_set (i := 2) nd rfl (.inr rfl) (pe_cal c (ok_law_pick c) hr (pa_cons (pv 0) (pa_cons (pe_lst (pa_cons (pe_lst (pa_cons pe_str pa_nil)) (pa_cons (pe_lst (pa_cons pe_str (pa_cons pe_str pa_nil))) (pa_cons (pe_lst (pa_cons pe_str (pa_cons pe_str pa_nil))) (pa_cons (pe_lst (pa_cons pe_str (pa_cons pe_str pa_nil))) (pa_cons (pe_lst (pa_cons pe_str (pa_cons pe_str (pa_cons pe_str pa_nil)))) pa_nil)))))) pa_nil))))
      (pss_cons (ps_setLc (i := 3) (own := [("_law_turn", 6)]) (g := gName 6) (tt := tYes) (te := tCal spPick (tCons (tVar 0) (tCons (tVar 2) tNil))) rfl nd rfl rfl (sw_true rfl rfl (by decide) (by decide +kernel)) (pi_range1 (by rfl) (c.free "range" (by decide +kernel)) (pa_cons (pe_cal c (ok_law_draw c) hr (pa_cons (pv 0) (pa_cons (pe_op op_add (pv 1) pe_int) pa_nil))) pa_nil)) (blkOk_by (N := NT) (sc := defScope s_law_texts) (by decide +kernel)) (fun _ _ _ _ _ => pg_name (i := 6) nd rfl (Or.inl rfl)) (fun _ _ _ _ _ => pts_nil)
        (fun _ _ _ _ _ => pe_cal c (ok_law_pick c) hr (pa_cons (pv 0) (pa_cons (pv 2) pa_nil))))
      (pss_cons (ps_setLc (i := 4) (own := [("_law_turn", 6)]) (g := gName 6) (tt := tYes) (te := tCal spPick (tCons (tVar 0) (tCons (tVar 2) tNil))) rfl nd rfl rfl (sw_true rfl rfl (by decide) (by decide +kernel)) (pi_range1 (by rfl) (c.free "range" (by decide +kernel)) (pa_cons (pe_cal c (ok_law_draw c) hr (pa_cons (pv 0) (pa_cons (pe_op op_add (pv 1) pe_int) pa_nil))) pa_nil)) (blkOk_by (N := NT) (sc := defScope s_law_texts) (by decide +kernel)) (fun _ _ _ _ _ => pg_name (i := 6) nd rfl (Or.inl rfl)) (fun _ _ _ _ _ => pts_nil)
        (fun _ _ _ _ _ => pe_cal c (ok_law_pick c) hr (pa_cons (pv 0) (pa_cons (pv 2) pa_nil))))
      (Evl.pss_cut (ps_if (pt_cmpR op_eq (pe_cal c (ok_law_draw c) hr (pa_cons (pv 0) (pa_cons pe_int pa_nil))) pe_int (nomark _))
        (pss_cons (ps_setLc (i := 4) (own := [("_law_line", 7)]) (g := gName 7) (tt := tTest (tOp (rI0 fun i j => .bl (decide (j < i))) (tCal spDraw (tCons (tVar 0) (tCons (tC (.int 3)) tNil))) (tC (.int 0)))) (te := tVar 7) rfl nd rfl rfl (sw_true rfl rfl (by decide) (by decide +kernel)) (pi_list (pv 3)) (blkOk_by (N := NT) (sc := defScope s_law_texts) (by decide +kernel)) (fun _ _ _ _ _ => pg_name (i := 7) nd rfl (Or.inl rfl)) (fun _ _ _ _ _ => pts_one (pt_cmpR op_gt (pe_cal c (ok_law_draw c) hr (pa_cons (pv 0) (pa_cons pe_int pa_nil))) pe_int (nomark _)))
          (fun _ _ _ _ _ => pv 7))
        (pss_cons (ps_set (i := 5) nd rfl (.inl rfl) (pe_cal c (ok_law_draw c) hr (pa_cons (pv 0) (pa_cons (pe_op op_add (pe_callB call_len_seq (by rfl) (c.free "len" (by decide +kernel)) PySem.boot_len (pa_cons (pv 4) pa_nil)) pe_int) pa_nil))))
        (pss_cons (ps_set (i := 4) nd rfl (.inl rfl) (pe_op op_cat (pe_op op_cat (pe_slice sl_list (pv 4) po_none (po_some (pv 5))) (pe_op op_rep (pe_lst (pa_cons (pe_cal c (ok_law_pick c) hr (pa_cons (pv 0) (pa_cons (pv 2) pa_nil))) pa_nil)) (pe_cal c (ok_law_draw c) hr (pa_cons (pv 0) (pa_cons pe_int pa_nil))))) (pe_slice sl_list (pv 4) (po_some (pv 5)) po_none)))
        (pss_one (ps_set (i := 4) nd rfl (.inl rfl) (pe_slice sl_list (pv 4) po_none (po_some (pv 1)))))))) pss_nil)
      (pss_one (ps_ret (pe_tup (pa_cons (pv 3) (pa_cons (pv 4) pa_nil)))))))), ?_⟩
    refine ⟨_, rfl, by show 1 ≤ sizeLine; decide, fun l1 h1 => ⟨by show 2 ≤ sizeLine; decide, fun l2 h2 => ⟨by show 2 ≤ sizeLine; decide, fun l3 h3 => ⟨by show 2 ≤ sizeLine; decide, fun l4 h4 => ⟨by show 3 ≤ sizeLine; decide, fun l5 h5 => ⟨by show 5 ≤ sizeLine; decide, fun lo ho => ?_⟩⟩⟩⟩⟩⟩
    have e1 := Ex.laid (o := .lst [V.str "a"]) h1
    have e2 := Ex.laid (o := .lst [V.str "a", V.str "b"]) h2
    have e3 := Ex.laid (o := .lst [V.str "a", V.str "b"]) h3
    have e4 := Ex.laid (o := .lst [V.str "a", V.str "b"]) h4
    have e5 := Ex.laid (o := .lst [V.str "x", V.str "", V.str "a b"]) h5
    have e6 := Ex.laid (o := .lst [V.ref l1, V.ref l2, V.ref l3, V.ref l4, V.ref l5]) ho
    have q1 := hp.ex e1
    have q2 := q1.ex e2
    have q3 := q2.ex e3
    have q4 := q3.ex e4
    have q5 := q4.ex e5
    have q6 := q5.ex e6
    have L1 : LT p _ (.ref l1) := ⟨l1, _, rfl, ((((e2.trans e3).trans e4).trans e5).trans e6) _ _ upd_same, hp.ne h1, by simp, by show 1 < 1000; decide, ln1 (zs := ["a"]) (by decide +kernel)⟩
    have L2 : LT p _ (.ref l2) := ⟨l2, _, rfl, (((e3.trans e4).trans e5).trans e6) _ _ upd_same, q1.ne h2, by simp, by show 2 < 1000; decide, ln1 (zs := ["a", "b"]) (by decide +kernel)⟩
    have L3 : LT p _ (.ref l3) := ⟨l3, _, rfl, ((e4.trans e5).trans e6) _ _ upd_same, q2.ne h3, by simp, by show 2 < 1000; decide, ln1 (zs := ["a", "b"]) (by decide +kernel)⟩
    have L4 : LT p _ (.ref l4) := ⟨l4, _, rfl, (e5.trans e6) _ _ upd_same, q3.ne h4, by simp, by show 2 < 1000; decide, ln1 (zs := ["a", "b"]) (by decide +kernel)⟩
    have L5 : LT p _ (.ref l5) := ⟨l5, _, rfl, e6 _ _ upd_same, q4.ne h5, by simp, by show 3 < 1000; decide, ln1 (zs := ["x", "", "a b"]) (by decide +kernel)⟩
    refine ⟨p, lo, _, rfl, q6, upd_same, q5.ne ho, by simp, by show 5 < 1000; decide, fun H1 x kd1 pot1 hx => ?_⟩
    have DA : Dw p H H1 := (Dw.ex (Dw.ex (Dw.ex (Dw.ex (Dw.ex (Dw.ex ⟨KD.refl, hp⟩ e1) e2) e3) e4) e5) e6).go kd1 pot1
    have hx' : LT p H1 x := by
      simp only [List.mem_cons, List.not_mem_nil, or_false] at hx
      rcases hx with rfl | rfl | rfl | rfl | rfl
      · exact L1.kd kd1
      · exact L2.kd kd1
      · exact L3.kd kd1
      · exact L4.kd kd1
      · exact L5.kd kd1
    clear L1 L2 L3 L4 L5 hx kd1 q1 q2 q3 q4 q5 q6 e1 e2 e3 e4 e5 e6
    obtain ⟨lt, ls0, rfl, hlt, nlt, ne0, len0, hls0⟩ := hx'
    -- the old text
    refine ⟨_, rfl, _, rfl, _, _, rfl, rfl, p, _, rfl, pot1, by decide, by decide, fun H2 d kd2 pot2 d0 d1 => ⟨d, rfl, by omega, by omega, fun D hD => ?_⟩⟩
    have DB := DA.go kd2 pot2
    have hlt2 := kd2 _ _ nlt hlt
    refine lcM (n := d.toNat) (Y := fun i x _ => x = .int (0 + i)) hD pot2 IsLn (Nat.lt_of_le_of_lt (show _ ≤ 5 by omega) (by decide)) (fun _ _ => sw_range) (fun i x H3 hi D3 hx Q2 q2 => ?_) fun H3 ys D3 hys hl hR => ?_
    · exact ⟨rfl, _, rfl, _, rfl, p, lt, ls0, rfl, D3.pot, D3.kd _ _ nlt hlt2, nlt, ne0, len0, fun H4 y kd4 pot4 hy => q2 (some y) H4 ⟨kd4, pot4⟩ fun y' e => by cases e; exact hls0 y hy⟩
    obtain ⟨ls, rfl, hls⟩ := lns_of hR
    have hls4 : LOk ls := ⟨by rw [List.length_map] at hl; omega, hls⟩
    have DC := DB.go D3.kd D3.pot
    have hlt3 := D3.kd _ _ nlt hlt2
    have nD := pot2.ne hD
    clear hl hR d1 d0 hlt hlt2 DA DB hD
    -- the new text
    refine ⟨_, rfl, _, rfl, _, _, rfl, rfl, p, _, rfl, DC.pot, by decide, by decide, fun H4 d kd4 pot4 d0 d1 => ⟨d, rfl, by omega, by omega, fun D' hD' => ?_⟩⟩
    have DD := DC.go kd4 pot4
    have hlt4 := kd4 _ _ nlt hlt3
    have hys4 := kd4 _ _ nD hys
    refine lcM (n := d.toNat) (Y := fun i x _ => x = .int (0 + i)) hD' pot4 IsLn (Nat.lt_of_le_of_lt (show _ ≤ 5 by omega) (by decide)) (fun _ _ => sw_range) (fun i x H3 hi D3 hx Q2 q2 => ?_) fun H5 ys D5 hys' hl hR => ?_
    · exact ⟨rfl, _, rfl, _, rfl, p, lt, ls0, rfl, D3.pot, D3.kd _ _ nlt hlt4, nlt, ne0, len0, fun H4 y kd4 pot4 hy => q2 (some y) H4 ⟨kd4, pot4⟩ fun y' e => by cases e; exact hls0 y hy⟩
    obtain ⟨ms, rfl, hms⟩ := lns_of hR
    have hms4 : LOk ms := ⟨by rw [List.length_map] at hl; omega, hms⟩
    have DE := DD.go D5.kd D5.pot
    have hlt5 := D5.kd _ _ nlt hlt4
    have hys5 := D5.kd _ _ nD hys4
    clear hl hR d1 d0
    refine ⟨fun σ' H' => ∃ n ms o5, σ' = [some (.ref p), some (.int 4), some (.ref lt), some (.ref D), some (.ref n), o5, none, none] ∧ Dw p H H' ∧ H' D = some (.lst (ls.map V.str)) ∧ H' n = some (.lst (ms.map V.str)) ∧ LOk ms, ?_, ?_⟩
    · refine ⟨_, rfl, p, 3, rfl, DE.pot, by decide, by decide, fun H6 d6 kd6 pot6 _ _ => ⟨rfl, _, rfl, ?_⟩⟩
      have DF := DE.go kd6 pot6
      have nD' := pot4.ne hD'
      by_cases h : d6 = 0
      · refine iteP (decide_eq_true (by rw [h])) ?_
        have hys6 := kd6 _ _ nD hys5
        have hlt6 := kd6 _ _ nlt hlt5
        refine ⟨_, rfl, D, rfl, ⟨_, .inl (.inl hys6)⟩, fun D2 hD2 => ?_⟩
        refine lcM (n := (ls.map V.str).length) (Y := fun i x _ => (ls.map V.str)[i]? = some x) hD2 pot6 IsLn (by rw [List.length_map]; exact Nat.lt_of_le_of_lt hls4.1 (by decide)) (fun H' q => sw_list (.inl (.inl (q.kd _ _ nD hys6)))) (fun i x H7 hi D7 hx Q2 q2 => ?_) fun H7 ys D7 hys7 hl hR => ?_
        · refine ⟨rfl, _, rfl, p, 3, rfl, D7.pot, by decide, by decide, fun H8 d8 kd8 pot8 _ _ => ⟨_, _, rfl, rfl, _, rfl, ?_⟩⟩
          by_cases g : 0 < d8
          · exact iteP (decide_eq_true g) ⟨_, rfl, q2 (some x) H8 ⟨kd8, pot8⟩ fun y e => by cases e; exact ln1 hls x (List.mem_of_getElem? hx)⟩
          · exact iteN (decide_eq_false g) (q2 none H8 ⟨kd8, pot8⟩ fun y e => by cases e)
        have DG := DF.go D7.kd D7.pot
        have hys6' := D7.kd _ _ nD hys6
        have hlt7 := D7.kd _ _ nlt hlt6
        have n2 := pot6.ne hD2
        have hl4 : ys.length ≤ 4 := by rw [List.length_map] at hl; have := hls4.1; omega
        refine ⟨_, rfl, _, rfl, D2, _, rfl, .inl (.inl (.inl hys7)), _, _, rfl, rfl, p, _, rfl, DG.pot, by omega, by omega, fun H8 a8 kd8 pot8 a0 a1 => ?_⟩
        have DH := DG.go kd8 pot8
        have hys8 := kd8 _ _ n2 hys7
        have hlt8 := kd8 _ _ nlt hlt7
        have hold8 := kd8 _ _ nD hys6'
        refine ⟨_, rfl, _, rfl, _, rfl, D2, _, rfl, .inl (.inl hys8), fun s1 hs1 => ?_⟩
        have f1 := Ex.laid (o := .lst (cutV ys none (some a8))) hs1
        have DI := DH.ex f1
        have ns1 := DH.pot.ne hs1
        refine ⟨_, rfl, _, rfl, p, lt, ls0, rfl, DI.pot, f1 _ _ hlt8, nlt, ne0, len0, fun H9 y kd9 pot9 hy => ⟨by show 1 ≤ sizeLine; decide, fun x1 hx1 => ?_⟩⟩
        have DJ := DI.go kd9 pot9
        have f2 := Ex.laid (o := .lst [y]) hx1
        have DK := DJ.ex f2
        have nx1 := DJ.pot.ne hx1
        refine ⟨_, rfl, p, 2, rfl, DK.pot, by decide, by decide, fun H10 d10 kd10 pot10 b0 b1 => ?_⟩
        have DL := DK.go kd10 pot10
        refine ⟨x1, _, _, rfl, rfl, kd10 _ _ nx1 upd_same, by omega, by omega, Nat.le_trans (show 1 * d10.toNat ≤ 1 by omega) (by decide), fun x2 hx2 => ?_⟩
        have f3 := Ex.laid (o := .lst (List.replicate d10.toNat [y]).flatten) hx2
        have DM := DL.ex f3
        have hs1' : (upd H10 x2 (.lst (List.replicate d10.toNat [y]).flatten)) s1 = some (.lst (cutV ys none (some a8))) := f3 _ _ (kd10 _ _ ns1 (f2 _ _ (kd9 _ _ ns1 upd_same)))
        have hys11 : (upd H10 x2 (.lst (List.replicate d10.toNat [y]).flatten)) D2 = some (.lst ys) := f3 _ _ (kd10 _ _ n2 (f2 _ _ (kd9 _ _ n2 (f1 _ _ hys8))))
        have hold11 : (upd H10 x2 (.lst (List.replicate d10.toNat [y]).flatten)) D = some (.lst (ls.map V.str)) := f3 _ _ (kd10 _ _ nD (f2 _ _ (kd9 _ _ nD (f1 _ _ hold8))))
        have lr : ((List.replicate d10.toNat [y]).flatten).length ≤ 1 := by simp; omega
        have c1 := cutV_length ys none (some a8)
        have c2 := cutV_length ys (some a8) none
        refine ⟨s1, x2, _, _, rfl, rfl, hs1', upd_same, Nat.le_trans (show _ ≤ 5 by omega) (by decide), fun x3 hx3 => ?_⟩
        have f4 := Ex.laid (o := .lst (cutV ys none (some a8) ++ (List.replicate d10.toNat [y]).flatten)) hx3
        refine ⟨_, rfl, _, rfl, _, rfl, D2, _, rfl, .inl (.inl (f4 _ _ hys11)), fun s2 hs2 => ?_⟩
        have f5 := Ex.laid (o := .lst (cutV ys (some a8) none)) hs2
        refine ⟨x3, s2, _, _, rfl, rfl, f5 _ _ upd_same, upd_same, Nat.le_trans (show _ ≤ 9 by rw [List.length_append]; omega) (by decide), fun x4 hx4 => ?_⟩
        have f6 := Ex.laid (o := .lst (cutV ys none (some a8) ++ (List.replicate d10.toNat [y]).flatten ++ cutV ys (some a8) none)) hx4
        refine ⟨_, rfl, _, rfl, 4, rfl, x4, _, rfl, .inl (.inl upd_same), fun x5 hx5 => ?_⟩
        have f7 := Ex.laid (o := .lst (cutV (cutV ys none (some a8) ++ (List.replicate d10.toNat [y]).flatten ++ cutV ys (some a8) none) none (some 4))) hx5
        obtain ⟨ms', em, hm'⟩ := lns_of (ys := cutV (cutV ys none (some a8) ++ (List.replicate d10.toNat [y]).flatten ++ cutV ys (some a8) none) none (some 4)) fun z hz => by
          have := cutV_mem hz
          rcases List.mem_append.mp this with h | h
          · rcases List.mem_append.mp h with h | h
            · exact hR z (cutV_mem h)
            · obtain ⟨q, hq, hzq⟩ := List.mem_flatten.mp h
              rw [(List.mem_replicate.mp hq).2] at hzq
              rw [List.mem_singleton.mp hzq]
              exact hls0 y hy
          · exact hR z (cutV_mem h)
        refine ⟨x5, ms', _, rfl, (((DM.ex f4).ex f5).ex f6).ex f7, (((f4.trans f5).trans f6).trans f7) _ _ hold11, by rw [upd_same, em], ?_, hm'⟩
        have := cutV_four (cutV ys none (some a8) ++ (List.replicate d10.toNat [y]).flatten ++ cutV ys (some a8) none)
        rw [em, List.length_map] at this
        exact this
      · exact iteN (decide_eq_false fun z => h (V.int.inj z)) ⟨D', ms, _, rfl, DF, kd6 _ _ nD hys5, kd6 _ _ nD' hys', hms4⟩
    · rintro σ' H' ⟨n, ms, o5, rfl, DF, h1, h2, h3⟩
      refine ⟨_, rfl, _, rfl, by show 2 ≤ sizeLine; decide, fun t ht => ?_⟩
      have e := Ex.laid (o := .tup [V.ref D, V.ref n]) ht
      exact k _ t D n ls ms (DF.ex e) upd_same (e _ _ h1) hls4 (e _ _ h2) h3
end
end L2.K4
end
section
set_option Elab.async false
set_option linter.all false
set_option maxRecDepth 100000
set_option maxHeartbeats 4000000
/-! The law's defs: weights. -/
namespace L2.K4
open PySem PySem.Spec PyProof.Rows L2
def CostR (a : Int) : Prop := 1 ≤ a ∧ a ≤ 999999
/-- an own cost -/
def OwnOk (K : PySem.W.Frag) (H : Hp) (q : Key × V) : Prop := ∃ z u a b, q = (Sum.inr z, V.ref u) ∧ z ∈ LN ∧ SqT K H u [.int a, .int b] ∧ CostR a ∧ CostR b
theorem OwnOk.keep {K : PySem.W.Frag} {H H' : Hp} {q : Key × V} (h : OwnOk K H q) (t : TK K H H') : OwnOk K H' q := let ⟨z, u, a, b, e, h1, h2, h3⟩ := h; ⟨z, u, a, b, e, h1, t _ _ h2, h3⟩
theorem tk_pot {K : PySem.W.Frag} {p : Addr} {H H' : Hp} (k : KD p H H') (h : PotAt H p) : TK K H H' := fun a xs z => by
  obtain ⟨x, y, hp, _⟩ := h
  rcases z with (z | ⟨ob, z⟩) | z
  · exact .inl (.inl (k a _ (by rintro rfl; rw [hp] at z; cases z) z))
  · exact .inl (.inr ⟨ob, k a _ (by rintro rfl; rw [hp] at z; cases z) z⟩)
  · obtain ⟨o, its, n, h1, h2⟩ := z
    exact .inr ⟨o, its, n, h1, h2⟩
theorem mem_putKk {κ : Type} [DecidableEq κ] {kvs : List (κ × V)} {k : κ} {v : V} {q : κ × V} (h : q ∈ putK kvs k v) : q = (k, v) ∨ q ∈ kvs := by
  unfold putK at h
  split at h
  · obtain ⟨r, hr, e⟩ := List.mem_map.mp h
    split at e
    · rename_i g
      rw [g] at e
      exact .inl e.symm
    · rw [← e]; exact .inr hr
  · rcases List.mem_append.mp h with h | h
    · exact .inr h
    · exact .inl (List.mem_singleton.mp h)
theorem putK_lenk {κ : Type} [DecidableEq κ] (kvs : List (κ × V)) (k : κ) (v : V) : (putK kvs k v).length ≤ kvs.length + 1 := by
  unfold putK
  split
  · rw [List.length_map]; omega
  · rw [List.length_append]; simp
theorem putK_nd {κ : Type} [DecidableEq κ] {kvs : List (κ × V)} {k : κ} {v : V} (h : (kvs.map (·.1)).Nodup) : ((putK kvs k v).map (·.1)).Nodup := by
  unfold putK
  split
  · have e : (kvs.map fun kv => if kv.1 = k then (kv.1, v) else kv).map (·.1) = kvs.map (·.1) := by
      rw [List.map_map]
      apply List.map_congr_left
      intro q _
      simp only [Function.comp_def]
      split <;> rfl
    rw [e]; exact h
  · rename_i g
    rw [List.map_append]
    refine List.nodup_append.mpr ⟨h, by simp, fun a ha b hb => ?_⟩
    rw [show b = k by simpa using hb]
    rintro rfl
    obtain ⟨q, hq, e⟩ := List.mem_map.mp ha
    exact g (List.any_eq_true.mpr ⟨q, hq, decide_eq_true e⟩)
section
variable {P : Program} {w : World} {K : PySem.W.Frag} {mg : Str → Option Value} {base : Heap}
/-- a pair of costs -/
def Plain (K : PySem.W.Frag) (H : Hp) (x : V) : Prop := ∃ T a b, x = V.ref T ∧ SqT K H T [.int a, .int b] ∧ CostR a ∧ CostR b
theorem Plain.keep {K : PySem.W.Frag} {H H' : Hp} {x : V} (h : Plain K H x) (t : TK K H H') : Plain K H' x := let ⟨z, a, b, e, h1, h2⟩ := h; ⟨z, a, b, e, t _ _ h1, h2⟩
def OwnsOk (K : PySem.W.Frag) (H : Hp) (kvs : List (Key × V)) : Prop := (kvs.map (·.1)).Nodup ∧ ∀ q ∈ kvs, OwnOk K H q
theorem OwnsOk.keep {K : PySem.W.Frag} {H H' : Hp} {kvs : List (Key × V)} (h : OwnsOk K H kvs) (t : TK K H H') : OwnsOk K H' kvs := ⟨h.1, fun q hq => (h.2 q hq).keep t⟩
def spWeights (K : PySem.W.Frag) : Sp := fun vs H Q _ => ∃ (p l : Addr) (zs : List Str), vs = [.ref p, .ref l] ∧ PotAt H p ∧ H l = some (.lst (zs.map V.str)) ∧ l ≠ p ∧ (∀ z ∈ zs, z ∈ LN) ∧ zs.length ≤ 10 ∧
  ∀ H' t T d kvs g0 c0, Dw p H H' → H' t = some (.tup [.ref T, .ref d]) → SqT K H' T [.int g0, .int c0] → CostR g0 → CostR c0 → H' d = some (.dK kvs) → OwnsOk K H' kvs → kvs.length ≤ 10 → Q (.ref t) H'
theorem ok_law_weights (c : Cf K mg) : Kp P w K mg base 3 (He.ga K "_law_weights") (spWeights K) := by
  obtain ⟨fd, F⟩ := F__law_weights c
  have nd : (["_law_pot_here", "_law_lines", "_law_plain", "_law_some", "_law_line"] : List Str).Nodup := by decide +kernel
  refine kp_of F (N := ["_law_pot_here", "_law_lines", "_law_plain", "_law_some", "_law_line"]) (ps := ["_law_pot_here", "_law_lines"]) ⟨rfl, rfl, rfl, nd, rfl, by decide +kernel, by decide +kernel⟩ (F.bindsN fun _ _ _ _ _ _ us hl => match us, hl with | [_, _], _ => rfl) (fun vs H Q E h => ?_) (fun cdv A outer s H vs Q E hr h => ?_)
  · obtain ⟨p, l, zs, rfl, _⟩ := h; rfl
  · obtain ⟨p, l, zs, rfl, hp, hl, nl, hzs, h10, k⟩ := h
    refine ⟨_, pss_cons (ps_set (i := 2) nd rfl (.inl rfl) (pe_cal c (ok_law_pick c) hr (pa_cons (pv 0) (pa_cons (pe_lst (pa_cons (pe_tup (pa_cons pe_int (pa_cons pe_int pa_nil))) (pa_cons (pe_tup (pa_cons pe_int (pa_cons pe_int pa_nil))) (pa_cons (pe_tup (pa_cons pe_int (pa_cons pe_int pa_nil))) (pa_cons (pe_tup (pa_cons pe_int (pa_cons pe_int pa_nil))) (pa_cons (pe_tup (pa_cons pe_int (pa_cons pe_int pa_nil))) (pa_cons (pe_tup (pa_cons pe_int (pa_cons pe_int pa_nil))) pa_nil))))))) pa_nil))))
      (pss_cons (ps_set (i := 3) nd rfl (.inl rfl) pe_dnewK)
      (pss_cons (ps_for PassesOwn.never rfl (pi_list (pv 1)) (pg_name (i := 4) nd rfl (.inl rfl))
        (pss_one (ps_if (pt_cmpR op_eq (pe_cal c (ok_law_draw c) hr (pa_cons (pv 0) (pa_cons pe_int pa_nil))) pe_int (nomark _))
          (pss_one (ps_asg (pe_tup (pa_cons (pe_op op_add pe_int (pe_cal c (ok_law_draw c) hr (pa_cons (pv 0) (pa_cons pe_int pa_nil)))) (pa_cons (pe_op op_add pe_int (pe_cal c (ok_law_draw c) hr (pa_cons (pv 0) (pa_cons pe_int pa_nil)))) pa_nil))) (pg_sub (pv 3) (pv 4) (set_dict (hu_of hr))))) pss_nil)))
      (pss_one (ps_ret (pe_tup (pa_cons (pv 2) (pa_cons (pv 3) pa_nil))))))), ?_⟩
    refine ⟨_, rfl, by show 2 ≤ sizeLine; decide, fun l1 h1 => ⟨by show 2 ≤ sizeLine; decide, fun l2 h2 => ⟨by show 2 ≤ sizeLine; decide, fun l3 h3 => ⟨by show 2 ≤ sizeLine; decide, fun l4 h4 => ⟨by show 2 ≤ sizeLine; decide, fun l5 h5 => ⟨by show 2 ≤ sizeLine; decide, fun l6 h6 => ⟨by show 6 ≤ sizeLine; decide, fun lo ho => ?_⟩⟩⟩⟩⟩⟩⟩
    have e1 := Ex.laid (o := .tup [V.int 1, V.int 1]) h1
    have e2 := Ex.laid (o := .tup [V.int 1, V.int 1]) h2
    have e3 := Ex.laid (o := .tup [V.int 1, V.int 1]) h3
    have e4 := Ex.laid (o := .tup [V.int 2, V.int 1]) h4
    have e5 := Ex.laid (o := .tup [V.int 1, V.int 3]) h5
    have e6 := Ex.laid (o := .tup [V.int 999999, V.int 2]) h6
    have e7 := Ex.laid (o := .lst [V.ref l1, V.ref l2, V.ref l3, V.ref l4, V.ref l5, V.ref l6]) ho
    have d6 : Dw p H _ := (((((Dw.ex ⟨KD.refl, hp⟩ e1).ex e2).ex e3).ex e4).ex e5).ex e6
    have d7 := d6.ex e7
    have L1 : Plain K _ (.ref l1) := ⟨l1, _, _, rfl, .inl (.inl ((((((e2.trans e3).trans e4).trans e5).trans e6).trans e7) _ _ upd_same)), ⟨by decide, by decide⟩, ⟨by decide, by decide⟩⟩
    have L2 : Plain K _ (.ref l2) := ⟨l2, _, _, rfl, .inl (.inl (((((e3.trans e4).trans e5).trans e6).trans e7) _ _ upd_same)), ⟨by decide, by decide⟩, ⟨by decide, by decide⟩⟩
    have L3 : Plain K _ (.ref l3) := ⟨l3, _, _, rfl, .inl (.inl ((((e4.trans e5).trans e6).trans e7) _ _ upd_same)), ⟨by decide, by decide⟩, ⟨by decide, by decide⟩⟩
    have L4 : Plain K _ (.ref l4) := ⟨l4, _, _, rfl, .inl (.inl (((e5.trans e6).trans e7) _ _ upd_same)), ⟨by decide, by decide⟩, ⟨by decide, by decide⟩⟩
    have L5 : Plain K _ (.ref l5) := ⟨l5, _, _, rfl, .inl (.inl ((e6.trans e7) _ _ upd_same)), ⟨by decide, by decide⟩, ⟨by decide, by decide⟩⟩
    have L6 : Plain K _ (.ref l6) := ⟨l6, _, _, rfl, .inl (.inl (e7 _ _ upd_same)), ⟨by decide, by decide⟩, ⟨by decide, by decide⟩⟩
    refine ⟨p, lo, _, rfl, d7.pot, upd_same, d6.pot.ne ho, by simp, by show 6 < 1000; decide, fun H1 x kd1 pot1 hx => ?_⟩
    have D1 := d7.go kd1 pot1
    have tk1 : TK K _ H1 := tk_pot kd1 d7.pot
    have hx' : Plain K H1 x := by
      simp only [List.mem_cons, List.not_mem_nil, or_false] at hx
      rcases hx with rfl | rfl | rfl | rfl | rfl | rfl
      · exact L1.keep tk1
      · exact L2.keep tk1
      · exact L3.keep tk1
      · exact L4.keep tk1
      · exact L5.keep tk1
      · exact L6.keep tk1
    obtain ⟨T, g0, c0, rfl, hT, rg, rc⟩ := hx'
    clear L1 L2 L3 L4 L5 L6 hx tk1 kd1 d6 d7 e1 e2 e3 e4 e5 e6 e7
    intro d hd
    have e2 := Ex.laid (o := .dK []) hd
    have D2 := D1.ex e2
    have nd_ := D1.pot.ne hd
    have hdH : ∀ a o, a ≠ p → H a = some o → a ≠ d := fun a o hn h => ne_of_none (D1.kd a o hn h) hd
    refine ⟨_, rfl, l, rfl, ⟨_, .inl (.inl (D2.kd _ _ nl hl))⟩, ?_⟩
    refine forG (n := (zs.map V.str).length) (Y := fun i x _ => (zs.map V.str)[i]? = some x)
      (fun i σ' H' => (∃ o4, σ' = [some (.ref p), some (.ref l), some (.ref T), some (.ref d), o4]) ∧ Dw p H H' ∧ SqT K H' T [.int g0, .int c0] ∧ ∃ kvs, H' d = some (.dK kvs) ∧ OwnsOk K H' kvs ∧ kvs.length ≤ i)
      ⟨⟨none, rfl⟩, D2, ext' e2 hT, [], upd_same, ⟨List.nodup_nil, fun _ h => by cases h⟩, Nat.zero_le _⟩ (fun i σ' H' _ q => sw_list (.inl (.inl (q.2.1.kd _ _ nl hl)))) (fun i x σ' H' H'' hi q ex hxi => ?_) fun σ' H' q => ?_
    · obtain ⟨⟨o4, rfl⟩, D, hT, kvs, hkv, ok, lk⟩ := q
      have DE := D.ex ex
      rw [List.getElem?_map] at hxi
      obtain ⟨z, hz, rfl⟩ := Option.map_eq_some_iff.mp hxi
      have zln := hzs z (List.mem_of_getElem? hz)
      refine ⟨_, rfl, p, 6, rfl, DE.pot, by decide, by decide, fun H3 d3 kd3 pot3 _ _ => ⟨rfl, _, rfl, ?_⟩⟩
      have tk3 : TK K H' H3 := TK.trans (Ex.tk ex) (tk_pot kd3 DE.pot)
      have D3 := DE.go kd3 pot3
      have hkv3 := kd3 _ _ nd_ (ex _ _ hkv)
      by_cases h : d3 = 0
      · refine iteP (decide_eq_true (by rw [h])) ⟨_, rfl, p, 3, rfl, D3.pot, by decide, by decide, fun H4 a kd4 pot4 a0 a1 => ⟨_, _, rfl, rfl, _, rfl, p, 3, rfl, pot4, by decide, by decide, fun H5 b kd5 pot5 b0 b1 => ⟨_, _, rfl, rfl, by show 2 ≤ sizeLine; decide, fun u hu => ?_⟩⟩⟩
        have e6 := Ex.laid (o := .tup [V.int (1 + a), V.int (1 + b)]) hu
        have tk6 : TK K H' _ := TK.trans (TK.trans (TK.trans tk3 (tk_pot kd4 D3.pot)) (tk_pot kd5 pot4)) (Ex.tk e6)
        have D6 := ((D3.go kd4 pot4).go kd5 pot5).ex e6
        have hkv6 := e6 _ _ (kd5 _ _ nd_ (kd4 _ _ nd_ hkv3))
        refine ⟨_, rfl, _, rfl, d, _, rfl, .inl ⟨kvs, Sum.inr z, hkv6, rfl, Nat.lt_of_le_of_lt (show kvs.length ≤ 10 by rw [List.length_map] at hi; omega) (by decide), rfl⟩, ?_⟩
        have tk7 : TK K _ (upd _ d (.dK (putK kvs (Sum.inr z) (.ref u)))) := TK.dK hkv6
        refine ⟨⟨_, rfl⟩, ⟨fun a o hn ha => by rw [upd_ne (hdH a o hn ha)]; exact D6.kd a o hn ha, ?_⟩, (TK.trans tk6 tk7) _ _ hT, _, upd_same, ⟨putK_nd ok.1, fun q hq => ?_⟩, Nat.le_trans (putK_lenk _ _ _) (by omega)⟩
        · obtain ⟨x, y, h1, h2⟩ := D6.pot
          exact ⟨x, y, by rw [upd_ne nd_.symm]; exact h1, h2⟩
        · rcases mem_putKk hq with rfl | hq
          · exact ⟨z, u, 1 + a, 1 + b, rfl, zln, tk7 _ _ (.inl (.inl upd_same)), ⟨by omega, by omega⟩, ⟨by omega, by omega⟩⟩
          · exact (ok.2 q hq).keep (TK.trans tk6 tk7)
      · exact iteN (decide_eq_false fun z => h (V.int.inj z)) ⟨⟨_, rfl⟩, D3, tk3 _ _ hT, kvs, hkv3, ok.keep tk3, by omega⟩
    · obtain ⟨⟨o4, rfl⟩, D, hT, kvs, hkv, ok, lk⟩ := q
      refine ⟨_, rfl, _, rfl, by show 2 ≤ sizeLine; decide, fun t ht => ?_⟩
      have e := Ex.laid (o := .tup [V.ref T, V.ref d]) ht
      exact k _ t T d kvs g0 c0 (D.ex e) upd_same (ext' e hT) rg rc (e _ _ hkv) (ok.keep (Ex.tk e)) (by rw [List.length_map] at lk; omega)
end
end L2.K4
end
section
set_option Elab.async false
set_option linter.all false
set_option maxRecDepth 100000
set_option maxHeartbeats 4000000
/-! Own costs: their check, their copy. -/
namespace L2.K4
open PySem PySem.Spec PyProof.Rows L2
/-- what e gives, stays as it is from here on -/
def tFrz (t : TE) : TE := fun σ H Q => t σ H fun v H1 => ∃ d u, H1 d = some u ∧ Mut (some u) ∧ ∀ od, Q v (upd H1 d (.frz od u))
theorem pe_frz {X : Cx} {e : Expr} {t : TE} (h : PE X e t) : PE X e (tFrz t) := by
  refine ⟨fun pins s σ H Q I hw => ?_⟩
  refine thn (h.run pins s σ H _ I hw) fun v s1 ⟨x, H1, I1, r, d, u, hd, mu, q⟩ => ?_
  obtain ⟨od, I2⟩ := I1.lock hd mu
  exact ⟨x, _, I2, r, q od⟩
/-- one turn of a dict comprehension -/
def tturnK (D : Addr) (g : TG) (tt : TT) (tk tv : TE) (vs : List Nat) (σ : L2.St) (x : V) (H : Hp) (Nx : Hp → Prop) : Prop :=
  g x (wipe σ vs) H fun σ2 H2 => wipe σ2 vs = wipe σ vs ∧ tt σ2 H2 fun b H3 => if b = true then tk σ2 H3 fun y H4 => tv σ2 H4 fun z H5 => ∃ kvs k, y = kV k ∧ H5 D = some (.dK kvs) ∧ kvs.length < sizeLine ∧ Nx (upd H5 D (.dK (putK kvs k z))) else Nx H3
theorem made_sub {κ : Type} (ks : Nat → Option κ) {i n : Nat} (h : i ≤ n) : ∃ r, made ks n = made ks i ++ r := by
  induction n with
  | zero => exact ⟨[], by rw [Nat.le_zero.mp h]; simp⟩
  | succ n ih =>
    rcases Nat.lt_or_ge n i with q | q
    · have : i = n + 1 := by omega
      subst this
      exact ⟨[], by simp⟩
    · obtain ⟨r, hr⟩ := ih q
      exact ⟨r ++ (ks n).toList, by rw [made_succ, hr, List.append_assoc]⟩
theorem put_made {ks : Nat → Option (Key × V)} {n i : Nat} {q : Key × V} (hnd : ((made ks n).map (·.1)).Nodup) (h : i < n) (hq : ks i = some q) : putK (made ks i) q.1 q.2 = made ks (i + 1) := by
  obtain ⟨r, hr⟩ := made_sub ks (show i + 1 ≤ n from h)
  rw [made_succ, hq] at hr ⊢
  refine _root_.L2.putK_new q.2 ?_
  cases e : valV (made ks i) q.1 with
  | none => rfl
  | some v =>
    exfalso
    have m : q.1 ∈ (made ks i).map (·.1) := by
      unfold valV at e
      obtain ⟨p, hp, _⟩ := Option.map_eq_some_iff.mp e
      have := List.find?_some hp
      exact List.mem_map.mpr ⟨p, List.mem_of_find?_eq_some hp, by simpa using this⟩
    rw [hr, List.map_append, List.map_append] at hnd
    have := (List.nodup_append.mp (List.nodup_append.mp hnd).1).2.2 q.1 m q.1 (by simp)
    exact this rfl
theorem dcK {J : It} {n : Nat} {Y : Nat → V → Hp → Prop} {g : TG} {tt : TT} {tk tv : TE} {vs : List Nat} {σ : L2.St} {H : Hp} {D : Addr} {Qd : Hp → Prop} (hD : H D = none) (ks : Nat → Option (Key × V)) (hnd : ((made ks n).map (·.1)).Nodup) (hn : n < sizeLine)
    (hw : ∀ H', Ex H H' → SW J n Y H')
    (step : ∀ i x H1, i < n → Ex H H1 → Y i x H1 → H1 D = some (.dK (made ks i)) → (made ks i).length < sizeLine → ∀ Nx : Hp → Prop, (∀ H2, Ex H1 H2 → (ks i = none → Nx H2) ∧ ∀ q, ks i = some q → Nx (upd H2 D (.dK (putK (made ks i) q.1 q.2)))) → tturnK D g tt tk tv vs σ x H1 Nx)
    (fin : ∀ H2, Ex H H2 → H2 D = some (.dK (made ks n)) → Qd H2) :
    ∃ W : Nat → Nat → Hp → Prop, (∃ m, W 0 m (upd H D (.dK []))) ∧ ∀ i m H, W i m H →
      (J.stop i H ∧ Qd H) ∨ (J.go i H ∧ ∃ Nx : Hp → Prop, (∀ H', Nx H' → ∃ m', m' < m ∧ W (i + 1) m' H') ∧ ∀ x H', J.yld i H x H' → g x (wipe σ vs) H' fun σ2 H2 => wipe σ2 vs = wipe σ vs ∧ tt σ2 H2 fun b H3 =>
        if b = true then tk σ2 H3 fun y H4 => tv σ2 H4 fun z H5 => ∃ kvs k, y = kV k ∧ H5 D = some (.dK kvs) ∧ kvs.length < sizeLine ∧ Nx (upd H5 D (.dK (putK kvs k z))) else Nx H3) := by
  let W : Nat → Nat → Hp → Prop := fun i m H' => m = n - i ∧ i ≤ n ∧ Ex H H' ∧ H' D = some (.dK (made ks i))
  refine ⟨W, ⟨n, by simp, Nat.zero_le _, Ex.laid hD, upd_same⟩, ?_⟩
  rintro i m H' ⟨rfl, hi, e, hy⟩
  have s := hw H' e i
  rcases Nat.lt_or_ge i n with h | h
  · refine .inr ⟨(s.1 h).1, fun H'' => W (i + 1) (n - (i + 1)) H'', fun H'' q => ⟨_, by omega, q⟩, fun x H1 hy1 => ?_⟩
    obtain ⟨e1, y1⟩ := (s.1 h).2 x H1 hy1
    have hy' : H1 D = some (.dK (made ks i)) := e1 _ _ hy
    refine step i x H1 h (e.trans e1) y1 hy' (Nat.lt_of_le_of_lt (made_len _ _) (Nat.lt_of_le_of_lt hi hn)) _ fun H2 e2 => ⟨fun hk => ⟨rfl, h, (e.trans e1).trans e2, ?_⟩, fun q hk => ⟨rfl, h, Ex.mut ((e.trans e1).trans e2) hD, ?_⟩⟩
    · rw [e2 _ _ hy', made_succ, hk]; simp
    · rw [upd_same, put_made hnd h hk]
  · have hi' : i = n := Nat.le_antisymm hi h
    subst hi'
    exact .inl ⟨s.2 (Nat.le_refl _), fin H' e hy⟩
theorem kp_ofD {P : Program} {w : World} {K : PySem.W.Frag} {mg : Str → Option Value} {base : Heap} {k : Nat} {f : Addr} {x qual : Str} {params : Arguments} {body : List Stmt} {scope : Scope} {dvs : List V} {fd : FuncData} {N ps : List Str} {sp : Sp} (F : FunD K x qual params body scope dvs [] f fd) (S : FnScope N ps scope) (b : Binds K fd ps [])
    (len : ∀ vs H Q E, sp vs H Q E → vs.length = ps.length)
    (hbody : ∀ (cdv : Value) (A : Around) (outer : List Env) (s : Shared) (H : Hp) (vs : List V) (Q : VK) (E : XK), Room k (A.deeper (envOfC qual scope s.heap.objs.size f cdv)) → sp vs H Q E →
      ∃ t, PSs (cxOf CX0 P w K mg base N qual scope f cdv A outer s H E).nox body t ∧ t { nx := fun _ H' => Q .non H', rt := Q } (start N vs) H) : Kp P w K mg base (k + 1) f sp :=
  ((F.ok S len fun cdv A outer s H vs Q E hr h => let ⟨t, ht, hq⟩ := hbody cdv A outer s H vs Q E hr h; ⟨t, ht.nox, hq⟩).raw b .nil).imp fun vs H Q E h => by rw [List.append_nil]; exact h
theorem valV_memK {κ : Type} [DecidableEq κ] {kvs : List (κ × V)} {k : κ} {v : V} (h : valV kvs k = some v) : (k, v) ∈ kvs := by
  unfold valV at h
  obtain ⟨p, hp, rfl⟩ := Option.map_eq_some_iff.mp h
  have := List.find?_some hp
  have e : p.1 = k := by simpa using this
  rw [← e]; exact List.mem_of_find?_eq_some hp
theorem mem_valVK {κ : Type} [DecidableEq κ] : ∀ {kvs : List (κ × V)} {k : κ} {v : V}, (kvs.map (·.1)).Nodup → (k, v) ∈ kvs → valV kvs k = some v
  | [], _, _, _, h => by cases h
  | p :: r, k, v, hn, h => by
    rw [List.map_cons, List.nodup_cons] at hn
    rcases List.mem_cons.mp h with e | h
    · rw [← e]; exact valV_pos rfl
    · rw [valV_neg (fun e => hn.1 (by rw [e]; exact List.mem_map.mpr ⟨_, h, rfl⟩))]
      exact mem_valVK hn.2 h
theorem valV_noneK {κ : Type} [DecidableEq κ] {kvs : List (κ × V)} {k : κ} (h : ∀ v, (k, v) ∉ kvs) : valV kvs k = none := by
  cases e : valV kvs k with
  | none => rfl
  | some v => exact absurd (valV_memK e) (h v)
/-- the texts of the keys -/
theorem owns_keys {K : PySem.W.Frag} {H : Hp} : ∀ {kvs : List (Key × V)}, (∀ q ∈ kvs, OwnOk K H q) → ∃ ks : List Str, kvs.map (·.1) = ks.map Sum.inr ∧ ∀ z ∈ ks, z ∈ LN
  | [], _ => ⟨[], rfl, fun _ h => by cases h⟩
  | q :: kvs, h => by
    obtain ⟨z, u, a, b, rfl, hz, _⟩ := h q List.mem_cons_self
    obtain ⟨ks, e, hk⟩ := owns_keys fun q hq => h q (List.mem_cons_of_mem _ hq)
    exact ⟨z :: ks, by rw [List.map_cons, e]; rfl, fun x hx => by
      rcases List.mem_cons.mp hx with rfl | hx
      · exact hz
      · exact hk x hx⟩
def ownOf (kvs : List (Key × V)) (z : Str) : Option (Key × V) := (valV kvs (Sum.inr z)).map fun v => (Sum.inr z, v)
theorem ownOf_keys (kvs : List (Key × V)) : ∀ ys : List Str, (∀ z ∈ ys, ∃ v, valV kvs (Sum.inr z) = some v) → (ys.filterMap (ownOf kvs)).map (·.1) = ys.map Sum.inr
  | [], _ => rfl
  | z :: ys, h => by
    obtain ⟨v, hv⟩ := h z List.mem_cons_self
    have e : ownOf kvs z = some (Sum.inr z, v) := by unfold ownOf; rw [hv]; rfl
    rw [List.filterMap_cons, e, List.map_cons, List.map_cons, ownOf_keys kvs ys fun z hz => h z (List.mem_cons_of_mem _ hz)]
theorem ownOf_mem {kvs : List (Key × V)} {ys : List Str} {q : Key × V} (h : q ∈ ys.filterMap (ownOf kvs)) : ∃ z, z ∈ ys ∧ q.1 = Sum.inr z ∧ valV kvs (Sum.inr z) = some q.2 := by
  obtain ⟨z, hz, e⟩ := List.mem_filterMap.mp h
  obtain ⟨v, hv, rfl⟩ := Option.map_eq_some_iff.mp e
  exact ⟨z, hz, rfl, hv⟩
section
variable {P : Program} {w : World} {K : PySem.W.Frag} {mg : Str → Option Value} {base : Heap}
def spOwnCosts (K : PySem.W.Frag) : Sp := fun vs H Q _ => ∃ d kvs, vs = [.ref d] ∧ H d = some (.dK kvs) ∧ OwnsOk K H kvs ∧ kvs.length ≤ 10 ∧
  ∀ H' d' kvs', Ex H H' → H d' = none → H' d' = some (.dK kvs') → OwnsOk K H' kvs' → (∀ z, valV kvs' (Sum.inr z) = valV kvs (Sum.inr z)) → kvs'.length ≤ 10 → Q (.ref d') H'
theorem ok_own_costs (c : Cf K mg) : Kp P w K mg base 3 (He.ga K "own_costs") (spOwnCosts K) := by
  obtain ⟨fd, F⟩ := F_own_costs c
  have nd : (["some", "line", "own"] : List Str).Nodup := by decide +kernel
  refine kp_of F (N := ["some", "line", "own"]) (ps := ["some"]) ⟨rfl, rfl, rfl, nd, rfl, by decide +kernel, by decide +kernel⟩ (F.bindsN fun _ _ _ _ _ _ us hl => match us, hl with | [_], _ => rfl) (fun vs H Q E h => ?_) (fun cdv A outer s H vs Q E hr h => ?_)
  · obtain ⟨d, kvs, rfl, _⟩ := h; rfl
  · obtain ⟨d, kvs, rfl, hd, ok, h10, k⟩ := h
    refine ⟨_, pss_cons (ps_if (pt_cmpR op_isN (pv 0) pe_non (nomark _)) (pss_one (ps_ret pe_dnewK)) pss_nil)
      (pss_cons (ps_if (pt_not (pt_val (pe_callB call_isi (by rfl) (c.free "isinstance" (by decide +kernel)) (by decide +kernel) (pa_cons (pv 0) (pa_cons (pe_bltn (v := .ty "dict") (by rfl) (c.free "dict" (by decide +kernel)) (by decide +kernel) rfl) pa_nil))))) (pss_one ps_never) pss_nil)
      (pss_cons (ps_lock (ps_for PassesOwn.never rfl (pi_items (pv 0)) (pg_tup rfl (pgs_cons (pg_name (i := 1) nd rfl (.inl rfl)) (pgs_cons (pg_name (i := 2) nd rfl (.inl rfl)) pgs_nil)))
        (pss_cons (ps_if (pt_not (pt_val (pe_cal c (ok_is_line c) hr (pa_cons (pv 1) pa_nil)))) (pss_one ps_never) pss_nil)
        (pss_one (ps_if (pt_not (pt_val (pe_cal c (ok_are_own c) hr (pa_cons (pv 2) pa_nil)))) (pss_one ps_never) pss_nil)))))
      (pss_one (ps_ret (pe_dc (own := [("line", 1)]) (g := gName 1) (tt := tYes) (tk := tVar 1) (tv := tDGet (tVar 0) (tVar 1)) rfl nd (pi_list (pe_callB (call_sortedD rfl) (by rfl) (c.free "sorted" (by decide +kernel)) (by decide +kernel) (pa_cons (pv 0) pa_nil))) (blkOk_by (N := ["some", "line", "own"]) (sc := defScope s_own_costs) (by decide +kernel)) (fun _ _ _ _ _ => pg_name (i := 1) nd rfl (Or.inl rfl)) (fun _ _ _ _ _ => pts_nil)
        (fun _ _ _ _ _ => pv 1) (fun _ _ _ _ _ => pe_dget (hu_of hr) (pv 0) (pv 1) (fun _ _ => rfl))))))), ?_⟩
    refine ⟨_, rfl, rfl, _, rfl, iteN (decide_eq_false (by intro z; cases z)) ?_⟩
    refine ⟨_, rfl, _, _, _, _, _, rfl, .ty _, .base (.dK hd), kit_ty (r := true) (by decide +kernel), true, rfl, iteF ?_⟩
    refine ⟨d, _, hd, trivial, fun od => ?_⟩
    have tk0 : TK K H (upd H d (.frz od (.dK kvs))) := TK.dK hd
    have hf : (upd H d (.frz od (.dK kvs))) d = some (.frz od (.dK kvs)) := upd_same
    have hne : ∀ a o, a ≠ d → H a = some o → (upd H d (.frz od (.dK kvs))) a = some o := fun a o hn h => by rw [upd_ne hn]; exact h
    generalize upd H d (.frz od (.dK kvs)) = Hf at tk0 hf hne
    refine ⟨_, rfl, d, od, kvs, rfl, hf, ?_⟩
    refine forG (n := kvs.length) (Y := fun i v H' => ∃ T k x, v = .ref T ∧ H' T = some (.tup [kV k, x]) ∧ kvs[i]? = some (k, x))
      (fun i σ' H' => (∃ o1 o2, σ' = [some (.ref d), o1, o2]) ∧ Ex Hf H') ⟨⟨none, none, rfl⟩, Ex.refl⟩ (fun i σ' H' _ q => sw_items (q.2 _ _ hf)) (fun i v σ' H' H'' hi q ex hv => ?_) fun σ' H' q => ?_
    · obtain ⟨⟨o1, o2, rfl⟩, e⟩ := q
      obtain ⟨T, kk, x, rfl, hT, hkv⟩ := hv
      obtain ⟨z, u, a, b, e1, hz, hu, ra, rb⟩ := ok.2 _ (List.mem_of_getElem? hkv)
      cases e1
      refine ⟨T, _, rfl, .inl (.inl hT), rfl, _, _, rfl, _, _, rfl, rfl, ?_⟩
      exact ⟨_, rfl, z, rfl, hz, true, rfl, iteF ⟨_, rfl, u, a, b, rfl, ext' (e.trans ex) (tk0 _ _ hu), ra, rb, fun H3 e3 => ⟨true, rfl, iteF ⟨⟨_, _, rfl⟩, (e.trans ex).trans e3⟩⟩⟩⟩
    · obtain ⟨⟨o1, o2, rfl⟩, e⟩ := q
      refine ⟨e _ _ hf, ?_⟩
      have eH : Ex H (upd H' d (.dK kvs)) := fun a o h => by
        by_cases q : a = d
        · subst q; rw [hd] at h; cases h; exact upd_same
        · rw [upd_ne q]; exact e _ _ (hne a o q h)
      have hd3 : (upd H' d (.dK kvs)) d = some (.dK kvs) := upd_same
      generalize upd H' d (.dK kvs) = H3 at eH hd3
      obtain ⟨ks, hks, hln⟩ := owns_keys ok.2
      have lks : ks.length = kvs.length := by have := congrArg List.length hks; rw [List.length_map, List.length_map] at this; exact this.symm
      refine ⟨_, rfl, d, kvs, ks, rfl, .inl hd3, hks, by omega, fun ys p hperm _ hp => ⟨p, rfl, ⟨_, .inl (.inl upd_same)⟩, fun D hD => ?_⟩⟩
      have e4 := Ex.laid (o := .lst (ys.map V.str)) hp
      have hp4 : (upd H3 p (.lst (ys.map V.str))) p = some (.lst (ys.map V.str)) := upd_same
      generalize upd H3 p (.lst (ys.map V.str)) = H4 at e4 hp4 hD
      have hall : ∀ z ∈ ys, ∃ v, valV kvs (Sum.inr z) = some v := fun z hz => by
        have hm : (Sum.inr z : Key) ∈ kvs.map (·.1) := by rw [hks]; exact List.mem_map.mpr ⟨z, hperm.mem_iff.mp hz, rfl⟩
        obtain ⟨q, hq, eq⟩ := List.mem_map.mp hm
        exact ⟨q.2, mem_valVK ok.1 (by rw [← eq]; exact hq)⟩
      have lys : (ys.map V.str).length = ys.length := List.length_map ..
      have ly : ys.length = kvs.length := by rw [hperm.length_eq, lks]
      have hnd : ((ys.filterMap (ownOf kvs)).map (·.1)).Nodup := by
        rw [ownOf_keys kvs ys hall, (hperm.map Sum.inr).nodup_iff, ← hks]; exact ok.1
      refine dcK (n := (ys.map V.str).length) (Y := fun i x _ => (ys.map V.str)[i]? = some x) hD (fun i => (ys[i]?).bind (ownOf kvs)) (by rw [lys, made_bind]; exact hnd) (Nat.lt_of_le_of_lt (show _ ≤ 10 by omega) (by decide)) (fun H' e => sw_list (.inl (.inl (e _ _ hp4)))) (fun i x H5 hi e5 hx hDl hlen Nx q => ?_) fun H5 e5 h5 => ?_
      · rw [List.getElem?_map] at hx
        obtain ⟨z, hz, rfl⟩ := Option.map_eq_some_iff.mp hx
        obtain ⟨v, hv⟩ := hall z (List.mem_of_getElem? hz)
        have hd5 := (e4.trans e5) _ _ hd3
        refine ⟨rfl, _, rfl, _, rfl, _, rfl, d, v, rfl, ?_, _, Sum.inr z, rfl, hDl, hlen, (q H5 Ex.refl).2 (Sum.inr z, v) ?_⟩
        · have := DGet.k (k := Sum.inr z) hd5
          rw [hv] at this
          exact this
        · rw [hz]
          show ownOf kvs z = _
          unfold ownOf
          rw [hv]; rfl
      · rw [lys, made_bind] at h5
        have e := (eH.trans e4).trans e5
        refine k H5 D _ e ((eH.trans e4).free hD) h5 ⟨hnd, fun q hq => ?_⟩ (fun z => ?_) ?_
        · obtain ⟨z, _, e1, e2⟩ := ownOf_mem hq
          have hm := valV_memK e2
          rw [← e1] at hm
          exact (ok.2 _ hm).keep (Ex.tk e)
        · cases ez : valV kvs (Sum.inr z) with
          | none =>
            refine valV_noneK fun v hv => ?_
            obtain ⟨z', _, e1, e2⟩ := ownOf_mem hv
            rw [show z' = z by injection e1 with e1; exact e1.symm, ez] at e2
            cases e2
          | some v =>
            refine mem_valVK hnd (List.mem_filterMap.mpr ⟨z, ?_, by unfold ownOf; rw [ez]; rfl⟩)
            have hm : (Sum.inr z : Key) ∈ kvs.map (·.1) := List.mem_map.mpr ⟨_, valV_memK ez, rfl⟩
            rw [hks] at hm
            obtain ⟨z', hz', e1⟩ := List.mem_map.mp hm
            rw [show z' = z by injection e1] at hz'
            exact hperm.mem_iff.mpr hz'
        · have := congrArg List.length (ownOf_keys kvs ys hall)
          rw [List.length_map, List.length_map] at this
          omega
end
end L2.K4
end
section
set_option Elab.async false
set_option linter.all false
set_option maxRecDepth 100000
set_option maxHeartbeats 4000000
/-! Costs, made. -/
namespace L2.K4
open PySem PySem.Spec PyProof.Rows L2
theorem filt_valV {κ : Type} [DecidableEq κ] {kvs : List (κ × V)} (hn : (kvs.map (·.1)).Nodup) (f : κ × V → Bool) (k : κ) : valV (kvs.filter f) k = (valV kvs k).bind fun v => if f (k, v) = true then some v else none := by
  have hn' : ((kvs.filter f).map (·.1)).Nodup := hn.sublist (List.filter_sublist.map _)
  cases e : valV kvs k with
  | none =>
    refine valV_noneK fun v hv => ?_
    rw [mem_valVK hn (List.mem_filter.mp hv).1] at e; cases e
  | some v =>
    show _ = if f (k, v) = true then some v else none
    by_cases h : f (k, v) = true
    · rw [if_pos h]; exact mem_valVK hn' (List.mem_filter.mpr ⟨valV_memK e, h⟩)
    · rw [if_neg h]
      refine valV_noneK fun v' hv => ?_
      have := mem_valVK hn (List.mem_filter.mp hv).1
      rw [e] at this
      cases this
      exact h (List.mem_filter.mp hv).2
theorem filterMap_if {α : Type} (f : α → Bool) : ∀ xs : List α, (xs.filterMap fun q => if f q = true then some q else none) = xs.filter f
  | [] => rfl
  | x :: xs => by
    rw [List.filterMap_cons, List.filter_cons, filterMap_if f xs]
    by_cases h : f x = true
    · rw [if_pos h, if_pos h]
    · rw [if_neg h, if_neg h]
def prK (a b : Int) : NK := .tup [.num a, .num b]
theorem prK_inj {a b x y : Int} (h : prK a b = prK x y) : a = x ∧ b = y := by
  unfold prK at h
  injection h with h
  injection h with h1 h2
  injection h1 with h1
  injection h2 with h2 _
  injection h2 with h2
  exact ⟨h1, h2⟩
theorem prK_d (a b : Int) : (prK a b).depth ≤ 8 := by unfold prK; simp [NestedKey.depth, NestedKey.depthAll]
theorem pr_at {K : PySem.W.Frag} {H : Hp} {u : Addr} {a b : Int} (h : SqT K H u [.int a, .int b]) : At K H (prK a b) (.ref u) := At.tup h (AtL.two At.num At.num)
def keepQ (gc cc : Str → Int) (a b : Int) (q : Key × V) : Bool := match q.1 with
  | .inr z => !(decide (prK (gc z) (cc z) = prK a b))
  | .inl _ => true
section
variable {P : Program} {w : World} {K : PySem.W.Frag} {mg : Str → Option Value} {base : Heap}
abbrev NC : List Str := ["self", "going", "coming", "some", "line", "own"]
/-- what the entries say, line by line -/
def Says (K : PySem.W.Frag) (H : Hp) (kvs : List (Key × V)) (a b : Int) (gc cc : Str → Int) : Prop := ∀ z ∈ LN, (valV kvs (Sum.inr z) = none ∧ gc z = a ∧ cc z = b) ∨ ∃ u, valV kvs (Sum.inr z) = some (.ref u) ∧ SqT K H u [.int (gc z), .int (cc z)]
theorem Says.keep {K : PySem.W.Frag} {H H' : Hp} {kvs : List (Key × V)} {a b : Int} {gc cc : Str → Int} (h : Says K H kvs a b gc cc) (t : TK K H H') : Says K H' kvs a b gc cc := fun z hz => (h z hz).imp id fun ⟨u, q1, q2⟩ => ⟨u, q1, t _ _ q2⟩
def spCostsInit (K : PySem.W.Frag) : Sp := fun vs H Q _ => ∃ p dx a b d kvs gc cc, vs = [.ref p, .int a, .int b, .ref d] ∧ H p = some (.ins (He.ga K "Costs") dx []) ∧ CostR a ∧ CostR b ∧ H d = some (.dK kvs) ∧ OwnsOk K H kvs ∧ kvs.length ≤ 10 ∧ Says K H kvs a b gc cc ∧
  ∀ H', KD p H H' → CostAt K H' p gc cc → Q .non H'
theorem ok_costs_init (c : Cf K mg) : Kp P w K mg base 4 (He.ma K (He.ga K "Costs") "__init__") (spCostsInit K) := by
  obtain ⟨fd, F⟩ := F_Costs___init__ c
  have nd : NC.Nodup := by decide +kernel
  have bd : Binds K fd ["self", "going", "coming", "some"] [] := by
    obtain ⟨ds, h1, h2⟩ := F.binds1 (ps := ["self", "going", "coming", "some"]) 4 3 (by simp) rfl (fun T kV doc pm an cdv ct us its h1 h2 => match us, h1, its, h2 with | [_, _, _, _], _, [_, _, _], _ => ⟨_, rfl, rfl⟩)
    cases h1
    exact h2
  refine kp_ofD F (N := NC) (ps := ["self", "going", "coming", "some"]) ⟨rfl, rfl, rfl, nd, rfl, by decide +kernel, by decide +kernel⟩ bd (fun vs H Q E h => ?_) (fun cdv A outer s H vs Q E hr h => ?_)
  · obtain ⟨p, dx, a, b, d, kvs, gc, cc, rfl, _⟩ := h; rfl
  · obtain ⟨p, dx, a, b, d, kvs, gc, cc, rfl, hp, ra, rb, hd, ok, h10, hs, k⟩ := h
    have cl := (c.cls "Costs" (by decide +kernel)).1
    have na1 := c.noat ("Costs", "plain_costs") (by decide +kernel)
    have na2 := c.noat ("Costs", "own_costs") (by decide +kernel)
    refine ⟨_, pss_cons (ps_if (pt_not (pt_val (pe_cal c (ok_is_cost c) hr (pa_cons (pv 1) pa_nil)))) (pss_one ps_never) pss_nil)
      (pss_cons (ps_if (pt_not (pt_val (pe_cal c (ok_is_cost c) hr (pa_cons (pv 2) pa_nil)))) (pss_one ps_never) pss_nil)
      (pss_cons (ps_fld (pv 0) (pe_tup (pa_cons (pv 1) (pa_cons (pv 2) pa_nil))) rfl)
      (pss_one (ps_fld (pv 0) (pe_dc (own := [("line", 4), ("own", 5)]) (g := g2 K 4 5) (tt := tTest (tOp (rEqA K true) (tVar 5) (tFld K (tVar 0) "plain_costs"))) (tk := tVar 4) (tv := tVar 5) rfl nd (pi_items (pe_frz (pe_cal c (ok_own_costs c) hr (pa_cons (pv 3) pa_nil)))) (blkOk_by (N := NC) (sc := defScope s_Costs___init__) (by decide +kernel))
        (fun _ _ _ _ _ => pg_tup rfl (pgs_cons (pg_name (i := 4) nd rfl (.inl rfl)) (pgs_cons (pg_name (i := 5) nd rfl (.inl rfl)) pgs_nil))) (fun _ _ _ _ _ => pts_one (pt_cmpR (op_neA hr.units) (pv 5) (pe_fld (pv 0) rfl) (by rfl))) (fun _ _ _ _ _ => pv 4) (fun _ _ _ _ _ => pv 5)) rfl)))), ?_⟩
    refine ⟨_, rfl, a, rfl, ra.1, ra.2, true, rfl, iteF ⟨_, rfl, b, rfl, rb.1, rb.2, true, rfl, iteF ?_⟩⟩
    refine ⟨_, rfl, _, rfl, by show 2 ≤ sizeLine; decide, fun T hT => ?_⟩
    have nTp : T ≠ p := (ne_of_none hp hT).symm
    have e0 := Ex.laid (o := .tup [V.int a, V.int b]) hT
    refine ⟨_, rfl, p, _, dx, _, rfl, e0 _ _ hp, cl, na1, by decide, ?_⟩
    generalize hH1 : upd (upd H T (.tup [V.int a, V.int b])) p _ = H1
    have kd1 : KD p H H1 := by rw [← hH1]; exact fun x o hn h => by rw [upd_ne hn]; exact e0 x o h
    have hp1 : H1 p = some (.ins (He.ga K "Costs") dx [("plain_costs", .ref T)]) := by rw [← hH1, upd_same]; rfl
    have hT1 : H1 T = some (.tup [V.int a, V.int b]) := by rw [← hH1, upd_ne nTp]; exact upd_same
    have tk1 : TK K H H1 := TK.kd kd1 hp
    have hd1 := kd1 d _ (by rintro rfl; rw [hp] at hd; cases hd) hd
    clear hH1 e0 hT
    refine ⟨_, rfl, d, kvs, rfl, hd1, ok.keep tk1, h10, fun H2 d2 kvs2 e2 hd20 hd2 ok2 hval l2 => ⟨d2, _, hd2, trivial, fun od => ?_⟩⟩
    have hf : (upd H2 d2 (.frz od (.dK kvs2))) d2 = some (.frz od (.dK kvs2)) := upd_same
    have ef : Ex H1 (upd H2 d2 (.frz od (.dK kvs2))) := fun x o h => by rw [upd_ne (ne_of_none h hd20)]; exact e2 x o h
    have tkf : TK K H2 (upd H2 d2 (.frz od (.dK kvs2))) := TK.dK hd2
    generalize upd H2 d2 (.frz od (.dK kvs2)) = Hf at hf ef tkf
    have okf := ok2.keep tkf
    have sf : Says K Hf kvs a b gc cc := (hs.keep tk1).keep (Ex.tk ef)
    refine ⟨d2, od, kvs2, rfl, hf, fun D hD => ?_⟩
    have em : made (fun i => (kvs2[i]?).bind fun q => if keepQ gc cc a b q = true then some q else none) kvs2.length = kvs2.filter (keepQ gc cc a b) := by rw [made_bind, filterMap_if]
    have hnd : ((kvs2.filter (keepQ gc cc a b)).map (·.1)).Nodup := ok2.1.sublist (List.filter_sublist.map _)
    refine dcK (n := kvs2.length) (Y := fun i v H' => ∃ T k x, v = .ref T ∧ H' T = some (.tup [kV k, x]) ∧ kvs2[i]? = some (k, x)) hD (fun i => (kvs2[i]?).bind fun q => if keepQ gc cc a b q = true then some q else none) (by rw [em]; exact hnd) (Nat.lt_of_le_of_lt l2 (by decide)) (fun H' e => sw_items (e _ _ hf)) (fun i v H3 hi e3 hv hDl hlen Nx q => ?_) fun H3 e3 h3 => ?_
    · obtain ⟨T2, kk, x, rfl, hT2, hkv⟩ := hv
      obtain ⟨z, u, a', b', e1, hz, _⟩ := okf.2 _ (List.mem_of_getElem? hkv)
      cases e1
      have hvz : valV kvs (Sum.inr z) = some (V.ref u) := by rw [← hval]; exact mem_valVK ok2.1 (List.mem_of_getElem? hkv)
      have hu : SqT K H3 u [.int (gc z), .int (cc z)] := by
        rcases sf z hz with ⟨q1, _⟩ | ⟨u', q1, q2⟩
        · rw [q1] at hvz; cases hvz
        · rw [q1] at hvz; cases hvz; exact ext' e3 q2
      have ef3 := ef.trans e3
      refine ⟨T2, _, rfl, .inl (.inl hT2), rfl, _, _, rfl, _, _, rfl, rfl, rfl, ?_⟩
      refine ⟨_, rfl, _, rfl, p, _, dx, _, _, rfl, ef3 _ _ hp1, cl, na1, rfl, prK (gc z) (cc z), prK a b, pr_at hu, pr_at (.inl (.inl (ef3 _ _ hT1))), rfl, rfl, prK_d _ _, prK_d _ _, _, rfl, ?_⟩
      have hk : (fun i => (kvs2[i]?).bind fun q => if keepQ gc cc a b q = true then some q else none) i = if (!(decide (prK (gc z) (cc z) = prK a b))) = true then some (Sum.inr z, V.ref u) else none := by
        show ((kvs2[i]?).bind _) = _
        rw [hkv]; rfl
      by_cases g : (!(decide (prK (gc z) (cc z) = prK a b))) = true
      · refine iteP g ⟨_, rfl, _, rfl, _, Sum.inr z, rfl, hDl, hlen, (q H3 Ex.refl).2 (Sum.inr z, .ref u) ?_⟩
        exact hk.trans (if_pos g)
      · refine iteN (Bool.eq_false_iff.mpr g) ((q H3 Ex.refl).1 ?_)
        exact hk.trans (if_neg g)
    · rw [em] at h3
      have hp3 := (ef.trans e3) _ _ hp1
      refine ⟨_, rfl, p, _, dx, _, rfl, hp3, cl, na2, by show 1 < 1000; decide, ?_⟩
      have nDp : D ≠ p := (ne_of_none (ef _ _ hp1) hD).symm
      generalize hH4 : upd H3 p _ = H4
      have kd4 : KD p H3 H4 := by rw [← hH4]; exact fun x o hn h => by rw [upd_ne hn]; exact h
      have tk4 : TK K H3 H4 := TK.kd kd4 hp3
      refine k H4 ((kd1.trans (KD.ex (ef.trans e3))).trans kd4) ⟨dx, T, D, _, a, b, by rw [← hH4, upd_same]; rfl, tk4 _ _ (.inl (.inl ((ef.trans e3) _ _ hT1))), kd4 _ _ nDp h3, fun z hz => ?_⟩
      rw [filt_valV ok2.1, hval]
      rcases sf z hz with ⟨q1, q2, q3⟩ | ⟨u, q1, q2⟩
      · exact .inl ⟨by rw [q1]; rfl, q2, q3⟩
      · rw [q1]
        show ((if keepQ gc cc a b (Sum.inr z, V.ref u) = true then some (V.ref u) else none) = none ∧ _) ∨ ∃ u', (if keepQ gc cc a b (Sum.inr z, V.ref u) = true then some (V.ref u) else none) = _ ∧ _
        by_cases g : (!(decide (prK (gc z) (cc z) = prK a b))) = true
        · rw [show keepQ gc cc a b (Sum.inr z, V.ref u) = true from g]
          exact .inr ⟨u, rfl, (Ex.tk e3).trans tk4 _ _ q2⟩
        · rw [show keepQ gc cc a b (Sum.inr z, V.ref u) = false from Bool.eq_false_iff.mpr g]
          have e : prK (gc z) (cc z) = prK a b := by simpa using g
          obtain ⟨g1, g2⟩ := prK_inj e
          exact .inl ⟨rfl, g1, g2⟩
end
end L2.K4
end
section
set_option Elab.async false
set_option linter.all false
set_option maxRecDepth 100000
set_option maxHeartbeats 4000000
/-! Faces as what is iterated over. -/
namespace L2.K4
open PySem PySem.Spec PyProof.Rows L2 ItX
/-- iter(l): what is tracked stands below the iterator -/
def rIterQ (K : PySem.W.Frag) : List V → Hp → VK → Prop := fun xs H Q => ∃ (l : Addr) (zs : List V) (q : Addr) (o : HO), xs = [.ref l] ∧ SqL K H l zs ∧ H q = some o ∧ ∀ it, H it = none → q < it → Q (.ref it) (upd H it (ItO l it 0))
theorem call_iterQ {X : Cx} : CallR X (.builtin "iter") (rIterQ X.K) := fun pins s σ H xs us Q I r ⟨l, zs, p, o, e1, hq, hp, q⟩ => by
  subst e1
  have e2 := Vals.ref1 r
  subst e2
  obtain ⟨its, _, pl, _⟩ := I.list hq
  have new : H s.heap.objs.size = none := I.hok.fresh (Nat.le_refl _)
  have lay := I.laid (a := s.heap.objs.size) (o := ItO l s.heap.objs.size 0) (t' := s.toks) (h' := s.heap.push (GNX.itObj l 0)) (fun b u e => Heap.get?_push_of_some _ e) (Nat.le_refl _) (itO_ok (Heap.get?_push_size _ rfl))
  exact GNX.call_iter pl.isList ⟨.ref s.heap.objs.size, _, lay, rfl, q _ new (I.hok.lt hp)⟩
section
variable {P : Program} {w : World} {K : PySem.W.Frag} {mg : Str → Option Value} {base : Heap}
/-- the object at a holds the list at R -/
def IsRows (K : PySem.W.Frag) (H : Hp) (a R : Addr) (xs : List V) : Prop := ∃ dx fs, H a = some (.ins (He.ga K "Faces") dx fs) ∧ fs.lookup ("rows" : Str) = some (V.ref R) ∧ H R = some (.lst xs)
def spIterR (K : PySem.W.Frag) : Sp := fun vs H Q _ => ∃ a R xs q o, vs = [.ref a] ∧ IsRows K H a R xs ∧ H q = some o ∧ ∀ it, H it = none → q < it → Q (.ref it) (upd H it (ItO R it 0))
def spLenR (K : PySem.W.Frag) : Sp := fun vs H Q _ => ∃ a R xs, vs = [.ref a] ∧ IsRows K H a R xs ∧ Q (.int (xs.length : Nat)) H
theorem ok_faces_iter (c : Cf K mg) : Kp P w K mg base 1 (He.ma K (He.ga K "Faces") "__iter__") (spIterR K) := by
  obtain ⟨fd, F⟩ := F_Faces___iter__ c
  refine kp_of F (N := ["self"]) (ps := ["self"]) ⟨rfl, rfl, rfl, by decide +kernel, rfl, by decide +kernel, by decide +kernel⟩ (F.bindsN fun _ _ _ _ _ _ us hl => match us, hl with | [_], _ => rfl) (fun vs H Q E h => ?_) (fun cdv A outer s H vs Q E hr h => ?_)
  · obtain ⟨a, R, xs, q, o, rfl, _⟩ := h; rfl
  · obtain ⟨a, R, xs, q, o, rfl, ⟨dx, fs, h1, h2, h3⟩, hq, k⟩ := h
    refine ⟨_, pss_one (ps_ret (pe_callB call_iterQ (by rfl) (c.free "iter" (by decide +kernel)) (by decide +kernel) (pa_cons (pe_fld (pv 0) rfl) pa_nil))), ?_⟩
    exact ⟨_, rfl, a, _, dx, fs, _, rfl, h1, (c.cls "Faces" (by decide +kernel)).1, c.noat ("Faces", "rows") (by decide +kernel), h2, R, xs, q, o, rfl, .inl (.inl h3), hq, k⟩
theorem ok_faces_len (c : Cf K mg) : Kp P w K mg base 1 (He.ma K (He.ga K "Faces") "__len__") (spLenR K) := by
  obtain ⟨fd, F⟩ := F_Faces___len__ c
  refine kp_of F (N := ["self"]) (ps := ["self"]) ⟨rfl, rfl, rfl, by decide +kernel, rfl, by decide +kernel, by decide +kernel⟩ (F.bindsN fun _ _ _ _ _ _ us hl => match us, hl with | [_], _ => rfl) (fun vs H Q E h => ?_) (fun cdv A outer s H vs Q E hr h => ?_)
  · obtain ⟨a, R, xs, rfl, _⟩ := h; rfl
  · obtain ⟨a, R, xs, rfl, ⟨dx, fs, h1, h2, h3⟩, k⟩ := h
    refine ⟨_, pss_one (ps_ret (pe_callB call_len_seq (by rfl) (c.free "len" (by decide +kernel)) PySem.boot_len (pa_cons (pe_fld (pv 0) rfl) pa_nil))), ?_⟩
    exact ⟨_, rfl, a, _, dx, fs, _, rfl, h1, (c.cls "Faces" (by decide +kernel)).1, c.noat ("Faces", "rows") (by decide +kernel), h2, R, xs, rfl, .inl (.inl (.inl h3)), k⟩
end
end L2.K4
end
section
set_option Elab.async false
set_option linter.all false
set_option maxRecDepth 100000
set_option maxHeartbeats 4000000
/-! sorted faces. -/
namespace L2.K4
open PySem PySem.Spec PyProof.Rows L2 PySem.W
/-- the order of faces -/
def leF (f g : Fc) : Bool := dataLe false (fun f : Fc => (fcK f).data) f g
theorem leF_lt (f g : Fc) : leF f g = !dataLt (fcK g).data (fcK f).data := rfl
theorem leF_total : TotalLe leF := sortLe_total (listOrd itemOrd) false fun f : Fc => keyToks (fcK f).data
def toksW : Wy → List (Int ⊕ List Nat)
  | [] => [.inl 0]
  | p :: a => .inl 1 :: .inl 1 :: .inl p.1 :: .inl 1 :: .inl p.2 :: .inl 0 :: toksW a
theorem toks_wy : ∀ a : Wy, keyToksAll (NestedKey.datas (a.map plK)) = toksW a
  | [] => by simp [NestedKey.datas, keyToksAll, toksW]
  | p :: a => by
    have := toks_wy a
    simp [NestedKey.datas, keyToksAll, toksW, plK, NestedKey.data, keyToks, this]
theorem toks_fc (f : Fc) : keyToks (fcK f).data = .inl 1 :: (toksW f.1 ++ (.inl 1 :: (toksW f.2 ++ [.inl 0]))) := by
  have h1 := toks_wy f.1
  have h2 := toks_wy f.2
  simp [fcK, wyK, NestedKey.data, NestedKey.datas, keyToks, keyToksAll, h1, h2]
theorem toksW_inj : ∀ (a b : Wy) (l m : List (Int ⊕ List Nat)), toksW a ++ l = toksW b ++ m → a = b ∧ l = m
  | [], [], l, m, h => ⟨rfl, by simpa [toksW] using h⟩
  | [], q :: b, l, m, h => by simp [toksW] at h
  | p :: a, [], l, m, h => by simp [toksW] at h
  | p :: a, q :: b, l, m, h => by
    simp only [toksW, List.cons_append, List.cons.injEq, Sum.inl.injEq, true_and] at h
    obtain ⟨h1, h2, h3⟩ := h
    obtain ⟨e1, e2⟩ := toksW_inj a b l m h3
    exact ⟨by rw [e1, show p = q from Prod.ext (Int.ofNat.inj h1) (Int.ofNat.inj h2)], e2⟩
theorem leF_anti {f g : Fc} (h1 : leF f g = true) (h2 : leF g f = true) : f = g := by
  rw [leF_lt] at h1 h2
  have a1 : dataLt (fcK g).data (fcK f).data = false := by simpa using h1
  have a2 : dataLt (fcK f).data (fcK g).data = false := by simpa using h2
  have e := lex_total (O := itemOrd) _ _ a2 a1
  rw [toks_fc, toks_fc] at e
  injection e with _ e
  obtain ⟨e1, e2⟩ := toksW_inj _ _ _ _ e
  injection e2 with _ e2
  obtain ⟨e3, _⟩ := toksW_inj _ _ _ _ e2
  exact Prod.ext e1 e3
theorem sorted_eq : ∀ {l m : List Fc}, l.Perm m → l.Pairwise (fun a b => leF a b = true) → m.Pairwise (fun a b => leF a b = true) → l = m
  | [], m, h, _, _ => (List.nil_perm.mp h).symm
  | x :: l, [], h, _, _ => absurd h.symm (by simp)
  | x :: l, y :: m, h, h1, h2 => by
    have hxy : x = y := by
      rcases List.mem_cons.mp (h.mem_iff.mp List.mem_cons_self) with e | e
      · exact e
      · rcases List.mem_cons.mp (h.mem_iff.mpr (List.mem_cons_self (a := y))) with e' | e'
        · exact e'.symm
        · exact leF_anti ((List.pairwise_cons.mp h1).1 y e') ((List.pairwise_cons.mp h2).1 x e)
    subst hxy
    rw [sorted_eq (List.Perm.cons_inv h) (List.pairwise_cons.mp h1).2 (List.pairwise_cons.mp h2).2]
theorem alike_fc (f g : Fc) : alike (fcK f).data (fcK g).data = true := by
  simp only [fcK, NestedKey.data, NestedKey.datas, alike, alikeAll]
  rw [alike_wy, alike_wy]; rfl
section
variable {X : Cx} {pins : List (Addr × Obj)} {σ : St} {H : Hp} {s : Shared}
/-- the items are collected: sort them -/
theorem srt_tail {A1 : Around} {items : List Value} {xs : List V} {fs : List Fc} {Q : VK} {E : Value → Shared → Prop} (I : Inv X pins σ H s) (rv : Vals xs items) (ax : AtL X.K H (fs.map fcK) xs) (hl : fs.length ≤ 1000) (hu : A1.units + 10 < cLine)
    (q : ∀ (p : Addr) (ys : List V) (gs : List Fc), gs.Perm fs → gs.Pairwise (fun a b => leF a b = true) → AtL X.K H (gs.map fcK) ys → H p = none → Q (.ref p) (upd H p (.lst ys))) :
    wpAny (model X.prog X.w) A1 (newList items >>= fun l => holding [l] (call (.builtin "list.sort") [l] []) >>= fun _ => ret l) (fun fin s' => ∃ v, fin = .done (.ret v) ∧ EP X pins σ Q v s') E s := by
  have lx : xs.length = fs.length := by rw [AtL.length ax, List.length_map]
  have li : items.length = fs.length := by rw [← rv.length, lx]
  have hsz : fs.length ≤ sizeLine := Nat.le_trans hl (by decide)
  refine wpAny_bind (wpAny_newList ?_ (by rw [li]; exact hsz))
  have hoL : (s.heap.push (seqObj "list" items.toArray 0)).get? s.heap.objs.size = some (seqObj "list" items.toArray 0) := Heap.get?_push_size _ rfl
  show wpAny _ _ _ _ _ { s with heap := s.heap.push (seqObj "list" items.toArray 0) }
  have e := each_zip rv ax
  have old : ∀ b o, s.heap.get? b = some o → (s.heap.push (seqObj "list" items.toArray 0)).get? b = some o := fun b o z => Heap.get?_push_of_some _ z
  refine wpAny_bind (wpAny_holding (list_sort_data (s := { s with heap := s.heap.push (seqObj "list" items.toArray 0) }) (bs := xs.zip fs) (R := Rb X.K H) (enc := fun b => (fcK b.2).data) hoL e (e.mono fun v b hR => ?_)
    (AllAlike.of fun b b' => alike_fc b.2 b'.2) (Sortable.tuples fun b => ⟨_, _, rfl⟩) (by rw [List.length_zip]; exact Nat.le_trans (Nat.min_le_right _ _) hsz) (fun b hb => ?_) fun out _ eo => ?_))
  · obtain ⟨as, rd⟩ := Dp.reads I (fcK b.2).data b.1 v hR.2 hR.1
    have := rn_nil _ _ _ rd
    subst this
    exact ⟨[], PyProof.Rows.Reads.keeps old rd, by simp⟩
  · have h1 := depth_data (fcK b.2)
    have h2 := fcK_d b.2
    show A1.units + 1 + (fcK b.2).data.depth < cLine
    omega
  · obtain ⟨ev, ea⟩ := each_un eo
    obtain ⟨cc, hD⟩ := PyProof.Rows.sortedHeap_at (vs := items) (out := List.toArray out) hoL
    have fresh : H s.heap.objs.size = none := I.hok.fresh (Nat.le_refl _)
    have pm := List.mergeSort_perm (xs.zip fs) (dataLe false fun b : V × Fc => (fcK b.2).data)
    have pm2 := pm.map (·.2)
    rw [List.map_snd_zip (by omega)] at pm2
    have tl := sortLe_total (listOrd itemOrd) false fun b : V × Fc => keyToks (fcK b.2).data
    have pw : ((xs.zip fs).mergeSort (dataLe false fun b : V × Fc => (fcK b.2).data)).Pairwise fun a b => dataLe false (fun b : V × Fc => (fcK b.2).data) a b = true := List.pairwise_mergeSort tl.trans (fun a b => by have := tl.total a b; simpa using this) _
    refine wpAny_pure ⟨_, rfl, .ref s.heap.objs.size, _, I.laid (t' := s.toks) (o := .lst _) (fun b u z => ?_) (Nat.le_refl _) ⟨?_, out, cc, ev, hD⟩, rfl, q _ _ _ pm2 (List.pairwise_map.mpr pw) ea fresh⟩
    · have hb : b < s.heap.objs.size := Heap.lt_size z
      rw [PyProof.Rows.sortedHeap_old (Nat.ne_of_lt hb) (by rw [size_push']; exact Nat.lt_succ_of_lt hb)]
      exact Heap.get?_push_of_some _ z
    · rw [List.length_map, pm.length_eq, List.length_zip]; exact Nat.le_trans (Nat.min_le_right _ _) hsz
/-- sorted(d), d keyed by faces -/
def rSortN (P : Program) (w : World) (K : PySem.W.Frag) : List V → Hp → VK → Prop := fun vs H Q => ∃ a kvs fs, vs = [.ref a] ∧ ND P w K H a kvs ∧ kvs.map (·.1) = fs.map fcK ∧ fs.length ≤ 1000 ∧
  ∀ (p : Addr) (ys : List V) (gs : List Fc), gs.Perm fs → gs.Pairwise (fun a b => leF a b = true) → AtL K H (gs.map fcK) ys → H p = none → Q (.ref p) (upd H p (.lst ys))
theorem cr_sortN (hcalm : X.calm = true) (hu : X.A.units + 64 < cLine) : CallR X (.builtin "sorted") (rSortN X.prog X.w X.K) := by
  intro pins s σ H vs us Q I r q
  obtain ⟨a, kvs, fs, ex, hN, hks, h1000, q⟩ := q
  subst ex
  obtain ⟨u, eu, rx⟩ := vals1 r
  subst eu
  cases rx
  obtain ⟨xs, h1, h2, h3, h4, h5⟩ := hN.dictOf I
  obtain ⟨es, ep, hraw, hsz, hrow⟩ := h5.raw
  have hlen : kvs.length = xs.length := Paired.length h2
  refine Calls.call_function_entry PyProof.Rows.kind_sorted PyProof.Rows.plain_sorted PyProof.Rows.entry_sorted (PyProof.Rows.args_sorted1 _) ?_
  unfold Builtin.«sorted»
  refine wpAny_bind (m := checkCount "sorted" 1 1 _) (wpAny_pure ?_)
  refine wpAny_bind (PySem.W.kdu_collect (A := X.A.in1) (KdlSrc.rawDict (es := es) (ep := ep) h4) (I.ok.hd hcalm) hraw (by rw [hsz, ← hlen]; exact h3) fun h' tk acc hk hacc => ?_)
  have hv : Vals (xs.map fun q => V.ref q.2.1) acc.toList := vals_refs (by rw [Array.length_toList, hacc.1, hsz]) fun j v e => by
    obtain ⟨hj, e2⟩ := hacc.2 j v (by rw [← Array.getElem?_toList]; exact e)
    obtain ⟨y, y1, y2, _⟩ := hrow j hj
    exact ⟨y, y1, by rw [e2, y2]⟩
  have ak := rows_keys h2
  rw [hks] at ak
  exact srt_tail (I.kept hk) hv ak h1000 (show X.A.units + 1 + 10 < cLine by omega) q
end
end L2.K4
end
section
set_option Elab.async false
set_option linter.all false
set_option maxRecDepth 100000
set_option maxHeartbeats 4000000
/-! list(o), sorted(o), len(o) of the faces. -/
namespace L2.K4
open PySem PySem.Spec PyProof.Rows L2 PySem.W ItX
section
variable {X : Cx} {pins : List (Addr × Obj)} {σ : L2.St} {H : Hp} {s : Shared} {n : Nat} {A1 : Around} {f : Addr} {sp : Sp}
theorem run_sub {us : List Value} {vs : List V} {Q : VK} {E : Value → Shared → Prop} (sb : Sub X n A1) (F : Kp X.prog X.w X.K X.mg X.base n f sp) (I : Inv X pins σ H s) (r : Vals vs us) (hsp : sp vs H Q E0) :
    wpAny (model X.prog X.w) A1 (call (.ref f) us) (fun u s' => CE X.stack X.prog X.w H s Q u s') E s := by
  have e0 : Env0 X.prog X.w X.K X.mg X.base A1 X.stack s H := by
    have e := I.env0
    exact ⟨by rw [sb.fr]; exact e.frames, e.mod, e.bs, e.bsz, e.funs, e.frf, e.hok, e.bare⟩
  refine wpAny_call (codeAny_mono (F A1 X.stack s H us vs Q E0 sb.room e0 r hsp) fun r s' hq => ?_)
  cases r with
  | error e => exact False.elim hq
  | ok fl =>
    cases fl with
    | ret u => exact hq
    | next => exact False.elim hq
    | brk => exact False.elim hq
    | cont => exact False.elim hq
/-- the loop that fills the list at q from a list iterator -/
theorem lit_loop {it R q : Addr} {xs : List V} {res : Value} {Rs : Result → Shared → Prop} (hh : A1.in1.handled = none) (hq : H q = some (.lst [])) (hR : H R = some (.lst xs)) (hqR : R ≠ q) (hqi : it ≠ q) (hRi : R ≠ it) (f : FpOk X pins H it)
    (hdone : ∀ s, Inv X pins σ (upd H q (.lst xs)) s → Rs (.ok (.ret res)) s) :
    ∀ (k i : Nat) (s : Shared), xs.length - i = k → i ≤ xs.length → Inv X pins σ (upd H q (.lst (xs.take i))) s → s.heap.IsListIter it R i → codeAny (model X.prog X.w) A1 (.builtin "list.extend.loop" ⟨[.ref q, .ref it, res], []⟩) Rs s := by
  obtain ⟨f0, f1, f2, f3, f4, f5⟩ := f
  have f0' : ∀ i, (upd H q (.lst (xs.take i))) it = none := fun i => by rw [upd_ne hqi]; exact f0
  intro k
  induction k with
  | zero =>
    intro i s hk hi I hit
    have : i = xs.length := by omega
    subst this
    rw [List.take_length] at I
    have hR' : (upd H q (.lst xs)) R = some (.lst xs) := by rw [upd_ne hqR]; exact hR
    obtain ⟨z, its, n, rv, hl, e⟩ := I.lstM hR'
    refine codeAny_builtin PySem.F.entry_extend_loop ?_
    rw [Around.under_plainId PySem.F.plain_extend_loop _]
    show wpAny _ A1.in1 (pyNext (.ref it) >>= _) _ _ s
    have hL : s.heap.IsList R its.toArray := ⟨_, e, rfl, n, rfl⟩
    refine wpAny_bind (wpAny_pyNext_list_end hh hit hL (by rw [List.getElem?_toArray]; exact List.getElem?_eq_none (by omega)) fun h' he => ?_)
    refine wpAny_pure (hdone _ (I.turned (t' := s.toks) (fun b o hb e => he b o hb e) ?_ f1 f3 f4 f5))
    rw [upd_ne hqi]; exact f0
  | succ k ih =>
    intro i s hk hi I hit
    have hlt : i < xs.length := by omega
    have hR' : (upd H q (.lst (xs.take i))) R = some (.lst xs) := by rw [upd_ne hqR]; exact hR
    obtain ⟨z, its, n, rv, hl, e⟩ := I.lstM hR'
    obtain ⟨u, hu, ru⟩ := rv.get (List.getElem?_eq_getElem hlt)
    refine codeAny_builtin PySem.F.entry_extend_loop ?_
    rw [Around.under_plainId PySem.F.plain_extend_loop _]
    show wpAny _ A1.in1 (pyNext (.ref it) >>= _) _ _ s
    have hL : s.heap.IsList R its.toArray := ⟨_, e, rfl, n, rfl⟩
    refine wpAny_bind (wpAny_pyNext_list_item hit hL (by rw [List.getElem?_toArray]; exact hu) fun h' hit' hs' => ?_)
    have I1 : Inv X pins σ (upd H q (.lst (xs.take i))) { s with heap := h', toks := s.toks } := I.turned (t' := s.toks) (fun b o hb e => hs'.extBut b o hb e) (f0' i) f1 f3 f4 f5
    show wpAny _ A1.in1 (updateSeq q (·.push u) >>= _) _ _ _
    obtain ⟨z2, its2, k2, r2, hl2, e2⟩ := I1.lstM upd_same
    refine wpAny_bind (wpAny_updateSeq e2 rfl (wpAny_pure ⟨plainId_quiet PySem.F.plain_extend_loop _, ?_⟩) (by rw [List.size_toArray]; have := List.length_take_le i xs; omega) (by show (its2.toArray.push u).size ≤ sizeLine + 1; rw [Array.size_push, List.size_toArray]; have := List.length_take_le i xs; omega))
    have tk : xs.take (i + 1) = xs.take i ++ [xs[i]] := by rw [List.take_add_one, List.getElem?_eq_getElem hlt]; rfl
    have I2 := I1.lset (f := (·.push u)) (its' := its2 ++ [u]) (ys := xs.take i ++ [xs[i]]) (t' := s.toks) upd_same e2 (by simp) (r2.append (.cons ru .nil)) (by rw [List.length_append, List.length_singleton]; have := List.length_take_le i xs; omega)
    rw [upd_upd, ← tk] at I2
    exact ih (i + 1) _ (by omega) hlt I2 (hit'.at fun o e => (Heap.get?_update_other _ _ (Ne.symm hqi)).trans e)
variable (c : Cf X.K X.mg)
include c
/-- len(o) -/
theorem len_obj {a R : Addr} {xs : List V} {Q : Value → Shared → Prop} {E : Value → Shared → Prop} (sb : Sub X 1 A1.in1) (I : Inv X pins σ H s) (h : IsRows X.K H a R xs) (hl : xs.length ≤ sizeLine) (q : ∀ s' t, Inv X pins σ H s' → Q (.int (xs.length : Nat) t) s') :
    wpAny (model X.prog X.w) A1 (call (.builtin "len") [.ref a]) Q E s := by
  obtain ⟨dx, fs, h1, h2, h3⟩ := id h
  obtain ⟨mA, J, _⟩ := ins_get I.hok h1
  obtain ⟨od, J, _⟩ := J.look
  obtain ⟨m, hF⟩ := I.fr
  have M := c.meth ("Faces", "__len__") (by decide +kernel)
  refine PySem.W.len_K hF I.ok.mod.kin J M.at_ M.fn (wpAny_mono (run_sub (Q := fun v H' => v = .int (xs.length : Nat) ∧ H' = H) sb (ok_faces_len c) I (us := [.ref a]) (vs := [.ref a]) (.cons rfl .nil) ⟨a, R, xs, rfl, h, rfl, rfl⟩) (fun u s' hq => ?_) fun _ _ z => z)
  obtain ⟨v, H', I', rv, rfl, rfl⟩ := I.after hq
  obtain ⟨t, rfl⟩ := _root_.id rv
  have h64 : (xs.length : Int) < 2 ^ 63 := by
    have : xs.length < 2 ^ 63 := Nat.lt_of_le_of_lt hl (by decide)
    omega
  exact ⟨⟨by omega, h64⟩, q _ _ (I'.tok _)⟩
theorem hint_obj {a R : Addr} {xs : List V} {Q : Bool → Shared → Prop} {E : Value → Shared → Prop} (sb : Sub X 1 A1.in1) (I : Inv X pins σ H s) (h : IsRows X.K H a R xs) (hl : xs.length ≤ 1000) (q : ∀ b s', Inv X pins σ H s' → Q b s') :
    wpAny (model X.prog X.w) A1 (Builtin.List.listLengthHint (.ref a)) Q E s := by
  obtain ⟨dx, fs, h1, h2, h3⟩ := id h
  obtain ⟨mA, J, _⟩ := ins_get I.hok h1
  obtain ⟨od, J, _⟩ := J.look
  have M := c.meth ("Faces", "__len__") (by decide +kernel)
  unfold Builtin.List.listLengthHint
  refine wpAny_bind (wpAny_bind (J.type.here ((PySem.W.looks_findIn I.kIn M.at_).here ?_)))
  refine PySem.W.KFB.if_not rfl ?_
  refine PySem.W.KFB.if_so rfl ?_
  refine wpAny_bind (wpAny_rule ?_)
  refine wpAny_bind (wpAny_attempt (len_obj c sb I h (Nat.le_trans hl (by decide)) fun s' t I' => ?_))
  refine wpAny_bind (wpAny_pure ?_)
  refine PySem.W.KFB.if_not ?_ (wpAny_pure (q _ _ I'))
  show decide (((xs.length : Nat) : Int).toNat > sizeLine) = false
  rw [Int.toNat_natCast]
  exact decide_eq_false (Nat.not_lt.mpr (Nat.le_trans hl (by decide)))
theorem ext_obj {a R q : Addr} {xs : List V} {res : Value} {Rs : Result → Shared → Prop} {E : Value → Shared → Prop} (sb : Sub X 2 A1.in1) (hh : A1.in1.handled = none) (hnew : ∀ it, q < it → H it = none → FpOk X pins H it) (I : Inv X pins σ H s) (h : IsRows X.K H a R xs) (hl : xs.length ≤ 1000) (hq : H q = some (.lst [])) (hqR : R ≠ q)
    (hdone : ∀ s', Inv X pins σ (upd H q (.lst xs)) s' → Rs (.ok (.ret res)) s') :
    wpAny (model X.prog X.w) A1.in1 (Builtin.List.listExtendWith (.ref q) (.ref a) res)
      (fun fin s' => match fin with | .done f => Rs (.ok f) s' | .again c' => c'.quiet = true ∧ codeAny (model X.prog X.w) A1 c' Rs s') E s := by
  obtain ⟨dx, fs, ha, h2, hR⟩ := id h
  have hne : q ≠ a := ne_of hq ha (fun z => nomatch z)
  obtain ⟨mA, J, _⟩ := ins_get I.hok ha
  obtain ⟨od, J, _⟩ := J.look
  obtain ⟨m0, hF⟩ := I.fr
  have M := c.meth ("Faces", "__iter__") (by decide +kernel)
  unfold Builtin.List.listExtendWith
  refine wpAny_bind (J.type.here ?_)
  have e1 : Builtin.List.listSameRef (.ref q) (.ref a) = false := by simp [Builtin.List.listSameRef, hne]
  have e2 : (Value.ref (He.ga X.K "Faces") == Value.type "list") = false := rfl
  have e3 : (Value.ref (He.ga X.K "Faces") == Value.type "tuple") = false := rfl
  simp only [e1, e2, e3, Bool.or_false, Bool.false_eq_true, if_false]
  refine wpAny_bind (PySem.W.owit_iter hF I.ok.mod.kin J M.at_ M.fn (wpAny_mono (run_sub (Q := fun v H' => ∃ it, v = .ref it ∧ H it = none ∧ q < it ∧ H' = upd H it (ItO R it 0)) (sb.mono (by decide)) (ok_faces_iter c) I (us := [.ref a]) (vs := [.ref a]) (.cons rfl .nil) ⟨a, R, xs, q, _, rfl, h, hq, fun it hit lt => ⟨it, rfl, hit, lt, rfl⟩⟩) (fun u s' hq' => ?_) fun _ _ z => z))
  obtain ⟨v, H', I', rv, it, rfl, hit, hlt, rfl⟩ := I.after hq'
  cases rv
  have hget := itO_get I' upd_same
  have hT : s'.TypeIs (.ref it) "list_iterator" := ⟨_, hget, rfl⟩
  unfold PySem.W.OwitIt
  refine wpAny_specialOf (name := Str.ofString "__next__") hT slot_listiter_next.lookup ?_
  have nia : a ≠ it := ne_of_none ha hit
  have niR : R ≠ it := ne_of_none hR hit
  have niq : q ≠ it := ne_of_none hq hit
  have h' : IsRows X.K (upd H it (ItO R it 0)) a R xs := ⟨dx, fs, by rw [upd_ne nia]; exact ha, h2, by rw [upd_ne niR]; exact hR⟩
  refine wpAny_bind (wpAny_holding (hint_obj c (sb.mono (by decide)).in1 I' h' hl fun b s2 I2 => ?_))
  have hget2 := itO_get I2 upd_same
  have I3 := inv_drop I2 upd_same
  rw [dropH_upd hit] at I3
  have fp : FpOk X pins H it := hnew it hlt hit
  have hL : s2.heap.IsListIter it R 0 := ⟨_, hget2, rfl, rfl⟩
  have hH : upd H q (.lst []) = H := by
    funext b
    by_cases hb : b = q
    · rw [hb, upd_same, hq]
    · rw [upd_ne hb]
  have I3' : Inv X pins σ (upd H q (.lst (xs.take 0))) s2 := by rw [List.take_zero, hH]; exact I3
  refine wpAny_ite_split (fun _ => ?_) (fun _ => wpAny_pure ⟨plainId_quiet PySem.F.plain_extend_loop _, lit_loop hh hq hR hqR (Ne.symm niq) niR fp hdone _ 0 s2 rfl (Nat.zero_le _) I3' hL⟩)
  obtain ⟨z, its, k, r3, hl3, e3⟩ := I3.lstM hq
  cases r3
  refine wpAny_bind (wpAny_rule ?_)
  refine wpAny_bind ?_
  show wpAny _ _ (updateSeq q (·.push .none) >>= fun _ => updateSeq q (·.pop)) _ _ _
  refine wpAny_bind (wpAny_updateSeq e3 rfl ?_)
  have I4 := I3.lset (f := (·.push Value.none)) (its' := [Value.none]) (ys := [.non]) (t' := s2.toks) hq e3 (by simp) (.cons rfl .nil) (by rw [List.length_singleton, sizeLine_eq]; decide)
  obtain ⟨z4, its4, k4, r4, hl4, e4⟩ := I4.lstM upd_same
  obtain ⟨u4, rfl, ru4⟩ := r4.one
  refine wpAny_updateSeq e4 rfl ?_ (by show 1 ≤ sizeLine; rw [sizeLine_eq]; decide) (by show 0 ≤ sizeLine + 1; exact Nat.zero_le _)
  have I5 := I4.lset (f := (·.pop)) (its := [u4]) (its' := []) (ys := []) (t' := s2.toks) upd_same e4 (by rfl) .nil (Nat.zero_le _)
  rw [upd_upd] at I5
  refine wpAny_pure ⟨plainId_quiet PySem.F.plain_extend_loop _, lit_loop hh hq hR hqR (Ne.symm niq) niR fp hdone _ 0 _ rfl (Nat.zero_le _) (by rw [List.take_zero]; exact I5) ?_⟩
  exact (hL.at fun o e => (Heap.get?_update_other _ _ niq).trans ((Heap.get?_update_other _ _ niq).trans e))
def rListO (K : PySem.W.Frag) : List V → Hp → VK → Prop := fun vs H Q => ∃ a R xs, vs = [.ref a] ∧ IsRows K H a R xs ∧ xs.length ≤ 1000 ∧ ∀ q, H q = none → Q (.ref q) (upd H q (.lst xs))
theorem cr_listObj (hc : X.calm = true) (hr : Room 4 X.A) : CallR X (.type "list") (rListO X.K) := by
  intro pins s σ H vs us Q I rv h
  obtain ⟨a, R, xs, rfl, ha, hl, hq⟩ := h
  obtain ⟨u, rfl, ru⟩ := rv.one
  cases ru
  have sb : Sub X 2 X.A.in1.in1 := Sub.in1 (Sub.in1 (⟨hr, rfl⟩ : Sub X 4 X.A))
  refine callType_codes (Q₁ := fun obj s₁ => obj = .ref s.heap.objs.size ∧ s₁ = { s with heap := s.heap.push { cls := .type "list", data := .seq #[] } }) PySem.F.called_list (PySem.F.typeCall_list_1 _) PySem.F.entry_list_init
    (code_list_new _ ⟨rfl, rfl⟩) fun obj s₁ h₁ => ?_
  obtain ⟨rfl, rfl⟩ := h₁
  have hS : (s.heap.push { cls := .type "list", data := .seq #[] }).get? s.heap.objs.size = some { cls := .type "list", data := .seq #[] } := Heap.get?_push_size _ rfl
  refine ⟨⟨_, hS, rfl⟩, PySem.F.args_list_init_2 _ _, ?_⟩
  have fr : H s.heap.objs.size = none := I.hok.fresh (Nat.le_refl _)
  have I1 : Inv X pins σ (upd H s.heap.objs.size (.lst [])) { s with heap := s.heap.push { cls := .type "list", data := .seq #[] } } := I.lnew (its := []) (t' := s.toks) .nil (Nat.zero_le _)
  show wpAny _ _ (do let old ← Builtin.List.listItems (.ref s.heap.objs.size); Builtin.List.listUpdate (.ref s.heap.objs.size) (fun _ => #[]); letGo old.toList.reverse; Builtin.List.listExtendWith (.ref s.heap.objs.size) (.ref a) .none) _ _ _
  refine wpAny_bind ?_
  unfold Builtin.List.listItems
  refine wpAny_bind (wpAny_seqItems hS rfl (wpAny_pure ?_))
  show wpAny _ _ (updateSeq s.heap.objs.size (fun _ => #[]) >>= fun _ => letGo (#[] : Array Value).toList.reverse >>= fun _ => Builtin.List.listExtendWith (.ref s.heap.objs.size) (.ref a) .none) _ _ _
  refine wpAny_bind (wpAny_updateSeq hS rfl ?_)
  have I2 := I1.lset (f := fun _ => #[]) (its := []) (its' := []) (ys := []) (t' := s.toks) upd_same hS rfl .nil (Nat.zero_le _)
  rw [upd_upd] at I2
  refine wpAny_bind (wpAny_letGo ?_)
  obtain ⟨dx, fs, h1, h2, h3⟩ := ha
  have ha2 : IsRows X.K (upd H s.heap.objs.size (.lst [])) a R xs := ⟨dx, fs, by rw [upd_ne (ne_of_none h1 fr)]; exact h1, h2, by rw [upd_ne (ne_of_none h3 fr)]; exact h3⟩
  refine ext_obj (A1 := X.A.in1) (Rs := wants (fun r s₂ => r = .none ∧ EP X pins σ Q (.ref s.heap.objs.size) s₂) X.xe) c sb (I.ok.hd hc) (fun it lt hit => I.fpOk (Nat.le_of_lt lt) hit) I2 ha2 hl upd_same (ne_of_none h3 fr) fun s' I' => ⟨rfl, .ref s.heap.objs.size, _, I', rfl, ?_⟩
  rw [upd_upd]
  exact hq _ fr
def rSortO (K : PySem.W.Frag) : List V → Hp → VK → Prop := fun vs H Q => ∃ a R xs fs, vs = [.ref a] ∧ IsRows K H a R xs ∧ AtL K H (fs.map fcK) xs ∧ fs.length ≤ 1000 ∧
  ∀ (H' : Hp) (p : Addr) (ys : List V) (gs : List Fc), Ex H H' → gs.Perm fs → gs.Pairwise (fun a b => leF a b = true) → AtL K H' (gs.map fcK) ys → H p = none → H' p = some (.lst ys) → Q (.ref p) H'
theorem cr_sortObj (hc : X.calm = true) (hr : Room 4 X.A) : CallR X (.builtin "sorted") (rSortO X.K) := by
  intro pins s σ H vs us Q I rv h
  obtain ⟨a, R, xs, fs, rfl, ha, ax, hl, q⟩ := h
  obtain ⟨u, rfl, ru⟩ := rv.one
  cases ru
  have lx : xs.length = fs.length := by rw [AtL.length ax, List.length_map]
  have sb : Sub X 2 X.A.in1.in1 := Sub.in1 (Sub.in1 (⟨hr, rfl⟩ : Sub X 4 X.A))
  refine Calls.call_function_entry PyProof.Rows.kind_sorted PyProof.Rows.plain_sorted PyProof.Rows.entry_sorted (PyProof.Rows.args_sorted1 _) ?_
  unfold Builtin.«sorted»
  refine wpAny_bind (m := checkCount "sorted" 1 1 _) (wpAny_pure ?_)
  refine wpAny_bind ?_
  show wpAny _ X.A.in1 (collect (.ref a)) _ _ s
  unfold collect
  have fr : H s.heap.objs.size = none := I.hok.fresh (Nat.le_refl _)
  obtain ⟨dx, fs', h1, h2, h3⟩ := ha
  have I1 : Inv X pins σ (upd H s.heap.objs.size (.lst [])) { s with heap := s.heap.push { cls := .type "list", data := .seq #[] } } := I.lnew (its := []) (t' := s.toks) .nil (Nat.zero_le _)
  have ha2 : IsRows X.K (upd H s.heap.objs.size (.lst [])) a R xs := ⟨dx, fs', by rw [upd_ne (ne_of_none h1 fr)]; exact h1, h2, by rw [upd_ne (ne_of_none h3 fr)]; exact h3⟩
  refine wpAny_bind (wpAny_runValue (codeAny_builtin PySem.F.entry_proto_collect ?_))
  rw [Around.under_plainId PySem.F.plain_proto_collect _]
  show wpAny _ X.A.in1.in1 (newList [] >>= fun l => again (.builtin "list.__iadd__" ⟨[l, .ref a], []⟩)) _ _ s
  refine wpAny_bind (wpAny_newObj_type ?_)
  refine wpAny_pure ⟨plainId_quiet PySem.F.plain_list_iadd _, codeAny_builtin PySem.F.entry_list_iadd ?_⟩
  rw [Around.under_plainId PySem.F.plain_list_iadd _]
  show wpAny _ X.A.in1.in1 (Builtin.List.listExtendWith (.ref s.heap.objs.size) (.ref a) (.ref s.heap.objs.size)) _ _ _
  have e1 := Ex.laid (o := .lst xs) fr
  have fin : ∀ s', Inv X pins σ (upd H s.heap.objs.size (.lst xs)) s' → wpAny (model X.prog X.w) X.A.in1 (load s.heap.objs.size >>= fun o => match o.data with | .seq xs _ => pure xs.toList | _ => unsupported "internal:collect")
      (fun items s' => wpAny (model X.prog X.w) X.A.in1 (newList items >>= fun l => holding [l] (call (.builtin "list.sort") [l] []) >>= fun _ => ret l) (fun fin s' => ∃ v, fin = .done (.ret v) ∧ EP X pins σ Q v s') X.xe s') X.xe s' := fun s' I' => by
    obtain ⟨z, its, n, r3, hl3, e3⟩ := I'.lstM upd_same
    refine wpAny_bind (wpAny_load e3 (wpAny_pure ?_))
    exact srt_tail I' r3 (AtL.keep (Ex.tk e1) _ _ ax) hl (show X.A.units + 1 + 10 < cLine by have := hr.un; omega) fun p ys gs g1 g2 g3 g4 => q _ p ys gs (e1.trans (Ex.laid g4)) g1 g2 (AtL.keep (Ex.tk (Ex.laid g4)) _ _ g3) (e1.free g4) upd_same
  refine wpAny_mono (ext_obj (A1 := X.A.in1) (E := fun _ _ => False) (Rs := fun r s' => r = .ok (.ret (.ref s.heap.objs.size)) ∧ Inv X pins σ (upd H s.heap.objs.size (.lst xs)) s') c sb (I.ok.hd hc) (fun it lt hit => I.fpOk (Nat.le_of_lt lt) (by exact hit)) I1 ha2 (by omega) upd_same (ne_of_none h3 fr) fun s' I' => ⟨rfl, by rw [upd_upd] at I'; exact I'⟩) (fun r s' hf => ?_) fun _ _ z => z.elim
  cases r with
  | done f =>
    obtain ⟨e, I'⟩ := hf
    cases e
    exact fin s' I'
  | again c' => exact ⟨hf.1, codeAny_mono hf.2 fun r s' ⟨e, I'⟩ => by subst e; exact fin s' I'⟩
def rLenO (K : PySem.W.Frag) : List V → Hp → VK → Prop := fun vs H Q => ∃ a R xs, vs = [.ref a] ∧ IsRows K H a R xs ∧ xs.length ≤ 1000 ∧ Q (.int (xs.length : Nat)) H
theorem cr_lenObj (hr : Room 2 X.A) : CallR X (.builtin "len") (rLenO X.K) := by
  intro pins s σ H vs us Q I rv h
  obtain ⟨a, R, xs, rfl, ha, hl, q⟩ := h
  obtain ⟨u, rfl, ru⟩ := rv.one
  cases ru
  exact len_obj c (Sub.in1 (⟨hr, rfl⟩ : Sub X 2 X.A)) I ha (Nat.le_trans hl (by decide)) fun s' t I' => ⟨.int (xs.length : Nat), H, I', ⟨t, rfl⟩, q⟩
end
end L2.K4
end
section
set_option Elab.async false
set_option linter.all false
set_option maxRecDepth 100000
set_option maxHeartbeats 4000000
/-! Sets of texts, and sorted over them. -/
namespace L2.K4
open PySem PySem.Spec PyProof.Rows L2
/-- the text of an entry -/
def keyS (e : Int × Value) : Str := match e.2 with | .str k _ => k | _ => Str.empty
def GoodS (P : Program) (w : World) (e : Int × Value) : Prop := ∃ k tk, e.2 = Value.str k tk ∧ e.1 = (PySem.strKind P w).hash k
/-- the set of texts at a, its members S, n of them -/
def SetS (P : Program) (w : World) (h : Heap) (a : Addr) (S : Str → Bool) (n : Nat) : Prop :=
  ∃ o es ep t, h.get? a = some o ∧ o.ExactSet ∧ o.data = .set es ep t ∧ (∀ e ∈ es.toList, GoodS P w e) ∧ (es.toList.map keyS).Nodup ∧ (∀ k, S k = true ↔ k ∈ es.toList.map keyS) ∧
    es.size < scanBound ∧ t.fits es.size = true ∧ es.size = n ∧ Ris t.place.toList ∧ (w.params.followText "set-order" = true ∨ t.led = true)
section
variable {P : Program} {w : World} {h h' : Heap} {a : Addr} {S : Str → Bool} {n : Nat}
theorem SetS.at (R : SetS P w h a S n) (k : ∀ o, h.get? a = some o → h'.get? a = some o) : SetS P w h' a S n := let ⟨o, es, ep, t, ho, r⟩ := R; ⟨o, es, ep, t, k o ho, r⟩
theorem SetS.congr {S' : Str → Bool} (R : SetS P w h a S n) (e : ∀ k, S' k = S k) : SetS P w h a S' n := by rw [show S' = S from funext e]; exact R
theorem goodS_is {e : Int × Value} (g : GoodS P w e) (k : Str) : (PySem.strKind P w).is k e.2 = true ↔ keyS e = k := by
  obtain ⟨k0, tk, q, _⟩ := g
  unfold keyS
  rw [q]
  show ((k0 == k) = true) ↔ k0 = k
  exact beq_iff_eq
theorem goodS_elems {l : List (Int × Value)} (g : ∀ e ∈ l, GoodS P w e) : ElemsOf (PySem.strKind P w) l := fun e he => by
  obtain ⟨k, tk, q1, q2⟩ := g e he
  exact ⟨⟨k, by rw [q1]; exact strKind_is P w k tk, q2⟩, by rw [q1]; rfl⟩
theorem goodS_mem {l : List (Int × Value)} (g : ∀ e ∈ l, GoodS P w e) (k : Str) : k ∈ l.map keyS ↔ ∃ e ∈ l, (PySem.strKind P w).is k e.2 = true :=
  ⟨fun m => let ⟨e, he, q⟩ := List.mem_map.mp m; ⟨e, he, (goodS_is (g e he) k).2 q⟩, fun ⟨e, he, q⟩ => List.mem_map.mpr ⟨e, he, (goodS_is (g e he) k).1 q⟩⟩
abbrev freshSet (w : World) : Obj := { cls := .type "set", dict := none, data := .set #[] 0 (.fresh 0 0 (!w.params.followText "set-order")) }
theorem setS_fresh (ho : h.get? a = some (freshSet w)) : SetS P w h a (fun _ => false) 0 :=
  ⟨_, #[], 0, _, ho, ⟨rfl, rfl, rfl⟩, rfl, fun e he => by simp at he, by simp, fun k => by simp, by decide, by rfl, rfl, List.Pairwise.nil, by
    cases q : w.params.followText "set-order" with
    | true => exact .inl rfl
    | false => exact .inr rfl⟩
end
section
variable {P : Program} {w : World} {A : Around} {E : Value → Shared → Prop} {s : Shared} {a : Addr} {S : Str → Bool} {n : Nat}
theorem setS_tail {g : Bool → Sem Unit} (kg : ∀ (b : Bool) (s₁ : Shared) (Q' : Unit → Shared → Prop), Q' () s₁ → wpAny (model P w) A (g b) Q' E s₁)
    {o : Obj} {es : Array (Int × Value)} {ep : Nat} {t : SetTable} (ko : s.heap.get? a = some o) (kex : o.ExactSet) (kd0 : o.data = .set es ep t)
    {fs1 : Array (Int × Value)} {tb2 : SetTable} {S' : Str → Bool} (gg1 : ∀ e ∈ fs1.toList, GoodS P w e) (ndd1 : (fs1.toList.map keyS).Nodup) (mm1 : ∀ k, S' k = true ↔ k ∈ fs1.toList.map keyS)
    (kb1 : fs1.size < scanBound) (kf2 : tb2.fits fs1.size = true) (kr : Ris tb2.place.toList) (kl : w.params.followText "set-order" = true ∨ tb2.led = true) {wd0 : Bool} {Rr : Option Bool → Shared → Prop}
    (kR : ∀ h', Heap.SameBut a s.heap h' → SetS P w h' a S' fs1.size → Rr (some true) { s with heap := h' }) :
    wpAny (model P w) A (do
        storeSet a fs1 tb2
        if (!wd0 && tb2.tooFull) = true then do
            g (relayAll tb2 fs1 (SetTable.grown fs1.size)).2.2
            storeSet a (relayAll tb2 fs1 (SetTable.grown fs1.size)).1 (relayAll tb2 fs1 (SetTable.grown fs1.size)).2.1
            pure (some true)
          else pure (some true)) Rr E s := by
  refine wpAny_bind (wpAny_storeSet_of ko kd0 ?_ (fits_of_scanBound kb1))
  have ko1 := store_at (es' := fs1) (t' := tb2) ko kd0
  have sbb1 := Heap.SameBut.update s.heap a (Obj.putSet fs1 tb2)
  split
  · have pmm := relayAll_perm tb2 fs1 (SetTable.grown fs1.size)
    have kf3 := relayAll_fits tb2 fs1 (SetTable.grown fs1.size)
    have kr3 := relayAll_ris tb2 fs1 (SetTable.grown fs1.size)
    have kl3 := relayAll_led tb2 fs1 (SetTable.grown fs1.size)
    generalize relayAll tb2 fs1 (SetTable.grown fs1.size) = Z0 at pmm kf3 kr3 kl3 ⊢
    obtain ⟨fs2, tb3, gv0⟩ := Z0
    dsimp only at pmm kf3 kr3 kl3 ⊢
    have ksz : fs2.size = fs1.size := by rw [← Array.length_toList, pmm.length_eq, Array.length_toList]
    have kb2 : fs2.size < scanBound := by rw [ksz]; exact kb1
    refine wpAny_bind (kg _ _ _ ?_)
    refine wpAny_bind (wpAny_storeSet_of ko1 rfl ?_ (fits_of_scanBound kb2))
    have ko2 := store_at (es' := fs2) (t' := tb3) ko1 rfl
    refine wpAny_pure (kR _ (sbb1.trans (Heap.SameBut.update _ a _)) ?_)
    exact ⟨_, fs2, _, tb3, ko2, kex, rfl, fun e he => gg1 e (pmm.mem_iff.mp he), (pmm.map keyS).nodup_iff.mpr ndd1, fun k => (mm1 k).trans (pmm.map keyS).mem_iff.symm, kb2, kf3, ksz, kr3,
      kl.imp id fun z => by rw [kl3]; exact z⟩
  · exact wpAny_pure (kR _ sbb1 ⟨_, fs1, _, tb2, ko1, kex, rfl, gg1, ndd1, mm1, kb1, kf2, rfl, kr, kl⟩)

theorem setS_add {k : Str} {tk : Tok} {Q : Bool → Shared → Prop} (Rr : SetS P w s.heap a S n) (rm0 : n + 1 < scanBound)
    (kQ : ∀ h', Heap.SameBut a s.heap h' → SetS P w h' a (fun j => S j || decide (j = k)) (if S k = true then n else n + 1) → Q (!S k) { s with heap := h' }) :
    wpAny (model P w) A (setAddHashed a (.str k tk) ((PySem.strKind P w).hash k)) Q E s := by
  obtain ⟨o, es, ep, t, ko, kex, kd0, g, nd, km, kb, kf, kn, kr, kl⟩ := Rr
  have kkey : (PySem.strKind P w).is k (.str k tk) = true := strKind_is P w k tk
  have ksc : (Value.str k tk).scannable = true := rfl
  have kel : ElemsOf (PySem.strKind P w) es.toList := goodS_elems g
  unfold setAddHashed setAddHashedIn
  refine wpAny_holding (wpAny_bind (wpAny_setState_of ko kd0 kf ?_))
  dsimp only
  rw [byScan_of ksc kb kel]
  simp only [↓reduceIte]
  unfold setAddByScan
  refine wpAny_bind ?_
  refine wpAny_bind (wpAny_rule ?_)
  refine wpAny_bind (wpAny_setScan_of kkey ko kd0 kf kel ?_)
  cases kfi : List.findIdx? (fun e => (PySem.strKind P w).is k e.2) es.toList with
  | some j =>
    dsimp only
    obtain ⟨kj, ppj, _⟩ := List.findIdx?_eq_some_iff_getElem.mp kfi
    have kSk : S k = true := (km k).2 ((goodS_mem g k).2 ⟨es.toList[j], List.getElem_mem kj, ppj⟩)
    refine wpAny_pure (wpAny_pure ?_)
    have q := kQ s.heap (Heap.SameBut.refl a s.heap) ⟨o, es, ep, t, ko, kex, kd0, g, nd, fun i => by
      rw [Bool.or_eq_true, decide_eq_true_eq, ← km i]
      exact ⟨fun z => z.elim id (fun e => e ▸ kSk), .inl⟩, kb, kf, by rw [if_pos kSk]; exact kn, kr, kl⟩
    rw [kSk] at q
    exact q
  | none =>
    dsimp only
    have knk : k ∉ es.toList.map keyS := fun z => by
      obtain ⟨e, he, q⟩ := (goodS_mem g k).1 z
      have c := List.findIdx?_eq_none_iff.mp kfi e he
      rw [q] at c
      cases c
    have kSk : S k = false := by
      cases q : S k with
      | false => rfl
      | true => exact absurd ((km k).1 q) knk
    have kgw : ∀ (b : Bool) {s₁ : Shared} {Q' : Unit → Shared → Prop}, Q' () s₁ → wpAny (model P w) A (match b with | true => rule "set.scan.the-table-gave-way" | false => pure ()) Q' E s₁ :=
      fun b s₁ Q' q => by cases b <;> first | exact wpAny_pure q | exact wpAny_rule q
    have pmm := layNew_perm t es ((PySem.strKind P w).hash k) (.str k tk)
    have kf1 := layNew_fits t es ((PySem.strKind P w).hash k) (.str k tk)
    have kr1 := layNew_ris t es ((PySem.strKind P w).hash k) (.str k tk) kr
    have kl1 := layNew_led t es ((PySem.strKind P w).hash k) (.str k tk)
    generalize layNew t es ((PySem.strKind P w).hash k) (.str k tk) = Z0 at pmm kf1 kr1 kl1 ⊢
    obtain ⟨fs1, tb1, wd0, gv0⟩ := Z0
    dsimp only at pmm kf1 kr1 kl1 ⊢
    rw [Array.toList_push] at pmm
    have pcc : fs1.toList.Perm (((PySem.strKind P w).hash k, Value.str k tk) :: es.toList) := pmm.trans (List.perm_append_singleton _ _)
    have pkk : (fs1.toList.map keyS).Perm (k :: es.toList.map keyS) := pcc.map keyS
    have gg1 : ∀ e ∈ fs1.toList, GoodS P w e := fun e he => by
      rcases List.mem_cons.mp (pcc.mem_iff.mp he) with z | z
      · rw [z]; exact ⟨k, tk, rfl, rfl⟩
      · exact g e z
    have ndd1 : (fs1.toList.map keyS).Nodup := pkk.nodup_iff.mpr (List.nodup_cons.mpr ⟨knk, nd⟩)
    have mm1 : ∀ i, (S i || decide (i = k)) = true ↔ i ∈ fs1.toList.map keyS := fun i => by
      rw [Bool.or_eq_true, decide_eq_true_eq, km i, pkk.mem_iff, List.mem_cons]
      exact Or.comm
    have ksz : fs1.size = n + 1 := by rw [← Array.length_toList, pcc.length_eq, List.length_cons, Array.length_toList, kn]
    have kb1 : fs1.size < scanBound := by rw [ksz]; exact rm0
    have kled : w.params.followText "set-order" = true ∨ tb1.led = true := kl.imp id fun z => by rw [kl1]; exact z
    have fn0 : ∀ h', Heap.SameBut a s.heap h' → SetS P w h' a (fun j => S j || decide (j = k)) fs1.size → Q true { s with heap := h' } := fun h' sbb r => by
      have q := kQ h' sbb
      rw [kSk] at q
      rw [ksz] at r
      exact q r
    refine wpAny_bind (kgw _ ?_)
    split
    · refine wpAny_bind ?_
      rw [hashByValue_scannable 8 ksc]
      refine wpAny_pure ?_
      refine setS_tail ?_ ko kex kd0 gg1 ndd1 mm1 kb1 ?_ ?_ ?_ ?_
      · intro b s₁ Q' q; cases b <;> first | exact wpAny_pure q | exact wpAny_rule q
      · first | (split <;> first | exact kf1 | exact SetTable.fits_plain_off kf1) | exact kf1
      · first | (split <;> exact kr1) | exact kr1
      · first | (split <;> exact kled) | exact kled
      · intro h' sbb r; dsimp only; exact wpAny_pure (fn0 h' sbb r)
    · refine wpAny_bind (wpAny_pure ?_)
      simp only [↓reduceIte]
      refine setS_tail ?_ ko kex kd0 gg1 ndd1 mm1 kb1 kf1 kr1 kled ?_
      · intro b s₁ Q' q; cases b <;> first | exact wpAny_pure q | exact wpAny_rule q
      · intro h' sbb r; dsimp only; exact wpAny_pure (fn0 h' sbb r)


end
section
variable {prog : Program} {w : World} {A : Around} {R : Result → Shared → Prop}
/-- set.update's loop over a list of texts -/
theorem texts_loop {it l q : Addr} {h0 : Heap} {xs : List Str} {items : Array Value} (hh : A.in1.handled = none) (hqi : q < it) (hil : it ≠ l) (hql : l ≠ q) (hsz : xs.length = items.size) (h20 : xs.length ≤ 20) {s0 : Shared} (hval : ∀ (i : Nat) (v : Value), items[i]? = some v → ∃ t, v = .str (xs.getD i Str.empty) t)
    (fin : ∀ (s : Shared), (∃ n, n ≤ xs.length ∧ SetS prog w s.heap q (fun z => decide (z ∈ xs)) n) → (∀ b o, h0.get? b = some o → s.heap.get? b = some o) → (s.gens = s0.gens ∧ s.drawn = s0.drawn ∧ s.os = s0.os) → R (.ok (.ret .none)) s) (hqn : h0.get? q = none) (hin : h0.get? it = none) :
    ∀ (k i : Nat) (s : Shared), items.size - i = k → i ≤ items.size → s.heap.IsListIter it l i → s.heap.IsList l items → (∃ n, n ≤ i ∧ SetS prog w s.heap q (fun z => decide (z ∈ xs.take i)) n) → (∀ b o, h0.get? b = some o → s.heap.get? b = some o) → (s.gens = s0.gens ∧ s.drawn = s0.drawn ∧ s.os = s0.os) →
      codeAny (model prog w) A (.builtin "set.update.loop" ⟨[.ref q, .ref it], []⟩) R s := by
  have keep : ∀ {h h' : Heap}, (∀ b o, b ≠ it → h.get? b = some o → h'.get? b = some o) → (∀ b o, h0.get? b = some o → h.get? b = some o) → ∀ b o, h0.get? b = some o → h'.get? b = some o := fun a b x o e => a x o (by rintro rfl; rw [hin] at e; cases e) (b x o e)
  intro k
  induction k with
  | zero =>
    intro i s hk hi hit hl ⟨n, hn, hS⟩ h0s h3
    have ei : i = items.size := by omega
    refine codeAny_builtin PyProof.Rows.F.entry_set_update_loop ?_
    rw [Around.under_plainId PyProof.Rows.F.plain_set_update_loop _]
    show wpAny _ A.in1 (pyNext (.ref it) >>= _) _ _ s
    refine wpAny_bind (wpAny_pyNext_list_end hh hit hl (Array.getElem?_eq_none (by omega)) fun h' he => ?_)
    show wpAny _ A.in1 (ret Value.none) _ _ _
    refine wpAny_pure (fin _ ⟨n, by omega, (hS.at fun o e => he q o (Nat.ne_of_lt hqi) e).congr fun z => ?_⟩ (keep (fun b o hb e => he b o hb e) h0s) h3)
    rw [ei, ← hsz, List.take_length]
  | succ k ih =>
    intro i s hk hi hit hl ⟨n, hn, hS⟩ h0s h3
    have lt : i < items.size := by omega
    have hv : items[i]? = some items[i] := Array.getElem?_eq_getElem lt
    obtain ⟨t, et⟩ := hval i _ hv
    rw [et] at hv
    refine codeAny_builtin PyProof.Rows.F.entry_set_update_loop ?_
    rw [Around.under_plainId PyProof.Rows.F.plain_set_update_loop _]
    show wpAny _ A.in1 (pyNext (.ref it) >>= _) _ _ s
    refine wpAny_bind (wpAny_pyNext_list_item hit hl hv fun h' hit' sb' => ?_)
    have hS' := hS.at fun o e => (sb'.2 q (Nat.ne_of_lt hqi)).trans e
    have hl' := hl.extBut sb'.extBut hil.symm
    have h0' := keep (fun b o hb e => (sb'.2 b hb).trans e) h0s
    show wpAny _ A.in1 (holding [Value.str (xs.getD i Str.empty) t] (setAdd q (.str (xs.getD i Str.empty) t)) >>= _) _ _ _
    refine wpAny_bind (wpAny_holding ?_)
    unfold setAdd
    refine wpAny_holding ?_
    refine wpAny_bind ((PySem.strKind prog w).pyHash (k := xs.getD i Str.empty) (strKind_is _ _ _ _) ?_)
    refine setS_add (s := { s with heap := h', toks := s.toks + 1 }) hS' (show n + 1 < scanBound by unfold scanBound; omega) fun h2 sb2 hS2 => ?_
    have lx : i < xs.length := by omega
    refine wpAny_pure ⟨plainId_quiet PyProof.Rows.F.plain_set_update_loop _, ih (i + 1) _ (by omega) lt (hit'.at fun o e => (sb2.2 it (Nat.ne_of_gt hqi)).trans e) (hl'.extBut sb2.extBut hql) ⟨_, ?_, hS2.congr fun z => ?_⟩ (fun b o e => (sb2.2 b (by rintro rfl; rw [hqn] at e; cases e)).trans (h0' b o e)) h3⟩
    · split <;> omega
    · have tk : xs.take (i + 1) = xs.take i ++ [xs[i]] := by rw [List.take_add_one, List.getElem?_eq_getElem lx]; rfl
      have gd : xs.getD i Str.empty = xs[i] := by rw [List.getD_eq_getElem?_getD, List.getElem?_eq_getElem lx]; rfl
      rw [tk, gd, ← Bool.decide_or]
      exact decide_eq_decide.mpr (by rw [List.mem_append, List.mem_singleton])
end
section
variable {prog : Program} {w : World} {A : Around} {E : Value → Shared → Prop} {s : Shared}
set_option maxHeartbeats 8000000 in
theorem set_of_texts {l : Addr} {items : Array Value} {xs : List Str} {Q : Value → Shared → Prop}
    (hh : A.handled = none) (hl : s.heap.IsList l items) (hi : StrsAre items.toList xs) (hn1 : xs.length ≤ 20)
    (h : ∀ (h' : Heap) (tk : Nat), (∃ n, n ≤ xs.length ∧ SetS prog w h' s.heap.objs.size (fun z => decide (z ∈ xs)) n) →
      (∀ b o, b < s.heap.objs.size → s.heap.get? b = some o → h'.get? b = some o) → Q (.ref s.heap.objs.size) { s with heap := h', toks := tk }) :
    wpAny (model prog w) A (call (.type "set") [.ref l]) Q E s := by
  obtain ⟨c0, tl0, gmro⟩ := PySem.F.called_set.mro
  have gmade := PySem.F.called_set.made
  have gsub := PySem.F.called_set.sub
  refine wpAny_call (codeAny_of_tree ?_)
  show wpAny _ _ (callAny (.type "set") _) _ _ _
  refine wpAny_pure ⟨Code.quiet_builtin _ (by decide +kernel), codeAny_builtin PySem.F.entry_type_call ?_⟩
  rw [Around.under_plain (weight_type_call_type "set" [.ref l] []) rfl]
  have kk1 := PySem.F.called_set.notType
  have kk2 := PySem.F.called_set.canCreate
  have gct := PySem.F.typeCall_set_1 (.ref l)
  repeat (any_goals (first | assumption | wp_step))

  refine codeAny_mono (code_set_led1 (P := prog) (.ref l) (E := E) (Q₁ := fun ob0 sA => ob0 = .ref s.heap.objs.size ∧ sA = { s with heap := s.heap.push (freshSet w) }) ⟨rfl, rfl⟩) fun r sA gr => ?_
  cases r with
  | error e => exact gr
  | ok fl0 =>
    cases fl0 with
    | ret ob0 =>
      obtain ⟨rfl, rfl⟩ := gr
      have gS : (s.heap.push (freshSet w)).get? s.heap.objs.size = some (freshSet w) := Heap.get?_push_size _ rfl
      have gT : Shared.TypeIs { s with heap := s.heap.push (freshSet w) } (.ref s.heap.objs.size) "set" := ⟨_, gS, rfl⟩
      have gli := PySem.F.called_set.init.lookup
      have gbi := PySem.F.called_set.init.bind (.ref s.heap.objs.size)
      repeat (any_goals (first | assumption | wp_step))

      refine codeAny_mono (codeAny_call_builtin (R := wants (fun r sB => r = .none ∧ ∃ h' tk, sB = { s with heap := h', toks := tk } ∧
          (∃ n, n ≤ xs.length ∧ SetS prog w h' s.heap.objs.size (fun z => decide (z ∈ xs)) n) ∧
          (∀ b o, b < s.heap.objs.size → s.heap.get? b = some o → h'.get? b = some o)) E) PySem.F.called_set.init.plain PySem.F.entry_set_init (check_set_init_1 gT ?_)) fun r₂ sB gr₂ => ?_
      · obtain ⟨ol0, gol, gcl, nl0, gdl⟩ := hl
        obtain ⟨oc0, od0, oa0, os0⟩ := ol0
        simp only at gcl gdl
        subst gcl; subst gdl
        have gol1 : (s.heap.push (freshSet w)).get? l = some { cls := .type "list", dict := od0, data := .seq items nl0, slots := os0 } := Heap.get?_push_of_some _ gol
        have gsls := PySem.F.sub_list_set
        have gslf := PySem.F.sub_list_frozenset
        have gne : (Value.type "list" == Value.type "dict") = false := by decide
        have gl1 : (s.heap.push (freshSet w)).IsList l items := ⟨_, gol1, rfl, nl0, rfl⟩
        unfold Builtin.«set.__init__» noKeywords Builtin.Frozenset.updateFrom
        generalize gPI : pyIter = PI0
        wp_walk
        subst gPI

        refine wpAny_pyIter_list gl1 ?_
        refine wpAny_bind (wpAny_runValue ?_)
        have glS : l < s.heap.objs.size := Heap.lt_size gol
        have gh3 : A.in1.in1.in1.handled = none := by simp [hh]
        have gneI : l ≠ (s.heap.push (freshSet w)).objs.size := by
          rw [Heap.size_push]; exact Nat.ne_of_lt (Nat.lt_succ_of_lt glS)
        have gSf : s.heap.objs.size ∉ [(s.heap.push (freshSet w)).objs.size, l] := by
          rw [Heap.size_push]; simp only [List.mem_cons, List.mem_singleton, List.not_mem_nil, or_false, not_or]
          exact ⟨Nat.ne_of_lt (Nat.lt_succ_self _), Nat.ne_of_gt glS⟩
        have gsz : xs.length = items.size := by rw [← StrsAre.len_eq hi, Array.length_toList]
        have gval : ∀ (i : Nat) (v : Value), items[i]? = some v → ∃ t, v = .str (xs.getD i Str.empty) t := fun i v hv => SS.strs_at hi i v (by rw [Array.getElem?_toList]; exact hv)
        refine texts_loop (prog := prog) (w := w) (q := s.heap.objs.size) (h0 := s.heap) (xs := xs) (items := items) gh3 (Nat.lt_of_lt_of_le (Nat.lt_succ_self _) (Nat.le_of_eq (Heap.size_push ..).symm)) gneI.symm (Ne.symm (Nat.ne_of_gt glS)) gsz hn1 gval (s0 := s) (fun sE sS sK sG => by
            obtain ⟨eh, eg, ed, et, eo⟩ := sE
            obtain ⟨z1, z2, z3⟩ := sG
            dsimp only at z1 z2 z3
            subst z1; subst z2; subst z3
            show wpAny _ _ _ _ _ _
            refine wpAny_pure ?_
            show wpAny _ _ (ret Value.none) _ _ _
            exact wpAny_pure ⟨rfl, eh, et, rfl, sS, fun b o _ e => sK b o e⟩) (Heap.get?_none_of_le (Nat.le_refl _)) (Heap.get?_none_of_le (Nat.le_trans (Nat.le_succ _) (Nat.le_of_eq (Heap.size_push ..).symm))) items.size 0 _ (by omega) (Nat.zero_le _) ⟨_, Heap.get?_push_size _ rfl, rfl, rfl⟩ (gl1.push _) ⟨0, Nat.le_refl _, (setS_fresh gS).at fun o e => Heap.get?_push_of_some _ e⟩ (fun b o e => Heap.get?_push_of_some _ (Heap.get?_push_of_some _ e)) ⟨rfl, rfl, rfl⟩
      · cases r₂ with
        | error e => exact gr₂
        | ok fl2 =>
          cases fl2 with
          | ret r =>
            obtain ⟨rfl, h', tk, rfl, gS1, gk1⟩ := gr₂
            repeat (any_goals (first | assumption | wp_step))
            exact h _ _ gS1 gk1
          | _ => exact gr₂.elim
    | _ => exact gr.elim

end
end L2.K4
end
section
set_option Elab.async false
set_option linter.all false
set_option maxRecDepth 100000
set_option maxHeartbeats 4000000
/-! set(texts), sorted(set of texts). -/
namespace L2.K4
open PySem PySem.Spec PyProof.Rows L2 PySem.W
def SetTx (P : Program) (w : World) (a : Addr) (S : Str → Bool) (n : Nat) : HO := .ext fun h => SetS P w h a S n
theorem setTx_ok {P : Program} {w : World} {H : Hp} {h : Heap} {a : Addr} {S : Str → Bool} {n : Nat} (R : SetS P w h a S n) : ObjOk P w H h a (SetTx P w a S n) := ⟨R, let ⟨o, _, _, _, ho, _⟩ := R; ⟨o, ho⟩, fun h1 h2 p k => SetS.at p k⟩
/-- the text of a value -/
def bkS (v : Value) : Str := match v with | .str k _ => k | _ => Str.empty
def Tx (v : Value) (z : Str) : Prop := ∃ t, v = .str z t
theorem each_tx : ∀ {vs : List Value}, (∀ v ∈ vs, ∃ z t, v = Value.str z t) → EachIs Tx vs (vs.map bkS)
  | [], _ => .nil
  | v :: vs, h => by
    obtain ⟨z, t, rfl⟩ := h v List.mem_cons_self
    exact .cons ⟨t, rfl⟩ (each_tx fun v hv => h v (List.mem_cons_of_mem _ hv))
theorem tx_vals : ∀ {vs : List Value} {zs : List Str}, EachIs Tx vs zs → Vals (zs.map V.str) vs
  | _, _, .nil => .nil
  | _, _, .cons h t => .cons h (tx_vals t)
section
variable {X : Cx}
def rSetTx (P : Program) (w : World) (K : PySem.W.Frag) : List V → Hp → VK → Prop := fun vs H Q => ∃ (l : Addr) (xs : List Str), vs = [.ref l] ∧ SqL K H l (xs.map V.str) ∧ xs.length ≤ 20 ∧ ∀ p n, n ≤ xs.length → H p = none → Q (.ref p) (upd H p (SetTx P w p (fun z => decide (z ∈ xs)) n))
theorem cr_setTx (hc : X.calm = true) : CallR X (.type "set") (rSetTx X.prog X.w X.K) := by
  intro pins s σ H vs us Q I r h
  obtain ⟨l, xs, rfl, hl, h20, q⟩ := h
  rw [Vals.ref1 r]
  obtain ⟨its, rv, pl, hz⟩ := I.list hl
  refine set_of_texts (I.ok.hd hc) pl.isList (by simpa using strsAre_of rv) h20 fun h' tk ⟨n, hn, hS⟩ hk => ?_
  exact ⟨.ref s.heap.objs.size, _, I.laid (t' := tk) (fun b o e => hk b o (Heap.lt_size e) e) (Nat.le_refl _) (setTx_ok hS), rfl, q _ n hn (I.hok.fresh (Nat.le_refl _))⟩
def rSortTx (P : Program) (w : World) : List V → Hp → VK → Prop := fun vs H Q => ∃ (a : Addr) (S : Str → Bool) (n : Nat), vs = [.ref a] ∧ H a = some (SetTx P w a S n) ∧ n ≤ 20 ∧ ∀ (p : Addr) (zs : List Str), H p = none → (∀ z ∈ zs, S z = true) → zs.length = n → Q (.ref p) (upd H p (.lst (zs.map V.str)))
theorem cr_sortTx (hc : X.calm = true) (hu : X.A.units + 10 < cLine) : CallR X (.builtin "sorted") (rSortTx X.prog X.w) := by
  intro pins s σ H vs us Q I r h
  obtain ⟨a, S, n, rfl, ha, h20, q⟩ := h
  rw [Vals.ref1 r]
  obtain ⟨o, es, ep, t, ho, hex, hd, g, nd, hm, hb, hf, hn, hr, hl⟩ := (I.hok a _ ha).1
  refine Calls.call_function_entry PyProof.Rows.kind_sorted PyProof.Rows.plain_sorted PyProof.Rows.entry_sorted (PyProof.Rows.args_sorted1 _) ?_
  unfold Builtin.«sorted»
  refine wpAny_bind (m := checkCount "sorted" 1 1 _) (wpAny_pure ?_)
  refine wpAny_bind (collect_set (A := X.A.in1) (I.ok.hd hc) ⟨o, ho, hex.1, hd⟩ hf hb hr hl fun s1 vs k1 hz g1 o1 pm => ?_)
  have hvl : vs.length = n := by rw [pm.length_eq, List.length_map, Array.length_toList]; exact hn
  have J : Inv X pins σ H { s with heap := s1.heap, gens := s1.gens, drawn := s1.drawn, toks := s1.toks } :=
    I.call (ch := []) (Un.kept k1) (I.hok.kept k1) (by rw [g1]; exact I.bare) (fun _ z => nomatch z)
  have es1 : s1 = { s with heap := s1.heap, gens := s1.gens, drawn := s1.drawn, toks := s1.toks } := by
    cases s1
    cases s
    cases o1
    rfl
  rw [← es1] at J
  have hall : ∀ v ∈ vs, ∃ z t, v = Value.str z t ∧ S z = true := fun v hv => by
    obtain ⟨e, he, rfl⟩ := List.mem_map.mp (pm.mem_iff.mp hv)
    obtain ⟨k, tk, h1, _⟩ := g e he
    exact ⟨k, tk, h1, (hm k).mpr (List.mem_map.mpr ⟨e, he, by unfold keyS; rw [h1]⟩)⟩
  have e := each_tx fun v hv => let ⟨z, t, h, _⟩ := hall v hv; ⟨z, t, h⟩
  have hbk : ∀ z ∈ vs.map bkS, S z = true := fun z hz => by
    obtain ⟨v, hv, rfl⟩ := List.mem_map.mp hz
    obtain ⟨k, t, rfl, hk⟩ := hall v hv
    exact hk
  have lb : (vs.map bkS).length = n := by rw [List.length_map, hvl]
  generalize vs.map bkS = zs at e hbk lb
  refine wpAny_bind (wpAny_newList ?_ (by rw [hvl, sizeLine_eq]; omega))
  have hoL : (s1.heap.push (seqObj "list" vs.toArray 0)).get? s1.heap.objs.size = some (seqObj "list" vs.toArray 0) := Heap.get?_push_size _ rfl
  show wpAny _ _ _ _ _ { s1 with heap := s1.heap.push (seqObj "list" vs.toArray 0) }
  refine wpAny_bind (wpAny_holding (list_sort_data (s := { s1 with heap := s1.heap.push (seqObj "list" vs.toArray 0) }) (bs := zs) (R := Tx) (enc := fun z => .str z) hoL e (e.mono fun v b hR => ?_)
    (AllAlike.of fun b b' => by simp [alike]) (Sortable.others fun b => ⟨by simp, by simp⟩) (by rw [lb, sizeLine_eq]; omega) (fun b hb => ?_) fun out _ eo => ?_))
  · obtain ⟨t, rfl⟩ := hR
    exact ⟨[], .str _ _, by simp⟩
  · show X.A.units + 1 + 1 + PyData.depth (.str b) < cLine
    simp only [PyData.depth]
    omega
  · obtain ⟨cc, hD⟩ := PyProof.Rows.sortedHeap_at (vs := vs) (out := List.toArray out) hoL
    have fresh : H s1.heap.objs.size = none := J.hok.fresh (Nat.le_refl _)
    have pz := List.mergeSort_perm zs (dataLe false fun z : Str => .str z)
    refine wpAny_pure ⟨_, rfl, .ref s1.heap.objs.size, _, J.laid (t' := s1.toks) (o := .lst _) (fun b u z => ?_) (Nat.le_refl _) ⟨?_, out, cc, tx_vals eo, hD⟩, rfl, q _ _ fresh (fun z hz => hbk z (pz.mem_iff.mp hz)) (by rw [pz.length_eq, lb])⟩
    · have hb : b < s1.heap.objs.size := Heap.lt_size z
      rw [PyProof.Rows.sortedHeap_old (Nat.ne_of_lt hb) (by rw [size_push']; exact Nat.lt_succ_of_lt hb)]
      exact Heap.get?_push_of_some _ z
    · rw [List.length_map, pz.length_eq, lb, sizeLine_eq]; omega
end
end L2.K4
end
section
set_option Elab.async false
set_option linter.all false
set_option maxRecDepth 100000
set_option maxHeartbeats 4000000
/-! The faces of a web are its flips, each once. -/
namespace L2.K4
open PySem PySem.Spec PyProof.Rows L2
theorem pls_nodup (W : K34.Web) : (webPls W).Nodup := by
  unfold webPls plsN
  refine List.Pairwise.filter _ (List.pairwise_flatMap.mpr ⟨fun i _ => ?_, ?_⟩)
  · rw [List.pairwise_map]
    exact List.pairwise_lt_range.imp fun {a b} h e => by injection e with _ e; omega
  · refine List.pairwise_lt_range.imp fun {a b} h x hx y hy e => ?_
    obtain ⟨i, _, rfl⟩ := List.mem_map.mp hx
    obtain ⟨j, _, rfl⟩ := List.mem_map.mp hy
    injection e with e _
    omega
theorem wst_nodup (W : K34.Web) (p : Pl) : (W.wst p).Nodup := by
  unfold K34.Web.wst
  refine List.Pairwise.filter _ ?_
  unfold K34.cand
  simp
theorem steps_nodup {α : Type} {w : List α} (h : w.Nodup) : (K34.steps w).Nodup := by
  have e : (K34.steps w).map Prod.snd = w.tail := by
    unfold K34.steps
    rw [List.map_snd_zip (by rw [List.length_tail]; omega)]
  have h2 : ((K34.steps w).map Prod.snd).Nodup := by rw [e]; exact h.sublist (List.tail_sublist w)
  exact List.Pairwise.of_map Prod.snd (fun a b hne q => hne (congrArg Prod.snd q)) h2
theorem fcOf_heads {W : K34.Web} {b x y : Pl} (h : (x, y) ∈ K34.steps (W.wst b)) : (fcOf W b x y).1.head? = some b ∧ (fcOf W b x y).1.tail.head? = some x ∧ (fcOf W b x y).2.tail.head? = some y := by
  have T := (fcOf_ok h).tr
  obtain ⟨t, ht⟩ := T.hu
  obtain ⟨s, hs⟩ := T.hl
  rw [ht, hs]
  exact ⟨rfl, rfl, rfl⟩
theorem faces_nodup (W : K34.Web) : (facesOf W).Nodup := by
  unfold facesOf
  refine List.pairwise_flatMap.mpr ⟨fun b _ => ?_, ?_⟩
  · unfold stF
    rw [List.pairwise_map]
    refine (steps_nodup (wst_nodup W b)).imp_of_mem fun {s s'} hs hs' hne e => hne ?_
    obtain ⟨_, a2, a3⟩ := fcOf_heads (W := W) (b := b) (x := s.1) (y := s.2) hs
    obtain ⟨_, b2, b3⟩ := fcOf_heads (W := W) (b := b) (x := s'.1) (y := s'.2) hs'
    rw [e] at a2 a3
    exact Prod.ext (Option.some.inj (a2.symm.trans b2)) (Option.some.inj (a3.symm.trans b3))
  · refine (pls_nodup W).imp fun {b b'} hne f hf g hg e => hne ?_
    unfold stF at hf hg
    obtain ⟨s, hs, rfl⟩ := List.mem_map.mp hf
    obtain ⟨s', hs', rfl⟩ := List.mem_map.mp hg
    have a1 := (fcOf_heads (W := W) (b := b) (x := s.1) (y := s.2) hs).1
    have b1 := (fcOf_heads (W := W) (b := b') (x := s'.1) (y := s'.2) hs').1
    rw [e] at a1
    exact Option.some.inj (a1.symm.trans b1)
section
variable {W : K34.Web} {Ls : List Wy} (hL : ∀ y, y ∈ Ls ↔ K34.Ch W.net (0, 0) (W.m, W.n) y)
include hL
theorem faces_flips (f : Fc) : f ∈ facesOf W ↔ K34.IsFlip Ls f := by
  rw [mem_faces]
  constructor
  · rintro ⟨b, x, y, hb, hs, rfl⟩
    exact K34.face_flip hL (fcOf_ok hs)
  · intro h
    obtain ⟨b, x, y, hb, hs, e⟩ := K34.flip_face hL h (fcOf W) fun b x y h => fcOf_ok h
    exact ⟨b, x, y, hb, hs, e⟩
theorem fp_parts {y z : Wy} (hy : y ∈ Ls) (hz : z ∈ Ls) (h : FP Ls y z) : ∃ U L, K34.Parts y z U L := by
  obtain ⟨b, x, y', U, L, _, _, hP, _⟩ := K34.flip_parts hL hy hz h.1 h.2 (fcOf W) fun b x y h => fcOf_ok h
  exact ⟨U, L, hP⟩
theorem ahead_passed {w : Wy} (hw : w ∈ Ls) {f g : Fc} (hf : f ∈ facesOf W) (hg : g ∈ facesOf W) (s : ∃ z, z ∈ K34.steps f.1 ∧ z ∈ K34.steps g.2) (h : K34.passed w f = true) : K34.passed w g = true := by
  obtain ⟨b, x, y, hb, hs, rfl⟩ := mem_faces.mp hf
  obtain ⟨b', x', y', hb', hs', rfl⟩ := mem_faces.mp hg
  exact K34.passed_ahead hL hw (fcOf_ok hs) (fcOf_ok hs') s h
/-- the two lists hold the same faces -/
theorem same_faces {gs fs : List Fc} (hg : gs.Perm (facesOf W)) (hn : fs.Nodup) (hf : ∀ f, f ∈ fs ↔ K34.IsFlip Ls f) : gs.Perm fs := by
  refine (List.perm_ext_iff_of_nodup (hg.nodup_iff.mpr (faces_nodup W)) hn).mpr fun f => ?_
  rw [hg.mem_iff, faces_flips hL, hf]
end
end L2.K4
end
section
set_option Elab.async false
set_option linter.all false
set_option maxRecDepth 100000
set_option maxHeartbeats 4000000
/-! The law's defs: one cell. -/
namespace L2.K4
open PySem PySem.Spec PyProof.Rows L2
theorem pot_ne {H : Hp} {p o : Addr} {ls : List Str} (h : PotAt H p) (ho : H o = some (.lst (ls.map V.str))) : o ≠ p := by
  rintro rfl
  obtain ⟨x, y, hx, _⟩ := h
  rw [hx] at ho
  have e := Option.some.inj ho
  injection e with e
  cases ls with
  | nil => cases e
  | cons z ls => injection e with e1 _; cases e1
theorem says_of {K : PySem.W.Frag} {H : Hp} {kvs : List (Key × V)} (h : OwnsOk K H kvs) (a b : Int) : ∃ gc cc, Says K H kvs a b gc cc := by
  have q : ∀ z : Str, ∃ q : Int × Int, (valV kvs (Sum.inr z) = none ∧ q = (a, b)) ∨ ∃ u, valV kvs (Sum.inr z) = some (.ref u) ∧ SqT K H u [.int q.1, .int q.2] := fun z => by
    cases e : valV kvs (Sum.inr z) with
    | none => exact ⟨(a, b), .inl ⟨rfl, rfl⟩⟩
    | some v =>
      obtain ⟨z', u, x, y, e1, _, hu, _⟩ := h.2 _ (valV_memK e)
      cases e1
      exact ⟨(x, y), .inr ⟨u, rfl, hu⟩⟩
  refine ⟨fun z => (q z).choose.1, fun z => (q z).choose.2, fun z _ => ?_⟩
  rcases (q z).choose_spec with ⟨q1, q2⟩ | ⟨u, q1, q2⟩
  · exact .inl ⟨q1, congrArg Prod.fst q2, congrArg Prod.snd q2⟩
  · exact .inr ⟨u, q1, q2⟩
theorem mk_ex {H H' : Hp} {x dx : Addr} {o : HO} (hx : H x = none) (hd : H dx = none) (k : KD x (upd (upd H dx (.own x)) x o) H') : Ex H H' := fun a u h => k a u (ne_of_none h hx) (((Ex.laid hd).mut hx) a u h)
theorem FacesA.rows {P : Program} {w : World} {K : PySem.W.Frag} {H : Hp} {p : Addr} {gs : List Fc} (h : FacesA P w K H p gs) : ∃ R xs, IsRows K H p R xs ∧ AtL K H (gs.map fcK) xs ∧ xs.length = gs.length := by
  obtain ⟨dx, wp, R, N, A, B, G, L, rs, hh⟩ := h
  obtain ⟨xs, h1, h2⟩ := hh.rows
  exact ⟨R, xs, ⟨dx, _, hh.at_, rfl, h1⟩, h2, by rw [AtL.length h2, List.length_map]⟩
theorem IsRows.ex {K : PySem.W.Frag} {H H' : Hp} {a R : Addr} {xs : List V} (h : IsRows K H a R xs) (e : Ex H H') : IsRows K H' a R xs := let ⟨dx, fs, h1, h2, h3⟩ := h; ⟨dx, fs, e _ _ h1, h2, e _ _ h3⟩
theorem fcs_ok (gs : List Fc) : ∀ k ∈ gs.map fcK, numK k = true ∧ k.depth ≤ 8 := fun k hk => by
  obtain ⟨f, _, rfl⟩ := List.mem_map.mp hk
  refine ⟨?_, fcK_d8 f⟩
  show numK (.tup [wyK f.1, wyK f.2]) = true
  have h1 := numK_wy f.1
  have h2 := numK_wy f.2
  simp [numK, numKs, h1, h2]
section
variable {P : Program} {w : World} {K : PySem.W.Frag} {mg : Str → Option Value} {base : Heap}
abbrev NR : List Str := ["_law_pot_here", "_law_old", "_law_new", "_law_known", "_law_least_here", "_law_told", "_law_way", "_law_passed_here", "_law_face", "_law_one"]
def spRight : Sp := fun vs H Q _ => ∃ p, vs = [.ref p] ∧ PotAt H p ∧ ∀ H', KD p H H' → Q (.bl true) H'
theorem ok_law_right (c : Cf K mg) : Kp P w K mg base 12 (He.ga K "_law_right") spRight := by
  obtain ⟨fd, F⟩ := F__law_right c
  have nd : NR.Nodup := by decide +kernel
  refine kp_of F (N := NR) (ps := ["_law_pot_here"]) ⟨rfl, rfl, rfl, nd, rfl, by decide +kernel, by decide +kernel⟩ (F.bindsN fun _ _ _ _ _ _ us hl => match us, hl with | [_], _ => rfl) (fun vs H Q E h => ?_) (fun cdv A outer s H vs Q E hr h => ?_)
  · obtain ⟨p, rfl, _⟩ := h; rfl
  · obtain ⟨p, rfl, hp, k⟩ := h
    have clF := c.cls "Faces" (by decide +kernel)
    have clW := c.cls "Web" (by decide +kernel)
    have clC := c.cls "Costs" (by decide +kernel)
    have hu10 : (A.deeper (envOfC "_law_right" (defScope s_law_right) s.heap.objs.size (He.ga K "_law_right") cdv)).units + 10 < cLine := by have := hr.units; omega
    refine ⟨_, pss_cons (ps_asg (pe_cal c (ok_law_texts c) hr (pa_cons (pv 0) (pa_cons pe_int pa_nil))) (pg_tup (by rfl) (pgs_cons (pg_name (i := 1) nd rfl (.inl rfl)) (pgs_cons (pg_name (i := 2) nd rfl (.inl rfl)) pgs_nil))))
      (pss_cons (ps_set (i := 3) nd rfl (.inl rfl) (pe_cal c (ok_law_weights c) hr (pa_cons (pv 0) (pa_cons (pe_callB (cr_sortTx rfl hu10) (by rfl) (c.free "sorted" (by decide +kernel)) (by decide +kernel) (pa_cons (pe_callTy (cr_setTx rfl) (by rfl) (c.free "set" (by decide +kernel)) (by decide +kernel) (pa_cons (pe_op op_cat (pv 1) (pv 2)) pa_nil)) pa_nil)) pa_nil))))
      (pss_cons (ps_set (i := 4) nd rfl (.inl rfl) (pe_cal c (ok_law_least c) hr (pa_cons (pv 1) (pa_cons (pv 2) (pa_cons (pv 3) pa_nil)))))
      (pss_cons (ps_if (pt_cmpR op_gt (pe_callB call_len_seq (by rfl) (c.free "len" (by decide +kernel)) PySem.boot_len (pa_cons (pv 4) pa_nil)) pe_int (nomark _)) (pss_one (ps_ret pe_bl)) pss_nil)
      (pss_cons (ps_set (i := 5) nd rfl (.inl rfl) (StX.pe_makeR clF.2 (ok_faces_init c) (hr.mono (by decide)) (by rfl) (c.glo "Faces" (by decide +kernel)).1 pass0 (pa_cons (StX.pe_makeR clW.2 (ok_web_init c) (hr.mono (by decide)) (by rfl) (c.glo "Web" (by decide +kernel)).1 pass0 (pa_cons (pv 1) (pa_cons (pv 2) (pa_cons
          (StX.pe_makeR clC.2 (ok_costs_init c) (hr.mono (by decide)) (by rfl) (c.glo "Costs" (by decide +kernel)).1 pass0 (pa_cons (pe_ix ix_tup (pe_ix ix_tup (pv 3) pe_int (fun _ _ => rfl)) pe_int (fun _ _ => rfl)) (pa_cons (pe_ix ix_tup (pe_ix ix_tup (pv 3) pe_int (fun _ _ => rfl)) pe_int (fun _ _ => rfl)) (pa_cons (pe_ix ix_tup (pv 3) pe_int (fun _ _ => rfl)) pa_nil)))) pa_nil)))) pa_nil)))
      (pss_cons (ps_if (PW.pt (pw_or (pt_cmpR (op_neLA hr.units) (pe_callB (cr_sortObj c rfl (hr.mono (by decide))) (by rfl) (c.free "sorted" (by decide +kernel)) (by decide +kernel) (pa_cons (pv 5) pa_nil)) (pe_callB (cr_sortN rfl hr.units) (by rfl) (c.free "sorted" (by decide +kernel)) (by decide +kernel) (pa_cons (pe_cal c (ok_law_flips c) hr (pa_cons (pv 4) pa_nil)) pa_nil)) (nomark _))
          (pw_or1 (pt_cmpR op_ne (pe_callB (cr_lenObj c (hr.mono (by decide))) (by rfl) (c.free "len" (by decide +kernel)) PySem.boot_len (pa_cons (pv 5) pa_nil)) (pe_callB call_len_seq (by rfl) (c.free "len" (by decide +kernel)) PySem.boot_len (pa_cons (pe_callTy (cr_listObj c rfl (hr.mono (by decide))) (by rfl) (c.free "list" (by decide +kernel)) (by decide +kernel) (pa_cons (pv 5) pa_nil)) pa_nil)) (nomark _))))) (pss_one (ps_ret pe_bl)) pss_nil)
      (pss_cons (ps_for PassesOwn.never rfl (pi_list (pv 4)) (pg_name (i := 6) nd rfl (.inl rfl))
        (pss_cons (ps_set (i := 7) nd rfl (.inr rfl) (pe_cal c (ok_law_passed c) hr (pa_cons (pv 6) (pa_cons (pe_callTy (cr_listObj c rfl (hr.mono (by decide))) (by rfl) (c.free "list" (by decide +kernel)) (by decide +kernel) (pa_cons (pv 5) pa_nil)) pa_nil))))
        (pss_one (ps_for PassesOwn.never rfl (pi_list (pv 7)) (pg_name (i := 8) nd rfl (.inl rfl))
          (pss_one (ps_if (pt_not (pt_val (pe_callB (cr_all rfl) (by rfl) (c.free "all" (by decide +kernel)) (by decide +kernel) (pa_cons (pe_lc (own := [("_law_one", 9)]) (g := gName 9) (tt := tYes) (te := tOp (rInA K false) (tVar 9) (tVar 7)) rfl nd (pi_list (pe_met c (C := "Faces") (ok_directly_ahead c) hr (pv 5) (pa_cons (pv 8) pa_nil))) (blkOk_by (N := NR) (sc := defScope s_law_right) (by decide +kernel)) (fun _ _ _ _ _ => pg_name (i := 9) nd rfl (Or.inl rfl)) (fun _ _ _ _ _ => pts_nil)
            (fun _ _ _ _ _ => pe_cmpR (op_inA hr.units) (pv 9) (pv 7) (by rfl))) pa_nil)))) (pss_one (ps_ret pe_bl)) pss_nil))))))
      (pss_one (ps_ret pe_bl)))))))), ?_⟩
    refine ⟨_, rfl, p, rfl, hp, fun H1 t o n ls ms d1 ht ho hls hn hms => ⟨t, _, rfl, .inl (.inl ht), rfl, _, _, rfl, _, _, rfl, rfl, ?_⟩⟩
    have no := pot_ne d1.pot ho
    have nn := pot_ne d1.pot hn
    have l1 := hls.1
    have l2 := hms.1
    -- the weights
    refine ⟨_, rfl, _, rfl, _, rfl, o, n, _, _, rfl, rfl, ho, hn, Nat.le_trans (show _ ≤ 8 by rw [List.length_map, List.length_map]; omega) (by decide), fun c1 hc1 => ?_⟩
    have e1 := Ex.laid (o := .lst (ls.map V.str ++ ms.map V.str)) hc1
    refine ⟨c1, ls ++ ms, rfl, .inl (.inl (by rw [List.map_append]; exact upd_same)), by rw [List.length_append]; omega, fun sp m hm hsp => ?_⟩
    have e2 := Ex.laid (o := SetTx P w sp (fun z => decide (z ∈ ls ++ ms)) m) hsp
    rw [List.length_append] at hm
    refine ⟨sp, _, m, rfl, upd_same, by omega, fun c2 zs hc2 hz hzl => ?_⟩
    have e3 := Ex.laid (o := .lst (zs.map V.str)) hc2
    have d2 := (d1.ex e1).ex e2
    have d3 := d2.ex e3
    refine ⟨p, c2, zs, rfl, d3.pot, upd_same, d2.pot.ne hc2, fun z h => ?_, by omega, fun H2 t2 T d kvs g0 c0 d4 ht2 hT rg rc hd ok h10 => ?_⟩
    · have := of_decide_eq_true (hz z h)
      rcases List.mem_append.mp this with q | q
      · exact hls.2 z q
      · exact hms.2 z q
    have ho2 := d4.kd _ _ no (((e1.trans e2).trans e3) _ _ ho)
    have hn2 := d4.kd _ _ nn (((e1.trans e2).trans e3) _ _ hn)
    have D2 := d3.go d4.kd d4.pot
    obtain ⟨gc, cc, hs⟩ := says_of ok g0 c0
    have hK : KnAt K H2 t2 gc cc := ⟨T, d, .inl (.inl ht2), kvs, g0, c0, hT, hd, hs⟩
    clear ht ho hn hz hzl hm e1 e2 e3 d1 d2 d3 d4
    -- the least ways
    refine ⟨_, rfl, _, rfl, _, rfl, o, n, t2, ls, ms, gc, cc, rfl, .inl (.inl ho2), hls, .inl (.inl hn2), hms, hK, fun H4 l4 xs Ls e4 hl40 hl4 ax hW => ?_⟩
    have lx : xs.length = Ls.length := by rw [AtL.length ax, List.length_map]
    have hm4 : (K34.dweb ls ms gc cc).m ≤ 4 := l1
    have hn4 : (K34.dweb ls ms gc cc).n ≤ 4 := l2
    obtain ⟨hW1, hL⟩ := hW
    have hLok : ∀ y ∈ Ls, y ≠ [] ∧ y.length ≤ 100 := fun y hy => by
      have g := K34.Ch.gc ((hL y).mp hy)
      have q := g.len
      obtain ⟨tt, ht⟩ := g.head
      have : y.length ≤ 9 := by
        dsimp only at q
        omega
      exact ⟨by rw [ht]; simp, by omega⟩
    refine ⟨_, rfl, l4, _, rfl, .inl (.inl (.inl hl4)), _, _, rfl, rfl, _, rfl, ?_⟩
    have K4 : ∀ {H'}, Ex H4 H' → KD p H H' := fun e => D2.kd.trans (KD.ex (e4.trans e))
    by_cases h30 : (30 : Int) < (xs.length : Nat)
    · exact iteP (decide_eq_true h30) (k _ (K4 Ex.refl))
    refine iteN (decide_eq_false h30) ?_
    have hd4 := e4 _ _ hd
    have ok4 := ok.keep (Ex.tk e4)
    have hs4 := hs.keep (Ex.tk e4)
    generalize hWd : K34.dweb ls ms gc cc = W at hL hm4 hn4
    -- costs, web, faces
    refine ⟨_, rfl, _, rfl, _, rfl, t2, _, _, _, rfl, rfl, .inl (.inl (e4 _ _ ht2)), atI_nat (j := 0) rfl, T, _, _, _, rfl, rfl, ext' e4 hT, atI_nat (xs := [V.int g0, V.int c0]) (j := 0) rfl, _, rfl, t2, _, _, _, rfl, rfl, .inl (.inl (e4 _ _ ht2)), atI_nat (j := 0) rfl, T, _, _, _, rfl, rfl, ext' e4 hT, atI_nat (xs := [V.int g0, V.int c0]) (j := 1) rfl, _, rfl, t2, _, _, _, rfl, rfl, .inl (.inl (e4 _ _ ht2)), atI_nat (j := 1) rfl, fun cp cdx hc1 hc2 hc3 => ?_⟩
    have x1 := (Ex.laid (o := .own cp) hc2).mut (o := .ins (He.ga K "Costs") cdx []) hc1
    refine ⟨cp, cdx, g0, c0, d, kvs, gc, cc, rfl, upd_same, rg, rc, x1 _ _ hd4, ok4.keep (Ex.tk x1), h10, hs4.keep (Ex.tk x1), fun H5 kd5 ca => ⟨rfl, fun wp wdx hw1 hw2 hw3 => ?_⟩⟩
    have e5 := mk_ex hc1 hc2 kd5
    have x2 := (Ex.laid (o := .own wp) hw2).mut (o := .ins (He.ga K "Web") wdx []) hw1
    refine ⟨wp, wdx, o, n, cp, ls, ms, gc, cc, rfl, upd_same, .inl (.inl ((e4.trans (e5.trans x2)) _ _ ho2)), hls, .inl (.inl ((e4.trans (e5.trans x2)) _ _ hn2)), hms, ca.ex x2, fun H6 kd6 wa => ⟨rfl, fun fp fdx hf1 hf2 hf3 => ?_⟩⟩
    rw [hWd] at wa
    have e6 := mk_ex hw1 hw2 kd6
    have x3 := (Ex.laid (o := .own fp) hf2).mut (o := .ins (He.ga K "Faces") fdx []) hf1
    refine ⟨fp, fdx, wp, W, rfl, upd_same, wa.ex x3, hm4, hn4, fun H7 gs kd7 perm fa => ⟨rfl, ?_⟩⟩
    have e7 := mk_ex hf1 hf2 kd7
    have e47 := (e5.trans e6).trans e7
    have hl7 := e47 _ _ hl4
    have ax7 := AtL.keep (Ex.tk e47) _ _ ax
    obtain ⟨R, ys, ir, ay, ly⟩ := fa.rows
    have hgs : gs.length ≤ 1000 := by
      rw [perm.length_eq]
      unfold facesOf
      have h1 := pls_len hm4 hn4
      have h2 : ((webPls W).flatMap (stF W)).length ≤ 3 * (webPls W).length := by
        generalize webPls W = ps
        induction ps with
        | nil => exact Nat.zero_le _
        | cons q ps ih =>
          rw [List.flatMap_cons, List.length_append, List.length_cons]
          have := stF_len W q
          omega
      omega
    have hgok : ∀ f ∈ gs, f ∈ facesOf W ∧ f.1.length ≤ 100 ∧ f.2.length ≤ 100 ∧ f.2 ≠ [] := fun f hf => by
      have hf' := perm.mem_iff.mp hf
      obtain ⟨q1, q2, q3⟩ := face_ok hm4 hn4 hf'
      obtain ⟨b, x, y, _, hst, rfl⟩ := mem_faces.mp hf'
      obtain ⟨tt, hh⟩ := (fcOf_ok hst).tr.hl
      exact ⟨hf', by have := q2.1; omega, by have := q3.1; omega, by rw [hh]; simp⟩
    -- the two lists
    refine ⟨_, rfl, fp, R, ys, gs, rfl, ir, ay, hgs, fun H8 p1 y1 g1 e8 pm1 pw1 at1 hp10 hp1 => ?_⟩
    refine ⟨_, rfl, l4, Ls, xs, rfl, e8 _ _ hl7, AtL.keep (Ex.tk e8) _ _ ax7, by omega, hLok, fun y hy z hz h => fp_parts hL hy hz h, fun H9 d9 kvs9 e9 hd90 nd9 kf9 l9 => ?_⟩
    obtain ⟨fs, hk1, hk2, hk3⟩ := kf9
    have lfs : fs.length ≤ 1000 := by
      have := congrArg List.length hk1
      rw [List.length_map, List.length_map] at this
      omega
    refine ⟨d9, kvs9, fs, rfl, nd9, hk1, lfs, fun p2 y2 g2 pm2 pw2 at2 hp2 => ?_⟩
    have e10 := Ex.laid (o := .lst y2) hp2
    have eg : g1 = g2 := sorted_eq ((pm1.trans (same_faces hL perm hk2 hk3)).trans pm2.symm) pw1 pw2
    subst eg
    have e810 := e9.trans e10
    refine ⟨p1, p2, y1, y2, g1.map fcK, g1.map fcK, rfl, rfl, .inl (.inl (e810 _ _ hp1)), .inl (.inl upd_same), AtL.keep (Ex.tk e810) _ _ at1, AtL.keep (Ex.tk e10) _ _ at2, fcs_ok _, fcs_ok _, _, rfl, ?_⟩
    refine iteN (by simp) ?_
    have E := e8.trans e810
    have irE := ir.ex E
    have lys : ys.length ≤ 1000 := by omega
    refine ⟨_, rfl, fp, R, ys, rfl, irE, lys, _, rfl, fp, R, ys, rfl, irE, lys, fun q hq => ⟨q, _, rfl, .inl (.inl (.inl upd_same)), rfl, _, rfl, iteN (by simp) ?_⟩⟩
    have e11 := Ex.laid (o := .lst ys) hq
    have E2 := E.trans e11
    generalize upd _ q (.lst ys) = HB at e11 E2
    have hlB := E2 _ _ hl7
    refine ⟨_, rfl, l4, rfl, ⟨_, .inl (.inl hlB)⟩, ?_⟩
    refine forG (n := xs.length) (Y := fun i x _ => xs[i]? = some x)
      (fun i σ' H' => (∃ o6 o7 o8, σ' = [some (.ref p), some (.ref o), some (.ref n), some (.ref t2), some (.ref l4), some (.ref fp), o6, o7, o8, none]) ∧ Ex HB H')
      ⟨⟨none, none, none, rfl⟩, Ex.refl⟩ (fun i σ' H' _ q => sw_list (.inl (.inl (q.2 _ _ hlB)))) (fun i x σ' H' H'' hi q ex hxi => ?_) fun σ' H' q => ?_
    · obtain ⟨⟨o6, o7, o8, rfl⟩, e⟩ := q
      have e' := E2.trans (e.trans ex)
      obtain ⟨ky, k1, k2⟩ := AtL.get (AtL.keep (Ex.tk e') _ _ ax7) hxi
      rw [List.getElem?_map] at k1
      obtain ⟨y, hy, rfl⟩ := Option.map_eq_some_iff.mp k1
      have my := List.mem_of_getElem? hy
      obtain ⟨y1', y2'⟩ := hLok y my
      refine ⟨_, rfl, _, rfl, fp, R, ys, rfl, ir.ex e', lys, fun q hq => ?_⟩
      have f1 := Ex.laid (o := .lst ys) hq
      refine ⟨x, q, y, gs, ys, rfl, At.keep (Ex.tk f1) _ _ k2, y1', y2', upd_same, AtL.keep (Ex.tk (e'.trans f1)) _ _ ay, ⟨hgs, fun f hf => let ⟨_, _, a, b⟩ := hgok f hf; ⟨b, a⟩⟩, fun HC lp zs f2 hlp0 hlp az => ?_⟩
      have eC := (e'.trans f1).trans f2
      have lz : zs.length = (gs.filter (K34.passed y)).length := by rw [AtL.length az, List.length_map]
      refine ⟨_, rfl, lp, rfl, ⟨_, .inl (.inl hlp)⟩, ?_⟩
      refine forG (n := zs.length) (Y := fun i x _ => zs[i]? = some x)
        (fun j σ' H' => (∃ o8, σ' = [some (.ref p), some (.ref o), some (.ref n), some (.ref t2), some (.ref l4), some (.ref fp), some x, some (.ref lp), o8, none]) ∧ Ex HC H')
        ⟨⟨_, rfl⟩, Ex.refl⟩ (fun j σ' H' _ q => sw_list (.inl (.inl (q.2 _ _ hlp)))) (fun j v σ' HD HE hj q ex2 hv => ?_) fun σ' HD q => ?_
      · obtain ⟨⟨o8, rfl⟩, eD⟩ := q
        have eE := eD.trans ex2
        have eAll := eC.trans eE
        obtain ⟨kf, k3, k4⟩ := AtL.get (AtL.keep (Ex.tk eE) _ _ az) hv
        rw [List.getElem?_map] at k3
        obtain ⟨f, hf, rfl⟩ := Option.map_eq_some_iff.mp k3
        obtain ⟨mf, pf⟩ := List.mem_filter.mp (List.mem_of_getElem? hf)
        obtain ⟨g1', g2', g3', g4'⟩ := hgok f mf
        have faE := fa.ex eAll
        obtain ⟨dx', wp', R', N', A', B', G', L', rs', hh⟩ := id faE
        refine ⟨_, rfl, fp, _, _, rfl, hh.at_, rfl, _, rfl, fp, v, gs, f, rfl, faE, k4, mf, g2', g3', fun HF l2' xs2 hs2 f3 hl20 hl2 at2' len12 hmem => ⟨l2', rfl, ⟨_, .inl (.inl hl2)⟩, fun DD hDD => ?_⟩⟩
        have lxs2 : xs2.length = hs2.length := by rw [AtL.length at2', List.length_map]
        refine lcG (n := xs2.length) (Y := fun i x _ => xs2[i]? = some x) hDD (fun _ => some (V.bl true)) IsV IsV.mono (by rw [lxs2]; exact Nat.lt_of_le_of_lt len12 (by decide)) (fun H' e => sw_list (.inl (.inl (e _ _ hl2)))) (fun m u HG zs' hm eG hu hDl Q2 q2 => ?_) fun HG bs eG hbs hpp => ?_
        · obtain ⟨kg, k5, k6⟩ := AtL.get (AtL.keep (Ex.tk eG) _ _ at2') hu
          rw [List.getElem?_map] at k5
          obtain ⟨g, hg, rfl⟩ := Option.map_eq_some_iff.mp k5
          obtain ⟨mg', sh⟩ := hmem g (List.mem_of_getElem? hg)
          have pg := ahead_passed hL my g1' (hgok g mg').1 sh pf
          have ein := (eE.trans f3).trans eG
          refine ⟨rfl, _, rfl, _, rfl, lp, zs, (gs.filter (K34.passed y)).map fcK, fcK g, rfl, .inl (.inl (ein _ _ hlp)), AtL.keep (Ex.tk ein) _ _ az, k6, Nat.le_trans (fcK_d8 g) (by decide), q2 (some _) HG Ex.refl ?_⟩
          have : decide (fcK g ∈ (gs.filter (K34.passed y)).map fcK) = true := decide_eq_true (List.mem_map.mpr ⟨g, List.mem_filter.mpr ⟨mg', pg⟩, rfl⟩)
          show IsV DD (V.bl true) _ HG
          exact congrArg V.bl this
        · rw [IsV.all hpp, made_const] at hbs
          refine ⟨DD, List.replicate xs2.length true, rfl, .inl (.inl (by rw [hbs, List.map_replicate])), ⟨_, rfl, ?_⟩⟩
          have : (List.replicate xs2.length true).all id = true := by simp
          rw [this]
          exact iteF ⟨⟨_, rfl⟩, (eE.trans f3).trans eG⟩
      · obtain ⟨⟨o8, rfl⟩, eD⟩ := q
        exact ⟨⟨_, _, _, rfl⟩, (((e.trans ex).trans f1).trans f2).trans eD⟩
    · obtain ⟨⟨o6, o7, o8, rfl⟩, e⟩ := q
      exact k _ (K4 ((e47.trans E2).trans e))
end
end L2.K4
end
section
set_option Elab.async false
set_option linter.all false
set_option maxRecDepth 100000
set_option maxHeartbeats 4000000
/-! The law. -/
namespace L2.K4
open PySem PySem.Spec PyProof.Rows L2
section
variable {P : Program} {w : World} {K : PySem.W.Frag} {mg : Str → Option Value} {base : Heap}
def spLaw (K : PySem.W.Frag) : Sp := fun vs H Q _ => ∃ (a : Addr) (ns : List Int), vs = [.ref a] ∧ SqL K H a (ns.map V.int) ∧ ns.length ≤ sizeLine ∧ ∀ H', Q (.bl true) H'
theorem ok_law (c : Cf K mg) {fd : FuncData} (F : FunD K "law" "law" (defArgs s_law) (defBody s_law) (defScope s_law) [] [] (He.ga K "law") fd) : FnOk P w K mg base CX0 14 (He.ga K "law") fd ["_law_script"] (spLaw K) := by
  have nd : (["_law_script", "_law_k"] : List Str).Nodup := by decide +kernel
  refine F.ok (N := ["_law_script", "_law_k"]) ⟨rfl, rfl, rfl, nd, rfl, by decide +kernel, by decide +kernel⟩ (fun vs H Q E h => ?_) (fun cdv A outer s H vs Q E hr h => ?_)
  · obtain ⟨a, ns, rfl, _⟩ := h; rfl
  · obtain ⟨a, ns, rfl, ha, hl, k⟩ := h
    refine ⟨_, PSs.nox (pss_one (ps_ret (pe_callB (cr_all rfl) (by rfl) (c.free "all" (by decide +kernel)) (by decide +kernel) (pa_cons (pe_lc (own := [("_law_k", 1)]) (g := gName 1) (tt := tYes) (te := tCal spRight (tCons (tCal (spPot K) (tCons (tVar 0) (tCons (tVar 1) tNil))) tNil)) rfl nd
      (pi_range1 (by rfl) (c.free "range" (by decide +kernel)) (pa_cons (pe_callB (call_max2 rfl) (by rfl) (c.free "max" (by decide +kernel)) (by decide +kernel) (pa_cons pe_int (pa_cons (pe_callB (call_min2 rfl) (by rfl) (c.free "min" (by decide +kernel)) (by decide +kernel) (pa_cons pe_int (pa_cons (pe_callB call_len_seq (by rfl) (c.free "len" (by decide +kernel)) PySem.boot_len (pa_cons (pv 0) pa_nil)) pa_nil))) pa_nil))) pa_nil)) (blkOk_by (N := ["_law_script", "_law_k"]) (sc := defScope s_law) (by decide +kernel)) (fun _ _ _ _ _ => pg_name (i := 1) nd rfl (Or.inl rfl)) (fun _ _ _ _ _ => pts_nil)
      (fun _ _ _ _ _ => pe_cal c (ok_law_right c) hr (pa_cons (pe_cal c (ok_law_pot c) hr (pa_cons (pv 0) (pa_cons (pv 1) pa_nil))) pa_nil))) pa_nil)))), ?_⟩
    refine ⟨_, rfl, a, _, rfl, .inl ha, _, _, rfl, _, _, rfl, ?_⟩
    generalize hv : (if (if (((ns.map V.int).length : Nat) : Int) < 3 then (((ns.map V.int).length : Nat) : Int) else 3) > 1 then (if (((ns.map V.int).length : Nat) : Int) < 3 then (((ns.map V.int).length : Nat) : Int) else 3) else 1) = v
    have hv3 : 0 ≤ v ∧ v ≤ 3 := by
      rw [← hv]
      split <;> split <;> omega
    refine ⟨v, rfl, by omega, by omega, fun D hD => ?_⟩
    refine lcG (n := v.toNat) (Y := fun i x _ => x = .int (0 + i)) hD (fun _ => some (V.bl true)) IsV IsV.mono (Nat.lt_of_le_of_lt (show _ ≤ 3 by omega) (by decide)) (fun _ _ => sw_range) (fun i x H1 zs hi e1 hx hDl Q2 q2 => ?_) fun H2 ys e2 h2 hpp => ?_
    · obtain rfl : x = .int (i : Nat) := by rw [hx, Int.zero_add]
      exact ⟨rfl, _, rfl, _, rfl, a, ns, i, rfl, exl e1 ha, by omega, fun H2 p e2 hp0 pot => ⟨p, rfl, pot, fun H3 kd => q2 (some (.bl true)) H3 (fun y o h => kd y o (ne_of_none h hp0) (e2 y o h)) rfl⟩⟩
    · rw [IsV.all hpp, made_const] at h2
      refine ⟨D, List.replicate v.toNat true, rfl, .inl (.inl (by rw [h2, List.map_replicate])), ?_⟩
      have : (List.replicate v.toNat true).all id = true := by simp
      rw [this]
      exact k H2
end
end L2.K4
end
section
set_option Elab.async false
set_option linter.all false
set_option maxRecDepth 100000
set_option maxHeartbeats 4000000
/-! The head: the facts by names. -/
namespace L2.K4
open PySem PySem.Spec PyProof.Rows L2
theorem dvs_plain : dfs.all (fun d => d.dvs.all fun v => match v with | .int _ => true | .non => true | _ => false) = true := by decide +kernel
theorem toDv_v (K : PySem.W.Frag) : ∀ {vs : List V}, vs.all (fun v => match v with | .int _ => true | .non => true | _ => false) = true → (vs.map toDv).map (He.Dv.v K) = vs
  | [], _ => rfl
  | v :: vs, h => by
    rw [List.all_cons, Bool.and_eq_true] at h
    have ih := toDv_v K h.2
    rw [List.map_cons, List.map_cons, ih]
    congr 1
    cases v with
    | int i => rfl
    | non => rfl
    | _ => exact absurd h.1 (by simp)
theorem fun_of {K : PySem.W.Frag} {d : He.DefD} {g : Addr} (hg : fnG K g = d.val) (hk : PySem.W.keepIn K (.ref g) = true) (hc : (match K.lookup g with
    | some ⟨_, _, .func f, _⟩ => PySem.W.codeIn K f.code d.qual && (He.dflB K f.defaults [] && He.kwdB K f.kwdefaults [])
    | _ => false) = true) : ∃ fd, FunD K d.name d.qual d.params d.body d.scope [] [] g fd := by
  unfold fnG at hg
  cases lk : K.lookup g with
  | none => rw [lk] at hg; cases hg
  | some o =>
    rcases o with ⟨o1, o2, dt, o4⟩
    rw [lk] at hg hc
    cases dt with
    | func f =>
      rcases f with ⟨a1, a2, a3, a4, a5, a6, a7, a8, a9, a10, a11, a12, a13, a14, a15⟩
      have z : (some (a1, a2, a3, a4, a5, a6, a7, a15) : He.FnW) = some (d.name, d.qual, d.params, .stmts d.body, d.scope, mainGlobals, [], builtinsNs) := hg
      injection z with z
      injection z with z1 z; injection z with z2 z; injection z with z3 z; injection z with z4 z; injection z with z5 z; injection z with z6 z; injection z with z7 z8
      subst z1 z2 z3 z4 z5 z6 z7 z8
      obtain ⟨c1, c⟩ := He.ba hc
      obtain ⟨c2, c3⟩ := He.ba c
      exact ⟨_, ⟨o1, o2, a8, a9, a10, a11, a12, a13, a14, o4, rfl, lk, c1, He.dflB_ok c2, He.kwdB_ok c3⟩, hk⟩
    | _ => cases hg
theorem cf_of {K : PySem.W.Frag} {h : Heap} {mg : Str → Option Value} (X : K.In h) (G : h.Ns mainGlobals mg) (e : obsK K = valK) : Cf K mg := by
  have c : He.SaysD faD fnD K := congrArg (fun z : AlP => z.1) e
  have b : ((exMost K && exTy K) && prD.all fun d => isProp K d && fnOk K d) = true := congrArg (fun z : AlP => z.2.1) e
  have l : (prD.map fun d => fnG K (prG K d)) = prD.map He.DefD.val := congrArg (fun z : AlP => z.2.2) e
  obtain ⟨b1, b2⟩ := He.ba b
  obtain ⟨b3, b4⟩ := He.ba b1
  have m1 : ∀ x ∈ glos, He.Fa.glo x ∈ faD := fun x hx => List.mem_append_left _ (List.mem_map.mpr ⟨x, hx, rfl⟩)
  have m2 : ∀ x ∈ glos, He.Fa.keep x ∈ faD := fun x hx => List.mem_append_right _ (List.mem_append_left _ (List.mem_map.mpr ⟨x, hx, rfl⟩))
  have m3 : ∀ x ∈ frees, He.Fa.free x ∈ faD := fun x hx => List.mem_append_right _ (List.mem_append_right _ (List.mem_append_left _ (List.mem_map.mpr ⟨x, hx, rfl⟩)))
  have m4 : He.Fa.int "MOST" 60 ∈ faD := List.mem_append_right _ (List.mem_append_right _ (List.mem_append_right _ (List.mem_append_left _ (List.mem_singleton.mpr rfl))))
  have m5 : ∀ x ∈ clss, He.Fa.cls x ∈ faD := fun x hx => List.mem_append_right _ (List.mem_append_right _ (List.mem_append_right _ (List.mem_append_right _ (List.mem_append_left _ (List.mem_map.mpr ⟨x, hx, rfl⟩)))))
  have m6 : ∀ x ∈ clss, He.Fa.mkr x ∈ faD := fun x hx => List.mem_append_right _ (List.mem_append_right _ (List.mem_append_right _ (List.mem_append_right _ (List.mem_append_right _ (List.mem_append_left _ (List.mem_map.mpr ⟨x, hx, rfl⟩))))))
  have m7 : ∀ p ∈ meths, He.Fa.meth p.1 p.2 ∈ faD := fun p hp => List.mem_append_right _ (List.mem_append_right _ (List.mem_append_right _ (List.mem_append_right _ (List.mem_append_right _ (List.mem_append_right _ (List.mem_append_left _ (List.mem_map.mpr ⟨p, hp, rfl⟩)))))))
  have m8 : ∀ p ∈ noats, He.Fa.noat p.1 p.2 ∈ faD := fun p hp => List.mem_append_right _ (List.mem_append_right _ (List.mem_append_right _ (List.mem_append_right _ (List.mem_append_right _ (List.mem_append_right _ (List.mem_append_right _ (List.mem_map.mpr ⟨p, hp, rfl⟩)))))))
  refine ⟨fun x hx => He.free_ok X G (c.facts (m3 x hx)), fun x hx => ⟨He.glo_ok X G (c.facts (m1 x hx)), He.keep_ok (c.facts (m2 x hx))⟩, He.int_ok X G (c.facts m4), fun x hx => ⟨He.cls_ok (c.facts (m5 x hx)), He.mkr_ok (c.facts (m6 x hx))⟩, fun p hp => He.meth_ok (c.facts (m7 p hp)), fun p hp => He.noat_ok (c.facts (m8 p hp)), fun i d hd => ?_, ?_, ?_, fun i d hd => ?_⟩
  · obtain ⟨fd, F⟩ := c.defs (d := d.toD) (List.mem_map.mpr ⟨d, List.mem_of_getElem? hd, rfl⟩)
    have ev : d.toD.dvs K = d.dvs := toDv_v K (List.all_eq_true.mp dvs_plain d (List.mem_of_getElem? hd))
    rw [ev] at F
    exact ⟨fd, F⟩
  · obtain ⟨c1, q⟩ := He.ba b3
    obtain ⟨c2, c3⟩ := He.ba q
    cases ef : PySem.W.findCls K (.ref (He.ga K "Costs")) (.type "type") "MOST" with
    | none => rw [ef] at c3; cases c3
    | some r =>
      rw [ef] at c3
      cases r with
      | val u =>
        cases u with
        | int i t =>
          have : i = 999999 := of_decide_eq_true c3
          subst this
          exact ⟨.type "type", .int 999999 t, ⟨c1, He.eqO_ok c2⟩, ⟨ef, ⟨t, rfl⟩⟩⟩
        | _ => cases c3
      | _ => cases c3
  · obtain ⟨c1, q⟩ := He.ba b4
    obtain ⟨c2, q⟩ := He.ba q
    obtain ⟨c3, q⟩ := He.ba q
    obtain ⟨c4, c5⟩ := He.ba q
    exact ⟨⟨He.eqO_ok c1, He.eqO_ok c2, of_decide_eq_true c3, of_decide_eq_true c4⟩, of_decide_eq_true c5⟩
  · have hm : d.toD ∈ prD := List.mem_map.mpr ⟨d, List.mem_of_getElem? hd, rfl⟩
    obtain ⟨p1, p2⟩ := He.ba (List.all_eq_true.mp b2 _ hm)
    obtain ⟨c1, q⟩ := He.ba p1
    obtain ⟨c2, q⟩ := He.ba q
    obtain ⟨c3, c4⟩ := He.ba q
    obtain ⟨c5, c6⟩ := He.ba p2
    have hv : fnG K (prG K d.toD) = d.toD.val := by
      have hi : prD[i]? = some d.toD := by unfold prD; rw [List.getElem?_map, hd]; rfl
      have q : (prD.map fun d => fnG K (prG K d))[i]? = (prD.map He.DefD.val)[i]? := by rw [l]
      rw [List.getElem?_map, List.getElem?_map, hi] at q
      exact Option.some.inj q
    obtain ⟨fd, F⟩ := fun_of hv c5 c6
    refine ⟨prA K d.toD, prG K d.toD, fd, ⟨He.eqO_ok c1, He.eqO_ok c2, of_decide_eq_true c3, ?_⟩, F⟩
    unfold prG
    cases er : PySem.W.recIn K (prA K d.toD) "property" with
    | none => rw [er] at c4; cases c4
    | some r =>
      rw [er] at c4
      cases r with
      | nil => cases c4
      | cons v r =>
        cases v with
        | ref g => exact ⟨r, rfl⟩
        | _ => cases c4
end L2.K4
end
section
set_option Elab.async false
set_option linter.all false
set_option maxRecDepth 100000
set_option maxHeartbeats 0
/-! The end. -/
namespace L2.K4
open PySem PySem.Spec PyProof.Rows L2
theorem law_fn {P : Program} {w : World} {K : PySem.W.Frag} {h : Heap} {mg : Str → Option Value} {f : Addr} (X : K.In h) (G : h.Ns mainGlobals mg) (hf : mg ("law" : Str) = some (.ref f)) (c : obsK K = valK) :
    ∃ fd : FuncData, (∀ (s : Shared) (v : Value), BindsTo s fd ⟨[v], []⟩ [("_law_script", v)]) ∧ ∀ base : Heap, K.In base → base.Ns mainGlobals mg → FnOk P w K mg base CX0 14 f fd ["_law_script"] (spLaw K) := by
  have cf := cf_of X G c
  obtain ⟨fd, F⟩ := F_law cf
  have e := hf.symm.trans (cf.glo "law" (by decide +kernel)).1
  cases e
  have b := FunD.bindsA (ps := ["_law_script"]) F fun _ _ _ _ _ _ us hl => match us, hl with | [_], _ => rfl
  exact ⟨fd, fun s v => b s [v] rfl, fun base _ _ => ok_law cf F⟩
end L2.K4
open PySem PySem.W PySem.Calls PyProof.Rows
theorem PySem.Challenge.cw_alldiffs_k34_whole_faces_are_flips_holds : PySem.Challenge.rw_alldiffs_k34_whole_faces_are_flips.Holds := by
  w_on; o_law
  refine HandSHeadRun.head_any (r := OpenLaw.row PySem.Challenge.rw_alldiffs_k34_whole_faces_are_flips) (q := view (OpenLaw.row PySem.Challenge.rw_alldiffs_k34_whole_faces_are_flips).prog [70]) (H := L2.K4.hk) (ob := L2.K4.ob) (M := 40000) (loose := L2.K4.lo) (d := HandSHeadRun.topDef (OpenLaw.row PySem.Challenge.rw_alldiffs_k34_whole_faces_are_flips).prog 70) (kwd := []) L2.K4.ob_eq
    (by kernel_rfl) (fun s => by kernel_rfl) L2.K4.run (by kernel_rfl) (by kernel_rfl) (by kernel_rfl) (by rfl) (by first | assumption | decide +kernel) (by decide +kernel) ⟨rfl, rfl, rfl, rfl, rfl, by decide +kernel⟩ ?hw ?hc
  case hw => w_witness2
  case hc =>
    refine L2.walk_ofE (l := PySem.Challenge.rw_alldiffs_k34_whole_faces_are_flips) (n := 63) (k := 14) (x := "_law_script") (CX := L2.CX0) rfl (by decide) (by kernel_rfl) ⟨rfl, by decide, by decide⟩ ?F (fun _ _ _ _ z => z)
    intro w mg fa h Y G hmg0
    obtain ⟨K, KX, c⟩ := Y
    have hmg : mg ("law" : PySem.Str) = some (.ref fa) := by
      have e : (HandSHeadRun.topDef (OpenLaw.row PySem.Challenge.rw_alldiffs_k34_whole_faces_are_flips).prog 70).name = ("law" : PySem.Str) := by kernel_rfl
      rw [← e]
      exact hmg0
    obtain ⟨fd, hb, hF⟩ := L2.K4.law_fn (P := (PySem.Challenge.rw_alldiffs_k34_whole_faces_are_flips).prog) (w := w) KX G hmg c
    exact ⟨K, fd, L2.K4.spLaw K, KX, hb, fun H a ns hl _ hS => ⟨a, ns, rfl, hS, Nat.le_trans hl (by decide), fun _ => rfl⟩, hF⟩
end
