import PyProof.Rows.All
import Wide.All
import OpenK.AllK
import Wide.FinOn
import HandS.ForMost
import HandS.IsInst
import HandS.Deep
import HandS.TupAny
import HandS.Wide
import HandS.More
import HandS.Conv
import KE.SortData
import KE.KDictKeyed
import KE.KeyNested
import PyProof.NeKinds
import HandS.Codes
import HandS.Defaults
import HandS.WideBits
import PySem.Challenge.RW_eachalone_k29_whole_a_pair_is_a_loose_pa
set_option Elab.async false
set_option linter.all false
set_option maxRecDepth 100000
/-! K29 0: rules over the heap that this program needs: dicts whose keys are tuples of truths, sorted of such tuples, == and != with an empty list or tuple. -/
namespace K29
open PySem L2
/-- a row's values -/
abbrev bls (r : List Bool) : List V := r.map V.bl
/-- a row as a key -/
def tkey (r : List Bool) : NestedKey := .tup (r.map fun b => .num (if b = true then 1 else 0))
theorem num_inj : ∀ {a b : Bool}, (NestedKey.num (if a = true then 1 else 0)) = .num (if b = true then 1 else 0) → a = b := by
  intro a b h
  cases a <;> cases b <;> first | rfl | (exfalso; revert h; simp)
theorem tkey_inj {r q : List Bool} (h : tkey r = tkey q) : r = q := by
  unfold tkey at h
  have h' := NestedKey.tup.inj h
  clear h
  induction r generalizing q with
  | nil =>
    cases q with
    | nil => rfl
    | cons y t => exact absurd h' (by simp)
  | cons x s ih =>
    cases q with
    | nil => exact absurd h' (by simp)
    | cons y t =>
      rw [List.map_cons, List.map_cons] at h'
      have h1 := (List.cons.inj h').1
      have h2 := (List.cons.inj h').2
      rw [num_inj h1, ih h2]
theorem depthAll_row : ∀ r : List Bool, NestedKey.depthAll (r.map fun b => NestedKey.num (if b = true then 1 else 0)) = 0
  | [] => by simp [NestedKey.depthAll]
  | b :: r => by
    have ih := depthAll_row r
    rw [List.map_cons]
    simp only [NestedKey.depthAll, NestedKey.depth, ih]
    rfl
theorem depth_tkey (r : List Bool) : (tkey r).depth ≤ 8 := by
  unfold tkey
  simp only [NestedKey.depth, depthAll_row]
  decide
theorem all_row {h : Heap} : ∀ {r : List Bool} {us : List Value}, Vals (bls r) us → NestedAll h (r.map fun b => NestedKey.num (if b = true then 1 else 0)) us
  | [], _, q => by
    cases q
    exact .nil
  | b :: r, _, q => by
    cases q with
    | cons h1 h2 =>
      cases (show _ = Value.bool b from h1)
      exact .cons (.bool rfl) (all_row h2)
/-- a tracked tuple of truths is a key -/
theorem key_is {P : Program} {w : World} {H : Hp} {h : Heap} {a : Addr} {r : List Bool} (ok : HOk P w H h) (e : H a = some (.tup (bls r))) : (nestedKind P w).is h (tkey r) a := by
  obtain ⟨_, its, rv, o, ho, hc, n, hd⟩ := ok a _ e
  exact ⟨.tup ho hc hd (by simpa using all_row rv), depth_tkey r⟩

/-- the entries of a dict: a row, the tuple that is its key, its truth -/
abbrev Ent := List Bool × Addr × Bool
def toH (xs : List Ent) : List (NestedKey × Addr × Value) := xs.map fun x => (tkey x.1, x.2.1, .bool x.2.2)
def bdPhi (P : Program) (w : World) (d : Addr) (xs : List Ent) (h : Heap) : Prop :=
  (d == sysModules) = false ∧ xs.length ≤ 1000 ∧ ∃ o es ep, h.get? d = some o ∧ o.ExactDict ∧ o.data = .dict es ep ∧ es.toList = (toH xs).map (entryOfKey (nestedKind P w)) ∧ ((toH xs).map (·.1)).Nodup
/-- the dict at d -/
def BdO (P : Program) (w : World) (d : Addr) (xs : List Ent) : HO := .ext (bdPhi P w d xs)
theorem bd_ok {P : Program} {w : World} {H : Hp} {h : Heap} {d : Addr} {xs : List Ent} (p : bdPhi P w d xs h) : ObjOk P w H h d (BdO P w d xs) := by
  refine ⟨p, ?_, fun h1 h2 q k => ?_⟩
  · obtain ⟨_, _, o, _, _, e, _⟩ := p
    exact ⟨o, e⟩
  · obtain ⟨a, b, o, es, ep, e, r⟩ := q
    exact ⟨a, b, o, es, ep, k _ e, r⟩
/-- a dict of rows, its keys tracked -/
structure Bd (P : Program) (w : World) (H : Hp) (d : Addr) (xs : List Ent) : Prop where
  ob : H d = some (BdO P w d xs)
  keys : ∀ x ∈ xs, H x.2.1 = some (.tup (bls x.1))
section
variable {P : Program} {w : World} {H H' : Hp} {h : Heap} {d : Addr} {xs : List Ent}
theorem Bd.same (b : Bd P w H d xs) (s : Same H H') : Bd P w H' d xs := ⟨s _ _ b.ob, fun x hx => s _ _ (b.keys x hx)⟩
theorem Bd.dictOf (b : Bd P w H d xs) (ok : HOk P w H h) : (d == sysModules) = false ∧ xs.length ≤ 1000 ∧ h.DictOfH (nestedKind P w) d (toH xs) := by
  obtain ⟨⟨h1, h2, o, es, ep, h3, h4, h5, h6, h7⟩, _, _⟩ := (show ObjOk P w H h d (.ext (bdPhi P w d xs)) from ok d _ b.ob)
  refine ⟨h1, h2, o, es, ep, h3, h4, h5, h6, fun x mx => ?_, h7⟩
  obtain ⟨y, my, rfl⟩ := List.mem_map.mp mx
  exact key_is ok (b.keys y my)
theorem atKey_toH (xs : List Ent) (r : List Bool) : (atKey (toH xs) (tkey r)).isSome = decide (r ∈ xs.map (·.1)) := by
  induction xs with
  | nil => rfl
  | cons x xs ih =>
    by_cases e : x.1 = r
    · subst e
      simp [toH, atKey]
    · have n : ¬ tkey x.1 = tkey r := fun z => e (tkey_inj z)
      have n' : ¬ r = x.1 := fun z => e z.symm
      have ih' : ((toH xs).find? fun y => decide (y.1 = tkey r)).isSome = decide (r ∈ xs.map (·.1)) := by
        rw [← ih]
        unfold atKey
        rw [Option.isSome_map]
      unfold atKey
      rw [Option.isSome_map]
      show (List.find? (fun y => decide (y.1 = tkey r)) ((tkey x.1, x.2.1, Value.bool x.2.2) :: toH xs)).isSome = _
      rw [List.find?_cons_of_neg (by simpa using n), ih', List.map_cons]
      simp [n']
end
section
variable {X : Cx}
/-- row in d -/
def rBIn (X : Cx) : R2 := fun x y H Q => ∃ a d r xs, x = .ref a ∧ y = .ref d ∧ H a = some (.tup (bls r)) ∧ Bd X.prog X.w H d xs ∧ Q (.bl (decide (r ∈ xs.map (·.1)))) H
theorem op_bin (hu : X.A.units + 64 < cLine) : OpR X (compareOp .In) (rBIn X) := by
  rintro pins s σ H x y v u Q I rx ry ⟨a, d, r, xs, rfl, rfl, ha, hd, q⟩
  obtain ⟨rfl, rfl⟩ : v = Value.ref a ∧ u = Value.ref d := ⟨rx, ry⟩
  obtain ⟨h1, h2, h3⟩ := hd.dictOf I.hok
  refine wpAny_in_heap (knd := nestedKind X.prog X.w) (by show X.A.units + 1 + 8 < cLine; omega) (key_is I.hok ha) h1 h3 ?_
  rw [atKey_toH]
  exact ⟨.bl _, H, I.tok _, rfl, q⟩
/-- d[row] = truth, a row that isn't there -/
def rBSet (X : Cx) : TSet := fun o i v H Q => ∃ a d r b xs, o = .ref d ∧ i = .ref a ∧ v = .bl b ∧ H a = some (.tup (bls r)) ∧ Bd X.prog X.w H d xs ∧ r ∉ xs.map (·.1) ∧ xs.length < 1000 ∧ Q (upd H d (BdO X.prog X.w d (xs ++ [(r, a, b)])))
theorem set_bd (hu : X.A.units + 64 < cLine) : PSet X (rBSet X) := by
  rintro pins s σ H o i v ov iv u Q I ro ri rv ⟨a, d, r, b, xs, rfl, rfl, rfl, ha, hd, hn, hl, q⟩
  cases (show ov = Value.ref d from ro)
  cases (show iv = Value.ref a from ri)
  cases (show u = Value.bool b from rv)
  obtain ⟨h1, h2, h3⟩ := hd.dictOf I.hok
  have hz : (toH xs).length ≤ sizeLine := by
    unfold toH
    rw [List.length_map]
    exact Nat.le_of_lt (small1000 h2)
  have hno : atKey (toH xs) (tkey r) = none := by
    have e := atKey_toH xs r
    rw [decide_eq_false hn] at e
    cases q : atKey (toH xs) (tkey r) with
    | none => rfl
    | some z =>
      rw [q] at e
      cases e
  have hne : ∀ b : Addr, H b = none → b ≠ d := fun b n z => by
    rw [z, hd.ob] at n
    cases n
  refine wpAny_setItem_heap (knd := nestedKind X.prog X.w) (by show X.A.units + 1 + 8 < cLine; omega) (key_is I.hok ha) h3 (fun h' hm sb => ?_) hz
  have et : storedH (toH xs) (tkey r) a (.bool b) = toH (xs ++ [(r, a, b)]) := by
    rw [storedH_new hno]
    unfold toH
    rw [List.map_append]
    rfl
  rw [et] at hm
  obtain ⟨o, es, ep, g1, g2, g3, g4, g5, g6⟩ := hm
  refine ⟨_, I.write (x := d) (e := d) (o := BdO X.prog X.w d (xs ++ [(r, a, b)])) (by rw [hd.ob]; exact True.intro) (.inl rfl) (fun b o hb e => (sb.2 b hb).trans e) ⟨o, g1⟩ (bd_ok ⟨h1, ?_, o, es, ep, g1, g2, g3, g4, g6⟩), q⟩
  rw [List.length_append]
  show xs.length + 1 ≤ 1000
  omega
/-- {}, to be such a dict -/
def tDNewB (X : Cx) : TE := fun _ H Q => ∀ p, H p = none → Q (.ref p) (upd H p (BdO X.prog X.w p []))
theorem pe_dnewB {pos : Pos} : PE X (.Dict [] [] pos) (tDNewB X) := ⟨fun pins s σ H Q I h =>
  wpAny_Dict_empty ⟨.ref s.heap.objs.size, _, I.laid (a := s.heap.objs.size) (o := BdO X.prog X.w s.heap.objs.size []) (t' := s.toks) (fun _ _ q => Heap.get?_push_of_some _ q) (Nat.le_refl _)
    (bd_ok ⟨beq_eq_false_iff_ne.mpr (Ne.symm (Nat.ne_of_lt I.big)), Nat.zero_le _, _, #[], 0, Heap.get?_push_size _ rfl, ⟨rfl, rfl, rfl⟩, rfl, rfl, List.nodup_nil⟩), rfl, h _ (I.hok.fresh (Nat.le_refl _))⟩⟩
/-- list(d): the keys' tuples, in order -/
theorem call_list_bd (hc : X.calm = true) : CallR X (.type "list") (fun vs H Q => ∃ d xs, vs = [V.ref d] ∧ Bd X.prog X.w H d xs ∧ ∀ p, H p = none → Q (.ref p) (upd H p (.lst (xs.map fun x => V.ref x.2.1)))) := by
  rintro ps0 s0 σ0 H0 vs0 us0 Q0 I0 rr ⟨d, xs, rfl, bd, fin⟩
  obtain ⟨u0, rfl, uv⟩ := rr.one
  cases (show u0 = Value.ref d from uv)
  obtain ⟨nsys, few, ob, ents, ep, at0, isd, dat, lis, _, _⟩ := bd.dictOf I0.hok
  have many : ents.size = xs.length := (size_of_entries lis).trans (List.length_map _)
  have room : xs.length ≤ sizeLine := Nat.le_of_lt (small1000 few)
  -- the key's own value at each place
  have keyAt : ∀ (n : Nat) (e : DictEntry), ents[n]? = some e → (xs[n]?).map (fun x => Value.ref x.2.1) = some e.key := fun n e he => by
    have both := entry_at lis n
    rw [he, show toH xs = xs.map (fun x => (tkey x.1, x.2.1, Value.bool x.2.2)) from rfl, List.getElem?_map] at both
    revert both
    cases xs[n]? with
    | some x =>
      intro both
      cases both
      rfl
    | none => exact fun no => by cases no
  refine PySem.W.kdl_call (kdl_raw nsys isd dat) (I0.ok.hd hc) at0 (many ▸ room) fun hp2 tk2 got cap kept here each => ?_
  have same : got.toList = xs.map fun x => Value.ref x.2.1 := List.ext_getElem? fun n => by
    rw [List.getElem?_map, Array.getElem?_toList]
    by_cases lt : n < got.size
    · obtain ⟨e, he, hv⟩ := each.2 n _ (Array.getElem?_eq_getElem lt)
      rw [Array.getElem?_eq_getElem lt, keyAt n e he, hv]
    · have over : xs.length ≤ n := by rw [← many, ← each.1]; exact Nat.le_of_not_lt lt
      rw [Array.getElem?_eq_none (Nat.le_of_not_lt lt), List.getElem?_eq_none over]
      rfl
  have line : (xs.map fun x => V.ref x.2.1).length ≤ sizeLine := by rwa [List.length_map]
  have alike : Vals (xs.map fun x => V.ref x.2.1) got.toList := by
    have r := vals_refs (xs.map fun x => x.2.1)
    rw [List.map_map, List.map_map] at r
    rw [same]
    exact r
  exact ⟨.ref s0.heap.objs.size, _, I0.laid (t' := tk2) (o := .lst (xs.map fun x => V.ref x.2.1)) kept (Nat.le_refl _) ⟨line, got.toList, cap, alike, here⟩, rfl, fin _ (I0.hok.fresh (Nat.le_refl _))⟩

/-! ### == and != with an empty one -/
/-- xs == [] -/
def rEqE (K : PySem.W.Frag) : R2 := fun x y H Q => ∃ a b xs, x = .ref a ∧ y = .ref b ∧ SqL K H a xs ∧ SqL K H b [] ∧ Q (.bl xs.isEmpty) H
theorem op_eqE (hu : X.A.units + 64 < cLine) : OpR X (compareOp .Eq) (rEqE X.K) := by
  rintro pins s σ H x y v u Q I rx ry ⟨a, b, xs, rfl, rfl, ha, hb, q⟩
  obtain ⟨rfl, rfl⟩ : v = Value.ref a ∧ u = Value.ref b := ⟨rx, ry⟩
  obtain ⟨i1, r1, p1, z1⟩ := I.list ha
  obtain ⟨i2, r2, p2, z2⟩ := I.list hb
  cases r2
  cases xs with
  | nil =>
    cases r1
    exact SeqAt.eq_listAt (e := fun _ => true) p1.isList p2.isList rfl (by omega) (fun j h1 _ => absurd h1 (by simp)) ⟨.bl true, H, I, by simp [RelV], q⟩
  | cons z zs =>
    cases r1 with
    | cons q1 q2 => exact SeqAt.eq_list_lengthsAt p1.isList p2.isList (by simp) (by omega) ⟨.bl false, H, I, rfl, q⟩
/-- xs != [] -/
def rNeE (K : PySem.W.Frag) : R2 := fun x y H Q => ∃ a b xs, x = .ref a ∧ y = .ref b ∧ SqL K H a xs ∧ SqL K H b [] ∧ Q (.bl (!xs.isEmpty)) H
theorem op_neE (hu : X.A.units + 64 < cLine) : OpR X (compareOp .NotEq) (rNeE X.K) := by
  rintro pins s σ H x y v u Q I rx ry ⟨a, b, xs, rfl, rfl, ha, hb, q⟩
  obtain ⟨rfl, rfl⟩ : v = Value.ref a ∧ u = Value.ref b := ⟨rx, ry⟩
  obtain ⟨i1, r1, p1, z1⟩ := I.list ha
  obtain ⟨i2, r2, p2, z2⟩ := I.list hb
  cases r2
  cases xs with
  | nil =>
    cases r1
    exact SeqAt.RcNeAt.lists (e := fun _ => true) p1.isList p2.isList rfl (by omega) (fun j h1 _ => absurd h1 (by simp)) _ _ _ _ ⟨.bl false, H, I, by simp [RelV], q⟩
  | cons z zs =>
    cases r1 with
    | cons q1 q2 => exact SeqAt.RcNeAt.lists_lengths p1.isList p2.isList (by simp) (by omega) _ _ _ _ ⟨.bl true, H, I, rfl, q⟩
/-- t == () -/
def rEqT (K : PySem.W.Frag) : R2 := fun x y H Q => ∃ a b xs, x = .ref a ∧ y = .ref b ∧ SqT K H a xs ∧ SqT K H b [] ∧ Q (.bl xs.isEmpty) H
theorem op_eqT0 (hu : X.A.units + 64 < cLine) : OpR X (compareOp .Eq) (rEqT X.K) := by
  rintro pins s σ H x y v u Q I rx ry ⟨a, b, xs, rfl, rfl, ha, hb, q⟩
  obtain ⟨rfl, rfl⟩ : v = Value.ref a ∧ u = Value.ref b := ⟨rx, ry⟩
  obtain ⟨i1, r1, p1, z1⟩ := I.tuple ha
  obtain ⟨i2, r2, p2, z2⟩ := I.tuple hb
  cases r2
  refine SeqAt.eq_tupleAt (e := fun _ => true) p1 p2 (by omega) (fun j _ h2 => absurd h2 (by simp)) ⟨.bl xs.isEmpty, H, I, ?_, q⟩
  cases xs with
  | nil =>
    cases r1
    simp [RelV]
  | cons z zs =>
    cases r1 with
    | cons q1 q2 => simp [RelV]

/-! ### sorted of rows -/
theorem each_ref : ∀ {out : List Value} {bs : List (Addr × List Bool)}, PySem.W.EachIs (fun v b => v = Value.ref b.1) out bs → out = bs.map fun b => Value.ref b.1
  | _, _, .nil => rfl
  | _, _, .cons h t => by
    subst h
    rw [each_ref t]
    rfl
theorem ref_each (bs : List (Addr × List Bool)) : PySem.W.EachIs (fun v b => v = Value.ref b.1) (bs.map fun b => Value.ref b.1) bs := by
  induction bs with
  | nil => exact .nil
  | cons b t ih => exact .cons rfl ih
theorem vals_rows : ∀ bs : List (Addr × List Bool), Vals (bs.map fun b => V.ref b.1) (bs.map fun b => Value.ref b.1)
  | [] => .nil
  | _ :: t => .cons rfl (vals_rows t)
def encR (b : Addr × List Bool) : PyData := .tuple (b.2.map .bool)
theorem alike_bools : ∀ xs ys : List Bool, PySem.W.alikeAll (xs.map .bool) (ys.map .bool) = true
  | [], _ => by simp [PySem.W.alikeAll]
  | _ :: _, [] => by simp [PySem.W.alikeAll]
  | x :: xs, y :: ys => by
    show PySem.W.alikeAll (.bool x :: xs.map .bool) (.bool y :: ys.map .bool) = true
    rw [PySem.W.alikeAll, alike_bools xs ys]
    simp [PySem.W.alike]
theorem depth_bools : ∀ xs : List Bool, PyData.depthAll (xs.map .bool) = 0
  | [] => by rw [List.map_nil, PyData.depthAll]
  | x :: xs => by
    show PyData.depthAll (.bool x :: xs.map .bool) = 0
    rw [PyData.depthAll, depth_bools xs]
    simp [PyData.depth]
theorem reads_bools {h : Heap} : ∀ {r : List Bool} {us : List Value}, Vals (bls r) us → ∃ as, ReadsAll h us (r.map .bool) as
  | [], _, q => by
    cases q
    exact ⟨_, .nil⟩
  | b :: r, _, q => by
    cases q with
    | cons h1 h2 =>
      cases (show _ = Value.bool b from h1)
      obtain ⟨as, q2⟩ := reads_bools h2
      exact ⟨_, .cons (.bool b) q2⟩
/-- sorted(xs), xs a list of tuples of truths, none empty: a new list of the same tuples, in some order -/
def rSortB (K : PySem.W.Frag) : List V → Hp → VK → Prop := fun vs H Q => ∃ a, ∃ rs : List (Addr × List Bool), vs = [V.ref a] ∧ SqL K H a (rs.map fun b => V.ref b.1) ∧ (∀ b ∈ rs, H b.1 = some (.tup (bls b.2)) ∧ b.2 ≠ []) ∧
  ∀ (ys : List (Addr × List Bool)) (p : Addr), ys.Perm rs → H p = none → Q (.ref p) (upd H p (.lst (ys.map fun b => V.ref b.1)))
theorem cr_sortB (hu : X.A.units + 64 < cLine) : CallR X (.builtin "sorted") (rSortB X.K) := by
  rintro pins s σ H vs us Q I r ⟨a, rs, rfl, hs, hx, q⟩
  obtain ⟨got, rv, hl, hz⟩ := I.list hs
  obtain ⟨w, rfl, wa⟩ := vals1 r
  cases (show w = Value.ref a from wa)
  have ei : got = rs.map fun b => Value.ref b.1 := by
    clear hs hx q hl hz
    induction rs generalizing got with
    | nil =>
      cases rv
      rfl
    | cons b t ih =>
      cases rv with
      | cons h1 h2 =>
        cases (show _ = Value.ref b.1 from h1)
        rw [ih _ h2]
        rfl
  subst ei
  rw [List.length_map] at hz
  -- each item as data; only those of the list
  have er : PySem.W.EachIs (fun v b => ∃ as, Reads s.heap v (encR b) as) (rs.map fun b => Value.ref b.1) rs := by
    clear hs hl hz q rv r
    induction rs with
    | nil => exact .nil
    | cons b t ih =>
      refine .cons ?_ (ih fun c hc => hx c (List.mem_cons_of_mem _ hc))
      obtain ⟨_, its2, r2, o, ho, hc, n, hd⟩ := I.hok _ _ (hx b List.mem_cons_self).1
      obtain ⟨as, q2⟩ := reads_bools (h := s.heap) r2
      exact ⟨as, .tuple ho hc hd (by simpa using q2)⟩
  have hal : PySem.W.AllAlike (rs.map encR) := by
    rintro _ one _ two
    obtain ⟨⟨b, ⟨_, rfl⟩⟩, c, _, rfl⟩ := And.intro (List.mem_map.mp one) (List.mem_map.mp two)
    simpa [encR, PySem.W.alike] using alike_bools b.2 c.2
  have hk : PySem.W.Sortable (rs.map encR) := .inl fun _ one => by
    obtain ⟨b, hb, rfl⟩ := List.mem_map.mp one
    have hne := (hx b hb).2
    cases e : b.2 with
    | nil => exact absurd e hne
    | cons x t => exact ⟨.bool x, t.map .bool, by simp [encR, e]⟩
  refine PySem.W.sorted_data (enc := encR) (R := fun v b => v = Value.ref b.1) hl.isList (ref_each rs) er hal hk hz (fun b _ => ?_) fun out ho eo => ?_
  · have e : (encR b).depth ≤ 1 := by
      unfold encR
      simp only [PyData.depth, depth_bools]
      decide
    omega
  · have e2 := each_ref eo
    have pm : (rs.mergeSort (PySem.W.dataLe false encR)).Perm rs := List.mergeSort_perm _ _
    obtain ⟨c, hc⟩ := PyProof.Rows.sortedAll_at s.heap (rs.map fun b => Value.ref b.1) out.toArray
    have hn : H (s.heap.objs.size + 1) = none := I.hok.fresh (Nat.le_succ _)
    refine ⟨.ref (s.heap.objs.size + 1), _, I.laid (t' := s.toks) (a := s.heap.objs.size + 1) (o := .lst ((rs.mergeSort (PySem.W.dataLe false encR)).map fun b => V.ref b.1)) (fun _ _ e => PyProof.Rows.sortedAll_old e) (Nat.le_succ _) ?_, rfl, q _ _ pm hn⟩
    refine ⟨by rw [List.length_map, pm.length_eq]; exact hz, out, c, ?_, ?_⟩
    · rw [e2]
      exact vals_rows _
    · exact hc
end
end K29

/-! K29 1: the text by places; heaps; rows; what the top has; is_whole, is_within, is_row. -/
namespace K29
open PySem L2
open PyProof.Rows (envOfC)
/-! ### the text by places -/
def top (i : Nat) : Stmt := PySem.Challenge.pw_eachalone_k29_whole_a_pair_is_a_loose_pa.main.body.getD i (.Pass ⟨0, 0, 0, 0⟩)
/-- a def of the module as it stands behind the top, under its name -/
def DefOf (K : PySem.W.Frag) (mg : Str → Option Value) (x : Str) (st : Stmt) (ps : List Str) : Prop := ∃ f fd, C8.Def K mg x st f fd ∧ Binds K fd ps []
/-- what the walk asks of the module's names and of the class -/
structure Txt (K : PySem.W.Frag) (mg : Str → Option Value) (C : Addr) : Prop where
  isinstance : mg "isinstance" = none
  int : mg "int" = none
  bool : mg "bool" = none
  tuple : mg "tuple" = none
  list : mg "list" = none
  str : mg "str" = none
  len : mg "len" = none
  all : mg "all" = none
  any : mg "any" = none
  range : mg "range" = none
  enumerate : mg "enumerate" = none
  sorted : mg "sorted" = none
  min : mg "min" = none
  max : mg "max" = none
  parts : ∃ t, mg "MOST_PARTS" = some (.int 60 t)
  deepest : ∃ t, mg "DEEPEST" = some (.int 12 t)
  within : ∃ t, mg "MOST_WITHIN" = some (.int 6 t)
  mrows : ∃ t, mg "MOST_ROWS" = some (.int 4 t)
  wishes : ∃ t, mg "MOST_WISHES" = some (.int 8 t)
  cl : Cls K C
  nM : NoAttr K C "case_many"
  nD : NoAttr K C "case_decision"
  nR : NoAttr K C "case_rows"
section
variable {P : Program} {w : World} {K : PySem.W.Frag} {mg : Str → Option Value} {base : Heap}
theorem cal_of {x : Str} {st : Stmt} {N ps : List Str} {k : Nat} {sp : Sp} (D : DefOf K mg x st ps) (S : FnScope N ps (C8.fnScope st)) (len : ∀ vs H Q E, sp vs H Q E → vs.length = ps.length)
    (hbody : ∀ (f : Addr) (cdv : Value) (A : Around) (outer : List Env) (s : Shared) (H : Hp) (vs : List V) (Q : VK) (E : XK), Room k (A.deeper (envOfC x (C8.fnScope st) s.heap.objs.size f cdv)) → sp vs H Q E →
      ∃ t, PSs (cxOf C8.CX0 P w K mg base N x (C8.fnScope st) f cdv A outer s H E).nox (C8.fnBody st) t ∧ t { nx := fun _ H' => Q .non H', rt := Q } (start N vs) H) : C8.Cal P w K mg base (k + 1) x sp [] := by
  obtain ⟨f, fd, F, b⟩ := D
  exact C8.cal0 F b .nil S len (hbody f)
end
/-! ### heaps -/
theorem same_new {H : Hp} {p : Addr} (h : H p = none) (o : HO) : Same H (upd H p o) := fun b u q => by
  rw [upd_ne (ne_of_none q h)]
  exact q
theorem Same.tupT {K : PySem.W.Frag} {H H' : Hp} {a : Addr} {xs : List V} (e : Same H H') (h : SqT K H a xs) : SqT K H' a xs := by
  exact h.imp (fun k => k.imp (e _ _) fun k => k.imp fun _ => e _ _) id
/-- a list made since may grow: what stood at the start stays -/
theorem same_put {H H1 : Hp} {p : Addr} (s : Same H H1) (h : H p = none) (o : HO) : Same H (upd H1 p o) := fun b u q => by
  rw [upd_ne (ne_of_none q h)]
  exact s b u q
theorem line1000 {n : Nat} (h : n ≤ 1000) : n ≤ sizeLine := Nat.le_of_lt (small1000 h)

/-! ### rules in short (K written out, so that they serve within a comprehension) -/
section
variable {X : Cx} {K : PySem.W.Frag} {e : Expr} {te : TE} {p p2 pos : Pos}
theorem isi_K (hK : X.K = K) : CallR X (.builtin "isinstance") (rIsi K) := hK ▸ call_isi
/-- isinstance(e, T), T a built-in class. Asks: [e] _, _, type, _, answer, rfl, .ty n, TyX, kit_ty, .. -/
theorem pe_isi (n : String) {y : Str} (h1 : X.mg "isinstance" = none) (h2 : X.mg y = none) (ha : PE X e te) (hg1 : Gl X "isinstance" := by rfl) (hg2 : Gl X y := by rfl) (hb : bootBuiltins y = some (.type n) := by decide +kernel) (hK : X.K = K := by rfl)
    (he : starEach [e, .Name y p2] X.env = (false, eval e X.env) :: starEach [.Name y p2] X.env := by rfl) (hs : starEach [.Name y p2] X.env = (false, eval (.Name y p2) X.env) :: starEach [] X.env := by rfl) (hpl : (backTo pos (starEach [.Name y p2] X.env)).any (·.1) = false := by rfl)
    (hn : y ≠ "__name__" := by decide) (hd : (y == ("__debug__" : Str)) = false := by decide) :
    PE X (.Call (.Name "isinstance" p) [e, .Name y p2] [] pos) (tCB (rIsi K) (tCons te (tCons (tC (.ty n)) tNil))) :=
  pe_callB (isi_K hK) hg1 h1 (by decide +kernel) (pa_cons ha (pa_cons (pe_bltn (v := .ty n) hg2 h2 hb rfl hn hd) pa_nil hs) he) (by decide) (by decide) he hpl
def rLen (K : PySem.W.Frag) : List V → Hp → VK → Prop := fun xs H Q => ∃ p ys, xs = [.ref p] ∧ (SqL K H p ys ∨ SqT K H p ys) ∧ Q (.int ys.length) H
theorem len_K (hK : X.K = K) : CallR X (.builtin "len") (rLen K) := hK ▸ call_len_seq
/-- len(e) of a list or a tuple. Asks: [e] p, _, rfl, .inl SqL | .inr SqT, .. -/
theorem pe_len (h1 : X.mg "len" = none) (ha : PE X e te) (hg1 : Gl X "len" := by rfl) (hK : X.K = K := by rfl)
    (he : starEach [e] X.env = (false, eval e X.env) :: starEach [] X.env := by rfl) (hpl : (backTo pos (starEach [] X.env)).any (·.1) = false := by rfl) :
    PE X (.Call (.Name "len" p) [e] [] pos) (tCB (rLen K) (tCons te tNil)) :=
  pe_callB (len_K hK) hg1 h1 PySem.boot_len (pa_cons ha pa_nil he) (by decide) (by decide) he hpl
end
/-- a comprehension without a test -/
theorem tY {σ : St} {H : Hp} {A B : Bool → Hp → Prop} (h : A true H) : tYes σ H (fun b H3 => if b = true then A b H3 else B b H3) := by
  show if true = true then A true H else B true H
  rw [if_pos rfl]
  exact h
/-- True as often as there are turns -/
theorem all_true (n : Nat) : (List.replicate n true).all id = true := by
  induction n with
  | zero => rfl
  | succ n ih => rw [List.replicate_succ, List.all_cons, ih]; rfl
/-- a row's item is a truth -/
theorem bl_at {r : List Bool} {i : Nat} {x : V} (h : (bls r)[i]? = some x) : ∃ b, x = V.bl b ∧ r[i]? = some b ∧ i < r.length := by
  rw [List.getElem?_map] at h
  cases e : r[i]? with
  | none =>
    rw [e] at h
    cases h
  | some b =>
    rw [e] at h
    exact ⟨b, (Option.some.inj h).symm, rfl, (List.getElem?_eq_some_iff.mp e).1⟩

section
variable {P : Program} {w : World} {K : PySem.W.Frag} {mg : Str → Option Value} {base : Heap} {C : Addr}
/-! ### is_whole -/
def spWhole : Sp := fun vs H Q _ => ∃ i, vs = [.int i] ∧ Q (.bl true) H
theorem sc6 : FnScope ["thing"] ["thing"] (C8.fnScope (top 6)) := C8.fnScope_by (by decide +kernel)
theorem ok_whole (D : DefOf K mg "is_whole" (top 6) ["thing"]) (T : Txt K mg C) : C8.Cal P w K mg base 1 "is_whole" spWhole [] := by
  refine cal_of D sc6 (fun vs H Q E h => ?_) (fun f cdv A outer s H vs Q E hr h => ?_)
  · obtain ⟨i, rfl, _⟩ := h
    rfl
  obtain ⟨i, rfl, q⟩ := h
  refine ⟨_, pss_one (ps_ret (pe_and (pe_isi "int" T.isinstance T.int (pv 0)) (pe_one (pe_not (pe_isi "bool" T.isinstance T.bool (pv 0)))))), ?_⟩
  refine ⟨_, rfl, _, _, _, _, true, rfl, .ty "int", .base (.int i), kit_ty (by decide +kernel), true, rfl, iteT ?_⟩
  refine ⟨_, rfl, _, _, _, _, false, rfl, .ty "bool", .base (.int i), kit_ty (by decide +kernel), false, rfl, ?_⟩
  exact q
/-! ### is_within -/
def spWithin : Sp := fun vs H Q _ => ∃ i lo hi, vs = [.int i, .int lo, .int hi] ∧ lo ≤ i ∧ i ≤ hi ∧ Q (.bl true) H
theorem sc7 : FnScope ["thing", "low", "high"] ["thing", "low", "high"] (C8.fnScope (top 7)) := C8.fnScope_by (by decide +kernel)
theorem ok_within (D : DefOf K mg "is_within" (top 7) ["thing", "low", "high"]) (cW : C8.Cal P w K mg base 1 "is_whole" spWhole []) : C8.Cal P w K mg base 2 "is_within" spWithin [] := by
  refine cal_of D sc7 (fun vs H Q E h => ?_) (fun f cdv A outer s H vs Q E hr h => ?_)
  · obtain ⟨i, lo, hi, rfl, _⟩ := h
    rfl
  obtain ⟨i, lo, hi, rfl, h1, h2, q⟩ := h
  refine ⟨_, pss_one (ps_ret (pe_and (C8.pe_c cW hr (by decide) (by rfl) (pa_cons (pv 0) pa_nil)) (pe_one (pe_chain op_le op_le (pv 1) (pv 0) (pv 2))))), ?_⟩
  refine ⟨_, rfl, i, rfl, true, rfl, iteT ?_⟩
  refine ⟨_, rfl, _, rfl, lo, i, rfl, rfl, decide (lo ≤ i), rfl, ?_⟩
  rw [decide_eq_true h1]
  refine iteT ⟨_, rfl, i, hi, rfl, rfl, ?_⟩
  show Q (V.bl (decide (i ≤ hi))) H
  rw [decide_eq_true h2]
  exact q
/-! ### is_row -/
def spRow : Sp := fun vs H Q _ => ∃ a r m, vs = [.ref a, .int m] ∧ H a = some (.tup (bls r)) ∧ (r.length : Int) = m ∧ r.length ≤ 1000 ∧ ∀ H', Same H H' → Q (.bl true) H'
theorem sc8 : FnScope ["thing", "many", "one"] ["thing", "many"] (C8.fnScope (top 8)) := C8.fnScope_by (by decide +kernel)
theorem ok_row (D : DefOf K mg "is_row" (top 8) ["thing", "many"]) (T : Txt K mg C) : C8.Cal P w K mg base 1 "is_row" spRow [] := by
  refine cal_of D sc8 (fun vs H Q E h => ?_) (fun f cdv A outer s H vs Q E hr h => ?_)
  · obtain ⟨a, r, m, rfl, _⟩ := h
    rfl
  obtain ⟨a, r, m, rfl, ha, hm, hl, q⟩ := h
  refine ⟨_, pss_one (ps_ret (pe_and (pe_isi "tuple" T.isinstance T.tuple (pv 0))
    (pe_and (pe_cmpR op_eq (pe_len T.len (pv 0)) (pv 1) (nomark _))
    (pe_one (pe_callB (cr_all rfl) (by rfl) T.all (by decide +kernel) (pa_cons (pe_lc (own := [("one", 2)]) (g := gName 2) (tt := tYes) rfl sc8.nd (pi_tup (pv 0)) (blkOk_by (N := ["thing", "many", "one"]) (sc := C8.fnScope (top 8)) (by decide +kernel))
      (fun _ _ _ _ _ => pg_name (i := 2) sc8.nd rfl (Or.inl rfl)) (fun _ _ _ _ _ => pts_nil)
      (fun _ _ _ _ _ => pe_isi (K := K) "bool" T.isinstance T.bool (pv 2))) pa_nil)))))), ?_⟩
  refine ⟨_, rfl, _, _, _, _, true, rfl, .ty "tuple", .base (.tup ha), kit_ty (by decide +kernel), true, rfl, iteT ?_⟩
  refine ⟨_, rfl, a, _, rfl, .inr (SqT.of ha), _, rfl, rfl, true, (by rw [List.length_map, hm, decide_eq_true rfl]), iteT ?_⟩
  refine ⟨_, rfl, a, rfl, ⟨_, SqT.of ha⟩, fun D hD => lc_tup (K := K) (a := a) (xs := bls r) (fun i H' => Same H H' ∧ H' D = some (.lst ((List.replicate i true).map V.bl))) ⟨same_new hD _, upd_same⟩
    (fun i H' _ ⟨g, _⟩ => SqT.of (g _ _ ha)) ?_ ?_⟩
  · rintro i x H' hx ⟨g, hd⟩
    refine ⟨rfl, ?_⟩
    obtain ⟨b, rfl, _, hi⟩ := bl_at hx
    refine tY ?_
    refine ⟨_, rfl, _, _, _, _, true, rfl, .ty "bool", .base (.bl b), kit_ty (by decide +kernel), _, hd, ?_, same_put g hD _, ?_⟩
    · rw [List.length_map, List.length_replicate]
      exact small1000 (by omega)
    · rw [upd_same, List.replicate_succ', List.map_append]
      rfl
  · rintro H' ⟨g, hd⟩
    refine ⟨D, _, rfl, SqL.of hd, ?_⟩
    rw [all_true]
    exact q _ g
end
end K29

/-! K29 2: decisions: what one is at a value, inner_parts, are_rows, is_form, parts_of, is_decision, answer, answer_cases. -/
namespace K29
open PySem L2
open PyProof.Rows (envOfC)
/-! ### decisions -/
abbrev Fn := List Bool → Bool
/-- a decision's value, size, answer -/
abbrev D3 := V × Nat × Fn
/-- a row of cases: its tuple, its test, what it tells -/
abbrev CRow := Addr × D3 × D3
def ladder (f : Fn) : List CRow → Fn
  | [], r => f r
  | x :: t, r => if x.2.1.2.2 r = true then x.2.2.2.2 r else ladder f t r
/-- the decisions within cases, in the order of writing -/
def cKids (L : List CRow) (d : D3) : List D3 := (L.flatMap fun x => [x.2.1, x.2.2]) ++ [d]
/-- at v stands a decision for m wishes, at most n deep, of so many parts, that answers as f does -/
inductive DA (m : Nat) (H : Hp) : Nat → V → Nat → Fn → Prop
  | yes {n : Nat} {a : Addr} (h : H a = some (.tup [.str "yes"])) : DA m H (n + 1) (.ref a) 1 (fun _ => true)
  | no {n : Nat} {a : Addr} (h : H a = some (.tup [.str "no"])) : DA m H (n + 1) (.ref a) 1 (fun _ => false)
  | wish {n : Nat} {a : Addr} {i : Nat} (h : H a = some (.tup [.str "wish", .int (i : Int)])) (hi : i < m) : DA m H (n + 1) (.ref a) 1 (fun r => r.getD i false)
  | neg {n : Nat} {a : Addr} {v : V} {s : Nat} {f : Fn} (h : H a = some (.tup [.str "not", v])) (d : DA m H n v s f) : DA m H (n + 1) (.ref a) (1 + s) (fun r => !f r)
  | conj {n : Nat} {a b : Addr} (L : List D3) (h : H a = some (.tup [.str "and", .ref b])) (hb : H b = some (.tup (L.map fun x => x.1))) (h1 : 1 ≤ L.length) (h6 : L.length ≤ 6) (d : ∀ x ∈ L, DA m H n x.1 x.2.1 x.2.2) :
      DA m H (n + 1) (.ref a) (1 + (L.map fun x => x.2.1).sum) (fun r => L.all fun x => x.2.2 r)
  | disj {n : Nat} {a b : Addr} (L : List D3) (h : H a = some (.tup [.str "or", .ref b])) (hb : H b = some (.tup (L.map fun x => x.1))) (h1 : 1 ≤ L.length) (h6 : L.length ≤ 6) (d : ∀ x ∈ L, DA m H n x.1 x.2.1 x.2.2) :
      DA m H (n + 1) (.ref a) (1 + (L.map fun x => x.2.1).sum) (fun r => L.any fun x => x.2.2 r)
  | cases {n : Nat} {a b : Addr} {v : V} {s : Nat} {f : Fn} (L : List CRow) (h : H a = some (.tup [.str "cases", .ref b, v])) (hb : H b = some (.tup (L.map fun x => V.ref x.1))) (h1 : 1 ≤ L.length) (h4 : L.length ≤ 4)
      (hr : ∀ x ∈ L, H x.1 = some (.tup [x.2.1.1, x.2.2.1])) (d1 : ∀ x ∈ L, DA m H n x.2.1.1 x.2.1.2.1 x.2.1.2.2) (d2 : ∀ x ∈ L, DA m H n x.2.2.1 x.2.2.2.1 x.2.2.2.2) (dl : DA m H n v s f) :
      DA m H (n + 1) (.ref a) (1 + ((cKids L (v, s, f)).map fun x => x.2.1).sum) (ladder f L)
/-- tuples stay -/
def TupS (H H' : Hp) : Prop := ∀ a xs, H a = some (.tup xs) → H' a = some (.tup xs)
theorem TupS.of {H H' : Hp} (s : Same H H') : TupS H H' := fun a xs h => s a _ h
theorem DA.mono {m : Nat} {H H' : Hp} (s : TupS H H') {n : Nat} {v : V} {z : Nat} {f : Fn} (d : DA m H n v z f) : DA m H' n v z f := by
  induction d with
  | yes h => exact .yes (s _ _ h)
  | no h => exact .no (s _ _ h)
  | wish h hi => exact .wish (s _ _ h) hi
  | neg h _ ih => exact .neg (s _ _ h) ih
  | conj L h hb h1 h6 _ ih => exact .conj L (s _ _ h) (s _ _ hb) h1 h6 ih
  | disj L h hb h1 h6 _ ih => exact .disj L (s _ _ h) (s _ _ hb) h1 h6 ih
  | cases L h hb h1 h4 hr _ _ _ ih1 ih2 ih3 => exact .cases L (s _ _ h) (s _ _ hb) h1 h4 (fun x hx => s _ _ (hr x hx)) ih1 ih2 ih3
theorem DA.same {m : Nat} {H H' : Hp} (s : Same H H') {n : Nat} {v : V} {z : Nat} {f : Fn} (d : DA m H n v z f) : DA m H' n v z f := d.mono (.of s)
/-- a tuple whose first item is a word -/
theorem DA.word {m : Nat} {H : Hp} {n : Nat} {v : V} {z : Nat} {f : Fn} (d : DA m H n v z f) : ∃ a wd rest, v = .ref a ∧ H a = some (.tup (.str wd :: rest)) := by
  cases d with
  | yes h => exact ⟨_, _, _, rfl, h⟩
  | no h => exact ⟨_, _, _, rfl, h⟩
  | wish h hi => exact ⟨_, _, _, rfl, h⟩
  | neg h _ => exact ⟨_, _, _, rfl, h⟩
  | conj L h => exact ⟨_, _, _, rfl, h⟩
  | disj L h => exact ⟨_, _, _, rfl, h⟩
  | cases L h => exact ⟨_, _, _, rfl, h⟩
theorem DA.pos {m : Nat} {H : Hp} {n : Nat} {v : V} {z : Nat} {f : Fn} (d : DA m H n v z f) : 1 ≤ z ∧ 1 ≤ n := by
  cases d <;> exact ⟨by omega, by omega⟩

/-! ### tests of the first word (slot 0 holds the decision) -/
section
variable {K : PySem.W.Frag} {σ : L2.St} {H : Hp} {a : Addr} {wd x y : Str} {rest : List V} {R : Bool → Hp → Prop}
abbrev tIx (K : PySem.W.Frag) (i : Nat) (j : Int) : TE := tOp (rIxT K) (tVar i) (tC (.int j))
theorem w0F (hσ : σ[0]? = some (some (.ref a))) (h : H a = some (.tup (.str wd :: rest))) (e : decide (V.str wd = V.str x) = false) (hr : R false H) : tTest (tOp rEq (tIx K 0 0) (tC (.str x))) σ H R :=
  ⟨_, hσ, a, _, 0, _, rfl, rfl, SqT.of h, atI_nat (j := 0) rfl, rfl, _, rfl, by rw [e]; exact hr⟩
theorem w0T (hσ : σ[0]? = some (some (.ref a))) (h : H a = some (.tup (.str wd :: rest))) (e : decide (V.str wd = V.str x) = true) (hr : R true H) : tTest (tOp rEq (tIx K 0 0) (tC (.str x))) σ H R :=
  ⟨_, hσ, a, _, 0, _, rfl, rfl, SqT.of h, atI_nat (j := 0) rfl, rfl, _, rfl, by rw [e]; exact hr⟩
abbrev tIn2 (K : PySem.W.Frag) (x y : Str) : TE := tOp (rIn K false) (tIx K 0 0) (tTup (tCons (tC (.str x)) (tCons (tC (.str y)) tNil)))
theorem in2 {Q : VK} {b : Bool} (hσ : σ[0]? = some (some (.ref a))) (h : H a = some (.tup (.str wd :: rest))) (e : inV (.str wd) [.str x, .str y] = b) (hr : ∀ H', Same H H' → Q (.bl b) H') : tIn2 K x y σ H Q :=
  ⟨_, hσ, a, _, 0, _, rfl, rfl, SqT.of h, atI_nat (j := 0) rfl, (by show 2 ≤ sizeLine; decide), fun t ht => ⟨t, _, rfl, .inr (SqT.of upd_same), rfl, rfl, by
    show Q (.bl (inV (.str wd) [.str x, .str y])) _
    rw [e]
    exact hr _ (same_new ht _)⟩⟩
theorem in2t {b : Bool} (hσ : σ[0]? = some (some (.ref a))) (h : H a = some (.tup (.str wd :: rest))) (e : inV (.str wd) [.str x, .str y] = b) (hr : ∀ H', Same H H' → R b H') : tTest (tIn2 K x y) σ H R :=
  in2 (Q := fun z H2 => ∃ k, z = .bl k ∧ R k H2) hσ h e fun H' s => ⟨b, rfl, hr H' s⟩
end
theorem sum_kids (L : List CRow) (d : D3) : ((cKids L d).map fun x => x.2.1).sum = (L.map fun x => x.2.1.2.1 + x.2.2.2.1).sum + d.2.1 := by
  unfold cKids
  induction L with
  | nil => simp
  | cons x t ih =>
    rw [List.flatMap_cons, List.append_assoc, List.map_append, List.sum_append, ih]
    simp
    omega
theorem len_flat (L : List CRow) : (L.flatMap fun x => [x.2.1, x.2.2]).length = 2 * L.length := by
  induction L with
  | nil => rfl
  | cons x t ih =>
    rw [List.flatMap_cons, List.length_append, ih]
    simp
    omega
theorem map_flat (L : List CRow) : (L.flatMap fun x => [x.2.1, x.2.2]).map (fun x => x.1) = L.flatMap fun x => [x.2.1.1, x.2.2.1] := by
  induction L with
  | nil => rfl
  | cons x t ih =>
    rw [List.flatMap_cons, List.map_append, ih, List.flatMap_cons]
    rfl

section
variable {P : Program} {w : World} {K : PySem.W.Frag} {mg : Str → Option Value} {base : Heap} {C : Addr}
/-! ### inner_parts -/
def spInner : Sp := fun vs H Q _ => ∃ m n v sz f, vs = [v] ∧ DA m H (n + 1) v sz f ∧ ∀ (H' : Hp) (p : Addr) (L : List D3), Same H H' → H' p = some (.lst (L.map fun x => x.1)) → (∀ x ∈ L, DA m H n x.1 x.2.1 x.2.2) → sz = 1 + (L.map fun x => x.2.1).sum → L.length ≤ 9 → Q (.ref p) H'
theorem sc14 : FnScope ["decision", "found", "test", "told"] ["decision"] (C8.fnScope (top 14)) := C8.fnScope_by (by decide +kernel)
theorem ok_inner (D : DefOf K mg "inner_parts" (top 14) ["decision"]) (T : Txt K mg C) : C8.Cal P w K mg base 1 "inner_parts" spInner [] := by
  refine cal_of D sc14 (fun vs H Q E h => ?_) (fun fA cdv A outer s H vs Q E hr h => ?_)
  · obtain ⟨m, n, v, sz, f, rfl, _⟩ := h
    rfl
  obtain ⟨m, n, v, sz, f, rfl, d, q⟩ := h
  refine ⟨_, pss_cons (ps_if (pt_cmpR op_eq (pe_ix ix_tup (pv 0) pe_int (fun _ _ => rfl)) pe_str (nomark _)) (pss_one (ps_ret (pe_lst (pa_cons (pe_ix ix_tup (pv 0) pe_int (fun _ _ => rfl)) pa_nil)))) pss_nil)
    (pss_cons (ps_if (pt_cmpR op_in_seq (pe_ix ix_tup (pv 0) pe_int (fun _ _ => rfl)) (pe_tup (pa_cons pe_str (pa_cons pe_str pa_nil))) (by rfl)) (pss_one (ps_ret (pe_callTy call_list_of (by rfl) T.list (by decide +kernel) (pa_cons (pe_ix ix_tup (pv 0) pe_int (fun _ _ => rfl)) pa_nil)))) pss_nil)
    (pss_cons (ps_if (pt_cmpR op_eq (pe_ix ix_tup (pv 0) pe_int (fun _ _ => rfl)) pe_str (nomark _))
      (pss_cons (ps_set (i := 1) sc14.nd rfl (Or.inl rfl) (pe_lst pa_nil))
      (pss_cons (ps_for PassesOwn.never rfl (pi_tup (pe_ix ix_tup (pv 0) pe_int (fun _ _ => rfl))) (pg_tup rfl (pgs_cons (pg_name (i := 2) sc14.nd rfl (Or.inl rfl)) (pgs_cons (pg_name (i := 3) sc14.nd rfl (Or.inl rfl)) pgs_nil)))
        (pss_one (ps_expr (pe_bm PySem.F.plainAttrs_list PySem.F.slot_list_extend PySem.F.type_list_extend mt_extend (pv 1) (pa_cons (pe_lst (pa_cons (pv 2) (pa_cons (pv 3) pa_nil))) pa_nil)))))
      (pss_one (ps_ret (pe_op op_cat (pv 1) (pe_lst (pa_cons (pe_ix ix_tup (pv 0) pe_int (fun _ _ => rfl)) pa_nil))))))) pss_nil)
    (pss_one (ps_ret (pe_lst pa_nil))))), ?_⟩
  cases d with
  | @yes _ a h =>
    refine w0F rfl h (by decide +kernel) ?_
    refine iteF ?_
    refine in2t (b := false) rfl h (by decide +kernel) fun H1 g1 => ?_
    refine iteF ?_
    refine w0F rfl (g1 _ _ h) (by decide +kernel) ?_
    refine iteF ?_
    refine ⟨Nat.zero_le _, fun p hp => ?_⟩
    exact q _ p [] (g1.trans (same_new hp _)) upd_same (fun x hx => absurd hx (by simp)) rfl (Nat.zero_le _)
  | @no _ a h =>
    refine w0F rfl h (by decide +kernel) ?_
    refine iteF ?_
    refine in2t (b := false) rfl h (by decide +kernel) fun H1 g1 => ?_
    refine iteF ?_
    refine w0F rfl (g1 _ _ h) (by decide +kernel) ?_
    refine iteF ?_
    refine ⟨Nat.zero_le _, fun p hp => ?_⟩
    exact q _ p [] (g1.trans (same_new hp _)) upd_same (fun x hx => absurd hx (by simp)) rfl (Nat.zero_le _)
  | @wish _ a i h hi =>
    refine w0F rfl h (by decide +kernel) ?_
    refine iteF ?_
    refine in2t (b := false) rfl h (by decide +kernel) fun H1 g1 => ?_
    refine iteF ?_
    refine w0F rfl (g1 _ _ h) (by decide +kernel) ?_
    refine iteF ?_
    refine ⟨Nat.zero_le _, fun p hp => ?_⟩
    exact q _ p [] (g1.trans (same_new hp _)) upd_same (fun x hx => absurd hx (by simp)) rfl (Nat.zero_le _)
  | @neg _ a v1 s1 f1 h d1 =>
    refine w0T rfl h (by decide +kernel) ?_
    refine iteT ?_
    refine ⟨_, rfl, a, _, 1, v1, rfl, rfl, SqT.of h, atI_nat (j := 1) rfl, (by show 1 ≤ sizeLine; decide), fun p hp => ?_⟩
    exact q _ p [(v1, s1, f1)] (same_new hp _) upd_same (fun x hx => by rw [List.mem_singleton.mp hx]; exact d1) (by simp) (by show 1 ≤ 9; omega)
  | @conj _ a b L h hb h1 h6 d1 =>
    refine w0F rfl h (by decide +kernel) ?_
    refine iteF ?_
    refine in2t (b := true) rfl h (by decide +kernel) fun H1 g1 => ?_
    refine iteT ?_
    refine ⟨_, rfl, a, _, 1, .ref b, rfl, rfl, SqT.of (g1 _ _ h), atI_nat (j := 1) rfl, b, _, rfl, .inr (SqT.of (g1 _ _ hb)), fun p hp => ?_⟩
    exact q _ p L (g1.trans (same_new hp _)) upd_same d1 rfl (by omega)
  | @disj _ a b L h hb h1 h6 d1 =>
    refine w0F rfl h (by decide +kernel) ?_
    refine iteF ?_
    refine in2t (b := true) rfl h (by decide +kernel) fun H1 g1 => ?_
    refine iteT ?_
    refine ⟨_, rfl, a, _, 1, .ref b, rfl, rfl, SqT.of (g1 _ _ h), atI_nat (j := 1) rfl, b, _, rfl, .inr (SqT.of (g1 _ _ hb)), fun p hp => ?_⟩
    exact q _ p L (g1.trans (same_new hp _)) upd_same d1 rfl (by omega)
  | @cases _ a b v1 s1 f1 L h hb h1 h4 hrw d1 d2 dl =>
    refine w0F rfl h (by decide +kernel) ?_
    refine iteF ?_
    refine in2t (b := false) rfl h (by decide +kernel) fun H1 g1 => ?_
    refine iteF ?_
    refine w0T rfl (g1 _ _ h) (by decide +kernel) ?_
    refine iteT ?_
    refine ⟨Nat.zero_le _, fun o ho => ?_⟩
    have g2 : Same H1 (upd H1 o (.lst [])) := same_new ho _
    have g3 := g1.trans g2
    refine ⟨_, rfl, a, _, 1, .ref b, rfl, rfl, SqT.of (g3 _ _ h), atI_nat (j := 1) rfl, b, rfl, ⟨_, SqT.of (g3 _ _ hb)⟩, ?_⟩
    refine for_tup (K := K) (a := b) (xs := L.map fun x => V.ref x.1) (fun i σ H2 => ∃ y2 y3, σ = [some (.ref a), some (.ref o), y2, y3] ∧ Same H1 H2 ∧ H2 o = some (.lst ((L.take i).flatMap fun x => [x.2.1.1, x.2.2.1])))
      ⟨none, none, rfl, g2, upd_same⟩ (fun i σ H2 _ ⟨_, _, _, g4, _⟩ => SqT.of (g4 _ _ (g1 _ _ hb))) ?_ ?_
    · rintro i x σ H2 hx ⟨y2, y3, rfl, g4, ho2⟩
      obtain ⟨c, hc, rfl⟩ : ∃ c, L[i]? = some c ∧ x = V.ref c.1 := by
        rw [List.getElem?_map] at hx
        cases e : L[i]? with
        | none =>
          rw [e] at hx
          cases hx
        | some c =>
          rw [e] at hx
          exact ⟨c, rfl, (Option.some.inj hx).symm⟩
      have hm : c ∈ L := List.mem_of_getElem? hc
      have hct := g4 _ _ (g1 _ _ (hrw c hm))
      refine ⟨c.1, [c.2.1.1, c.2.2.1], rfl, SqT.of hct, rfl, c.2.1.1, [c.2.2.1], rfl, c.2.2.1, [], rfl, rfl, ?_⟩
      refine ⟨.ref o, rfl, .inl ⟨rfl, _, SqL.of ho2⟩, c.2.1.1, rfl, c.2.2.1, rfl, (by show 2 ≤ sizeLine; decide), fun z hz => ?_⟩
      have noz : o ≠ z := ne_of_none ho2 hz
      refine ⟨o, z, _, _, rfl, rfl, (by rw [upd_ne noz]; exact ho2), upd_same, ?_, ?_⟩
      · have e1 := len_flat (L.take i)
        have e2 : ((L.take i).flatMap fun x => [x.2.1.1, x.2.2.1]).length = 2 * (L.take i).length := by
          rw [← map_flat, List.length_map, e1]
        rw [e2, List.length_take]
        refine line1000 ?_
        show 2 * min i L.length + 2 ≤ 1000
        omega
      · refine ⟨_, _, rfl, same_put (g4.trans (same_new hz _)) ho _, ?_⟩
        rw [upd_same, List.take_add_one, hc, List.flatMap_append]
        rfl
    · rintro σ H2 ⟨y2, y3, rfl, g4, ho2⟩
      rw [List.length_map, List.take_length] at ho2
      refine ⟨_, rfl, _, rfl, a, _, 2, v1, rfl, rfl, SqT.of (g4 _ _ (g1 _ _ h)), atI_nat (j := 2) rfl, (by show 1 ≤ sizeLine; decide), fun z hz => ?_⟩
      have noz : o ≠ z := ne_of_none ho2 hz
      refine ⟨o, z, _, _, rfl, rfl, (by rw [upd_ne noz]; exact ho2), upd_same, ?_, fun p hp => ?_⟩
      · rw [← map_flat, List.length_map, len_flat]
        refine line1000 ?_
        show 2 * L.length + 1 ≤ 1000
        omega
      · refine q _ p (cKids L (v1, s1, f1)) (g1.trans (g4.trans ((same_new hz _).trans (same_new hp _)))) ?_ (fun x hx => ?_) rfl ?_
        · rw [upd_same]
          unfold cKids
          rw [List.map_append, map_flat]
          rfl
        · rcases List.mem_append.mp hx with hx | hx
          · obtain ⟨c, hc, hx⟩ := List.mem_flatMap.mp hx
            rcases List.mem_cons.mp hx with rfl | hx
            · exact d1 c hc
            · rw [List.mem_singleton.mp hx]
              exact d2 c hc
          · rw [List.mem_singleton.mp hx]
            exact dl
        · unfold cKids
          rw [List.length_append, len_flat]
          show 2 * L.length + 1 ≤ 9
          omega
end
end K29

/-! K29 3: are_rows, is_form, parts_of, is_decision, answer, answer_cases. -/
namespace K29
open PySem L2
open PyProof.Rows (envOfC)
section
variable {P : Program} {w : World} {K : PySem.W.Frag} {mg : Str → Option Value} {base : Heap} {C : Addr}
/-! ### are_rows -/
def spAreRows : Sp := fun vs H Q _ => ∃ b, ∃ L : List CRow, vs = [.ref b] ∧ H b = some (.tup (L.map fun x => V.ref x.1)) ∧ 1 ≤ L.length ∧ L.length ≤ 4 ∧ (∀ x ∈ L, H x.1 = some (.tup [x.2.1.1, x.2.2.1])) ∧ ∀ H', Same H H' → Q (.bl true) H'
theorem sc16 : FnScope ["thing", "row"] ["thing"] (C8.fnScope (top 16)) := C8.fnScope_by (by decide +kernel)
theorem ok_arerows (D : DefOf K mg "are_rows" (top 16) ["thing"]) (T : Txt K mg C) : C8.Cal P w K mg base 1 "are_rows" spAreRows [] := by
  refine cal_of D sc16 (fun vs H Q E h => ?_) (fun fA cdv A outer s H vs Q E hr h => ?_)
  · obtain ⟨b, L, rfl, _⟩ := h
    rfl
  obtain ⟨b, L, rfl, hb, h1, h4, hrw, q⟩ := h
  obtain ⟨tk, hmg⟩ := T.mrows
  refine ⟨_, pss_cons (ps_if (PW.pt (pw_or (pt_not (pt_val (pe_isi "tuple" T.isinstance T.tuple (pv 0)))) (pw_or1 (pt_not (pt_chain op_le op_le pe_int (pe_len T.len (pv 0)) (pe_glob (v := .int 4) rfl hmg ⟨_, rfl⟩)))))) (pss_one (ps_ret pe_bl)) pss_nil)
    (pss_one (ps_ret (pe_callB (cr_all rfl) (by rfl) T.all (by decide +kernel) (pa_cons (pe_lc (own := [("row", 1)]) (g := gName 1) (tt := tYes) rfl sc16.nd (pi_tup (pv 0)) (blkOk_by (N := ["thing", "row"]) (sc := C8.fnScope (top 16)) (by decide +kernel))
      (fun _ _ _ _ _ => pg_name (i := 1) sc16.nd rfl (Or.inl rfl)) (fun _ _ _ _ _ => pts_nil)
      (fun _ _ _ _ _ => pe_and (pe_isi (K := K) "tuple" T.isinstance T.tuple (pv 1)) (pe_one (pe_cmpR op_eq (pe_len (K := K) T.len (pv 1)) pe_int (nomark _))))) pa_nil)))), ?_⟩
  refine ⟨_, rfl, _, _, _, _, true, rfl, .ty "tuple", .base (.tup hb), kit_ty (by decide +kernel), true, rfl, ?_⟩
  refine iteF ?_
  refine ⟨_, rfl, b, _, rfl, .inr (SqT.of hb), 1, _, rfl, rfl, true, ?_, ?_⟩
  · rw [List.length_map]
    show V.bl (decide ((1 : Int) ≤ (L.length : Int))) = V.bl true
    rw [decide_eq_true (by omega)]
  refine iteT ?_
  refine ⟨_, 4, rfl, rfl, true, ?_, ?_⟩
  · rw [List.length_map]
    show V.bl (decide ((L.length : Int) ≤ 4)) = V.bl true
    rw [decide_eq_true (by omega)]
  refine iteF ?_
  refine ⟨_, rfl, b, rfl, ⟨_, SqT.of hb⟩, fun Dd hD => lc_tup (K := K) (a := b) (xs := L.map fun x => V.ref x.1) (fun i H' => Same H H' ∧ H' Dd = some (.lst ((List.replicate i true).map V.bl))) ⟨same_new hD _, upd_same⟩
    (fun i H' _ ⟨g, _⟩ => SqT.of (g _ _ hb)) ?_ ?_⟩
  · rintro i x H' hx ⟨g, hd⟩
    refine ⟨rfl, ?_⟩
    obtain ⟨c, hc, rfl⟩ : ∃ c, L[i]? = some c ∧ x = V.ref c.1 := by
      rw [List.getElem?_map] at hx
      cases e : L[i]? with
      | none =>
        rw [e] at hx
        cases hx
      | some c =>
        rw [e] at hx
        exact ⟨c, rfl, (Option.some.inj hx).symm⟩
    have hi : i < L.length := (List.getElem?_eq_some_iff.mp hc).1
    have ht := g _ _ (hrw c (List.mem_of_getElem? hc))
    refine tY ?_
    refine ⟨_, rfl, _, _, _, _, true, rfl, .ty "tuple", .base (.tup ht), kit_ty (by decide +kernel), true, rfl, ?_⟩
    refine iteT ?_
    refine ⟨_, rfl, c.1, _, rfl, .inr (SqT.of ht), rfl, _, hd, ?_, same_put g hD _, ?_⟩
    · rw [List.length_map, List.length_replicate]
      exact small1000 (by omega)
    · rw [upd_same, List.replicate_succ', List.map_append]
      rfl
  · rintro H' ⟨g, hd⟩
    refine ⟨Dd, _, rfl, SqL.of hd, ?_⟩
    rw [all_true]
    exact q _ g
/-! ### is_form -/
def spForm : Sp := fun vs H Q _ => ∃ m n v sz f, vs = [v, .int (m : Nat)] ∧ DA m H (n + 1) v sz f ∧ ∀ H', Same H H' → Q (.bl true) H'
theorem sc15 : FnScope ["thing", "many"] ["thing", "many"] (C8.fnScope (top 15)) := C8.fnScope_by (by decide +kernel)
theorem ok_form (D : DefOf K mg "is_form" (top 15) ["thing", "many"]) (T : Txt K mg C) (cR : C8.Cal P w K mg base 1 "are_rows" spAreRows []) (cW : C8.Cal P w K mg base 2 "is_within" spWithin []) : C8.Cal P w K mg base 3 "is_form" spForm [] := by
  refine cal_of D sc15 (fun vs H Q E h => ?_) (fun fA cdv A outer s H vs Q E hr h => ?_)
  · obtain ⟨m, n, v, sz, f, rfl, _⟩ := h
    rfl
  obtain ⟨m, n, v, sz, f, rfl, d, q⟩ := h
  obtain ⟨tk, hmg⟩ := T.within
  refine ⟨_, pss_cons (ps_if (PW.pt (pw_or (pt_not (pt_val (pe_isi "tuple" T.isinstance T.tuple (pv 0)))) (pw_or (pt_cmpR (op_eqT0 hr.units) (pv 0) (pe_tup pa_nil) (nomark _)) (pw_or1 (pt_not (pt_val (pe_isi "str" T.isinstance T.str (pe_ix ix_tup (pv 0) pe_int (fun _ _ => rfl)))))))))
      (pss_one (ps_ret pe_bl)) pss_nil)
    (pss_cons (ps_if (pt_cmpR op_in_seq (pe_ix ix_tup (pv 0) pe_int (fun _ _ => rfl)) (pe_tup (pa_cons pe_str (pa_cons pe_str pa_nil))) (by rfl)) (pss_one (ps_ret (pe_cmpR op_eq (pe_len T.len (pv 0)) pe_int (nomark _)))) pss_nil)
    (pss_cons (ps_if (pt_cmpR op_eq (pe_ix ix_tup (pv 0) pe_int (fun _ _ => rfl)) pe_str (nomark _)) (pss_one (ps_ret (pe_and (pe_cmpR op_eq (pe_len T.len (pv 0)) pe_int (nomark _)) (pe_one (C8.pe_c cR hr (by decide) (by rfl) (pa_cons (pe_ix ix_tup (pv 0) pe_int (fun _ _ => rfl)) pa_nil)))))) pss_nil)
    (pss_cons (ps_if (pt_cmpR op_ne (pe_len T.len (pv 0)) pe_int (nomark _)) (pss_one (ps_ret pe_bl)) pss_nil)
    (pss_cons (ps_if (pt_cmpR op_eq (pe_ix ix_tup (pv 0) pe_int (fun _ _ => rfl)) pe_str (nomark _)) (pss_one (ps_ret (C8.pe_c cW hr (by decide) (by rfl) (pa_cons (pe_ix ix_tup (pv 0) pe_int (fun _ _ => rfl)) (pa_cons pe_int (pa_cons (pe_op op_sub (pv 1) pe_int) pa_nil)))))) pss_nil)
    (pss_cons (ps_if (pt_cmpR op_eq (pe_ix ix_tup (pv 0) pe_int (fun _ _ => rfl)) pe_str (nomark _)) (pss_one (ps_ret pe_bl)) pss_nil)
    (pss_one (ps_ret (pe_and (pe_cmpR op_in_seq (pe_ix ix_tup (pv 0) pe_int (fun _ _ => rfl)) (pe_tup (pa_cons pe_str (pa_cons pe_str pa_nil))) (by rfl)) (pe_and (pe_isi "tuple" T.isinstance T.tuple (pe_ix ix_tup (pv 0) pe_int (fun _ _ => rfl)))
      (pe_one (pe_chain op_le op_le pe_int (pe_len T.len (pe_ix ix_tup (pv 0) pe_int (fun _ _ => rfl))) (pe_glob (v := .int 6) rfl hmg ⟨_, rfl⟩)))))))))))), ?_⟩
  obtain ⟨a, wd, rest, rfl, ha⟩ := d.word
  -- the first test
  refine ⟨_, rfl, _, _, _, _, true, rfl, .ty "tuple", .base (.tup ha), kit_ty (by decide +kernel), true, rfl, ?_⟩
  refine iteF ?_
  refine ⟨_, rfl, Nat.zero_le _, fun e he => ?_⟩
  have ge : Same H (upd H e (.tup [])) := same_new he _
  refine ⟨a, e, _, rfl, rfl, SqT.of (ge _ _ ha), SqT.of upd_same, false, rfl, ?_⟩
  refine iteF ?_
  refine ⟨_, rfl, a, _, 0, _, rfl, rfl, SqT.of (ge _ _ ha), atI_nat (j := 0) rfl, _, _, _, _, true, rfl, .ty "str", .base (.str wd), kit_ty (by decide +kernel), true, rfl, ?_⟩
  refine iteF ?_
  generalize hH0 : upd H e (.tup []) = H0 at ge ⊢
  have d0 := d.same ge
  have q0 : ∀ H', Same H0 H' → Q (.bl true) H' := fun H' g => q H' (ge.trans g)
  clear ha d q hH0
  cases d0 with
  | @yes _ a h =>
    refine in2t (b := true) rfl h (by decide +kernel) fun H1 g1 => ?_
    refine iteT ?_
    refine ⟨_, rfl, a, _, rfl, .inr (SqT.of (g1 _ _ h)), rfl, ?_⟩
    exact q0 _ g1
  | @no _ a h =>
    refine in2t (b := true) rfl h (by decide +kernel) fun H1 g1 => ?_
    refine iteT ?_
    refine ⟨_, rfl, a, _, rfl, .inr (SqT.of (g1 _ _ h)), rfl, ?_⟩
    exact q0 _ g1
  | @wish _ a i h hi =>
    refine in2t (b := false) rfl h (by decide +kernel) fun H1 g1 => ?_
    refine iteF ?_
    have h' := g1 _ _ h
    refine w0F rfl h' (by decide +kernel) ?_
    refine iteF ?_
    refine ⟨_, rfl, a, _, rfl, .inr (SqT.of h'), rfl, false, rfl, ?_⟩
    refine iteF ?_
    refine w0T rfl h' (by decide +kernel) ?_
    refine iteT ?_
    refine ⟨_, rfl, a, _, 1, .int (i : Int), rfl, rfl, SqT.of h', atI_nat (j := 1) rfl, _, rfl, (m : Int), 1, rfl, rfl, (i : Int), 0, (m : Int) - 1, rfl, by omega, by omega, ?_⟩
    exact q0 _ g1
  | @neg _ a v1 s1 f1 h d1 =>
    refine in2t (b := false) rfl h (by decide +kernel) fun H1 g1 => ?_
    refine iteF ?_
    have h' := g1 _ _ h
    refine w0F rfl h' (by decide +kernel) ?_
    refine iteF ?_
    refine ⟨_, rfl, a, _, rfl, .inr (SqT.of h'), rfl, false, rfl, ?_⟩
    refine iteF ?_
    refine w0F rfl h' (by decide +kernel) ?_
    refine iteF ?_
    refine w0T rfl h' (by decide +kernel) ?_
    refine iteT ?_
    exact q0 _ g1
  | @conj _ a b L h hb h1 h6 d1 =>
    refine in2t (b := false) rfl h (by decide +kernel) fun H1 g1 => ?_
    refine iteF ?_
    have h' := g1 _ _ h
    refine w0F rfl h' (by decide +kernel) ?_
    refine iteF ?_
    refine ⟨_, rfl, a, _, rfl, .inr (SqT.of h'), rfl, false, rfl, ?_⟩
    refine iteF ?_
    refine w0F rfl h' (by decide +kernel) ?_
    refine iteF ?_
    refine w0F rfl h' (by decide +kernel) ?_
    refine iteF ?_
    refine in2 (b := true) rfl h' (by decide +kernel) fun H2 g2 => ⟨true, rfl, ?_⟩
    refine iteT ?_
    have h'' := g2 _ _ h'
    have hb'' := g2 _ _ (g1 _ _ hb)
    refine ⟨_, rfl, a, _, 1, .ref b, rfl, rfl, SqT.of h'', atI_nat (j := 1) rfl, _, _, _, _, true, rfl, .ty "tuple", .base (.tup hb''), kit_ty (by decide +kernel), true, rfl, ?_⟩
    refine iteT ?_
    refine ⟨_, rfl, a, _, 1, .ref b, rfl, rfl, SqT.of h'', atI_nat (j := 1) rfl, b, _, rfl, .inr (SqT.of hb''), 1, _, rfl, rfl, true, ?_, ?_⟩
    · rw [List.length_map]
      show V.bl (decide ((1 : Int) ≤ (L.length : Int))) = V.bl true
      rw [decide_eq_true (by omega)]
    refine iteT ?_
    refine ⟨_, 6, rfl, rfl, ?_⟩
    show Q (V.bl (decide (((L.map fun x => x.1).length : Int) ≤ 6))) H2
    rw [List.length_map, decide_eq_true (by omega)]
    exact q0 _ (g1.trans g2)
  | @disj _ a b L h hb h1 h6 d1 =>
    refine in2t (b := false) rfl h (by decide +kernel) fun H1 g1 => ?_
    refine iteF ?_
    have h' := g1 _ _ h
    refine w0F rfl h' (by decide +kernel) ?_
    refine iteF ?_
    refine ⟨_, rfl, a, _, rfl, .inr (SqT.of h'), rfl, false, rfl, ?_⟩
    refine iteF ?_
    refine w0F rfl h' (by decide +kernel) ?_
    refine iteF ?_
    refine w0F rfl h' (by decide +kernel) ?_
    refine iteF ?_
    refine in2 (b := true) rfl h' (by decide +kernel) fun H2 g2 => ⟨true, rfl, ?_⟩
    refine iteT ?_
    have h'' := g2 _ _ h'
    have hb'' := g2 _ _ (g1 _ _ hb)
    refine ⟨_, rfl, a, _, 1, .ref b, rfl, rfl, SqT.of h'', atI_nat (j := 1) rfl, _, _, _, _, true, rfl, .ty "tuple", .base (.tup hb''), kit_ty (by decide +kernel), true, rfl, ?_⟩
    refine iteT ?_
    refine ⟨_, rfl, a, _, 1, .ref b, rfl, rfl, SqT.of h'', atI_nat (j := 1) rfl, b, _, rfl, .inr (SqT.of hb''), 1, _, rfl, rfl, true, ?_, ?_⟩
    · rw [List.length_map]
      show V.bl (decide ((1 : Int) ≤ (L.length : Int))) = V.bl true
      rw [decide_eq_true (by omega)]
    refine iteT ?_
    refine ⟨_, 6, rfl, rfl, ?_⟩
    show Q (V.bl (decide (((L.map fun x => x.1).length : Int) ≤ 6))) H2
    rw [List.length_map, decide_eq_true (by omega)]
    exact q0 _ (g1.trans g2)
  | @cases _ a b v1 s1 f1 L h hb h1 h4 hrw d1 d2 dl =>
    refine in2t (b := false) rfl h (by decide +kernel) fun H1 g1 => ?_
    refine iteF ?_
    have h' := g1 _ _ h
    refine w0T rfl h' (by decide +kernel) ?_
    refine iteT ?_
    refine ⟨_, rfl, a, _, rfl, .inr (SqT.of h'), rfl, true, rfl, ?_⟩
    refine iteT ?_
    refine ⟨_, rfl, a, _, 1, .ref b, rfl, rfl, SqT.of h', atI_nat (j := 1) rfl, b, L, rfl, g1 _ _ hb, h1, h4, fun x hx => g1 _ _ (hrw x hx), fun H2 g2 => ?_⟩
    exact q0 _ (g1.trans g2)
end
end K29

/-! K29 4: parts_of, is_decision, answer, answer_cases. -/
namespace K29
open PySem L2
open PyProof.Rows (envOfC)
section
variable {P : Program} {w : World} {K : PySem.W.Frag} {mg : Str → Option Value} {base : Heap} {C : Addr}
/-- a promise that nobody can ask for -/
theorem cal_never {x : Str} {st : Stmt} {ps : List Str} {k : Nat} {sp : Sp} (D : DefOf K mg x st ps) (no : ∀ vs H Q E, ¬ sp vs H Q E) : C8.Cal P w K mg base k x sp [] := by
  obtain ⟨f, fd, F, b⟩ := D
  exact ⟨f, fd, ps, [], ⟨fun vs H Q E h => absurd h (no _ _ _ _), fun A outer s H args us vs Q E _ _ _ _ h => absurd h (no _ _ _ _)⟩, F.mgf, F.kp, b, .nil⟩
theorem cal_mono {x : Str} {j k : Nat} {sp : Sp} {dvs : List V} (c : C8.Cal P w K mg base j x sp dvs) (h : j ≤ k) : C8.Cal P w K mg base k x sp dvs := by
  obtain ⟨f, fd, ps, ds, F, a, b, c, d⟩ := c
  exact ⟨f, fd, ps, ds, F.mono h, a, b, c, d⟩
/-- the same def by another name -/
theorem cal_alias {x y : Str} {k : Nat} {sp : Sp} {dvs : List V} (c : C8.Cal P w K mg base k x sp dvs) (h : mg y = mg x) : C8.Cal P w K mg base k y sp dvs := by
  obtain ⟨f, fd, ps, ds, F, a, b, c, d⟩ := c
  exact ⟨f, fd, ps, ds, F, h.trans a, b, c, d⟩
/-! ### parts_of -/
def spParts (n : Nat) : Sp := fun vs H Q _ => ∃ m v sz f room, vs = [v, .int (m : Nat), .int room] ∧ DA m H n v sz f ∧ sz ≤ 60 ∧ (n : Int) ≤ room ∧ ∀ H', Same H H' → Q (.int (sz : Nat)) H'
theorem sc17 : FnScope ["thing", "many", "room", "found", "part", "inner"] ["thing", "many", "room"] (C8.fnScope (top 17)) := C8.fnScope_by (by decide +kernel)
theorem sum_take3 {L : List D3} {i : Nat} {x : D3} (h : L[i]? = some x) : ((L.take (i + 1)).map fun y => y.2.1).sum = ((L.take i).map fun y => y.2.1).sum + x.2.1 := by
  rw [List.take_add_one, h, List.map_append, List.sum_append]
  simp
theorem sum_le3 (L : List D3) (i : Nat) : ((L.take i).map fun y => y.2.1).sum ≤ (L.map fun y => y.2.1).sum := by
  have e : (L.map fun y => y.2.1).sum = ((L.take i).map fun y => y.2.1).sum + ((L.drop i).map fun y => y.2.1).sum := by
    rw [← List.sum_append, ← List.map_append, List.take_append_drop]
  omega
theorem ok_parts (D : DefOf K mg "parts_of" (top 17) ["thing", "many", "room"]) (T : Txt K mg C) (cI : C8.Cal P w K mg base 1 "inner_parts" spInner []) (cF : C8.Cal P w K mg base 3 "is_form" spForm []) :
    ∀ n : Nat, C8.Cal P w K mg base (n + 3) "parts_of" (spParts n) []
  | 0 => cal_never D fun vs H Q E h => by
    obtain ⟨m, v, sz, f, room, _, d, _⟩ := h
    have := d.pos
    omega
  | n + 1 => by
    have ih := ok_parts D T cI cF n
    refine cal_of D sc17 (fun vs H Q E h => ?_) (fun fA cdv A outer s H vs Q E hr h => ?_)
    · obtain ⟨m, v, sz, f, room, rfl, _⟩ := h
      rfl
    obtain ⟨m, v, sz, f, room, rfl, d, h60, hroom, q⟩ := h
    obtain ⟨tk, hmg⟩ := T.parts
    refine ⟨_, pss_cons (ps_if (PW.pt (pw_or (pt_cmpR op_lt (pv 2) pe_int (nomark _)) (pw_or1 (pt_not (pt_val (C8.pe_c cF hr (by omega) (by rfl) (pa_cons (pv 0) (pa_cons (pv 1) pa_nil)))))))) (pss_one (ps_ret pe_non)) pss_nil)
      (pss_cons (ps_set (i := 3) sc17.nd rfl (Or.inl rfl) pe_int)
      (pss_cons (ps_for PassesOwn.never rfl (pi_list (C8.pe_c cI hr (by omega) (by rfl) (pa_cons (pv 0) pa_nil))) (pg_name (i := 4) sc17.nd rfl (Or.inl rfl))
        (pss_cons (ps_set (i := 5) sc17.nd rfl (Or.inl rfl) (C8.pe_c ih hr (by omega) (by rfl) (pa_cons (pv 4) (pa_cons (pv 1) (pa_cons (pe_op op_sub (pv 2) pe_int) pa_nil)))))
        (pss_cons (ps_if (PW.pt (pw_or (pt_cmpR op_isN (pv 5) pe_non (nomark _)) (pw_or1 (pt_cmpR op_gt (pe_op op_add (pv 3) (pv 5)) (pe_glob (v := .int 60) rfl hmg ⟨_, rfl⟩) (nomark _))))) (pss_one (ps_ret pe_non)) pss_nil)
        (pss_one (ps_aug (i := 3) sc17.nd rfl (.inl rfl) (pv 5) ip_add)))))
      (pss_one (ps_ret (pv 3))))), ?_⟩
    -- room < 1 or not is_form
    refine ⟨_, rfl, room, 1, rfl, rfl, false, ?_, ?_⟩
    · show V.bl (decide (room < 1)) = V.bl false
      rw [decide_eq_false (by omega)]
    refine iteF ?_
    refine ⟨_, rfl, _, rfl, m, n, v, sz, f, rfl, d, fun H1 g1 => ⟨true, rfl, ?_⟩⟩
    refine iteF ?_
    -- the loop
    refine ⟨_, rfl, m, n, v, sz, f, rfl, d.same g1, fun H2 p L g2 hp dL hs hl => ⟨p, rfl, ⟨_, SqL.of hp⟩, ?_⟩⟩
    refine for_list (K := K) (a := p) (xs := L.map fun x => x.1) (fun i σ H3 => ∃ y4 y5, σ = [some v, some (.int (m : Nat)), some (.int room), some (.int ((1 + ((L.take i).map fun y => y.2.1).sum : Nat) : Int)), y4, y5] ∧ Same H2 H3)
      ⟨none, none, rfl, Same.refl _⟩ (fun i σ H3 _ ⟨_, _, _, g3⟩ => SqL.of (g3 _ _ hp)) ?_ ?_
    · rintro i x σ H3 hx ⟨y4, y5, rfl, g3⟩
      obtain ⟨c, hc, rfl⟩ : ∃ c, L[i]? = some c ∧ x = c.1 := by
        rw [List.getElem?_map] at hx
        cases e : L[i]? with
        | none =>
          rw [e] at hx
          cases hx
        | some c =>
          rw [e] at hx
          exact ⟨c, rfl, (Option.some.inj hx).symm⟩
      have st := sum_take3 hc
      have sl := sum_le3 L (i + 1)
      refine ⟨_, rfl, _, rfl, _, rfl, room, 1, rfl, rfl, m, c.1, c.2.1, c.2.2, room - 1, rfl, (dL c (List.mem_of_getElem? hc)).same (g2.trans g3), by omega, by omega, fun H4 g4 => ?_⟩
      refine ⟨_, rfl, rfl, false, rfl, ?_⟩
      refine iteF ?_
      refine ⟨_, rfl, _, rfl, _, _, rfl, rfl, _, 60, rfl, rfl, false, ?_, ?_⟩
      · show V.bl (decide ((60 : Int) < ((1 + ((L.take i).map fun y => y.2.1).sum : Nat) : Int) + (c.2.1 : Int))) = V.bl false
        rw [decide_eq_false (by omega)]
      refine iteF ?_
      refine ⟨_, rfl, _, rfl, _, _, rfl, rfl, ?_⟩
      refine ⟨some c.1, some (.int (c.2.1 : Int)), ?_, g3.trans g4⟩
      have e : (((1 + ((L.take i).map fun y => y.2.1).sum : Nat) : Int) + (c.2.1 : Int)) = ((1 + ((L.take (i + 1)).map fun y => y.2.1).sum : Nat) : Int) := by
        rw [st]
        omega
      rw [← e]
      rfl
    · rintro σ H3 ⟨y4, y5, rfl, g3⟩
      rw [List.length_map, List.take_length]
      refine ⟨_, rfl, ?_⟩
      rw [← hs]
      exact q _ (g1.trans (g2.trans g3))
/-! ### is_decision -/
def spIsDec : Sp := fun vs H Q _ => ∃ m v n sz f, vs = [v, .int (m : Nat)] ∧ DA m H n v sz f ∧ sz ≤ 60 ∧ n ≤ 12 ∧ ∀ H', Same H H' → Q (.bl true) H'
theorem sc18 : FnScope ["thing", "many"] ["thing", "many"] (C8.fnScope (top 18)) := C8.fnScope_by (by decide +kernel)
theorem ok_isdec (D : DefOf K mg "is_decision" (top 18) ["thing", "many"]) (T : Txt K mg C) (cP : ∀ n : Nat, C8.Cal P w K mg base (n + 3) "parts_of" (spParts n) []) : C8.Cal P w K mg base 16 "is_decision" spIsDec [] := by
  refine cal_of D sc18 (fun vs H Q E h => ?_) (fun fA cdv A outer s H vs Q E hr h => ?_)
  · obtain ⟨m, v, n, sz, f, rfl, _⟩ := h
    rfl
  obtain ⟨m, v, n, sz, f, rfl, d, h60, h12, q⟩ := h
  obtain ⟨tk, hmg⟩ := T.deepest
  refine ⟨_, pss_one (ps_ret (pe_cmpR op_notN (C8.pe_c (cP n) hr (by omega) (by rfl) (pa_cons (pv 0) (pa_cons (pv 1) (pa_cons (pe_glob (v := .int 12) rfl hmg ⟨_, rfl⟩) pa_nil)))) pe_non (nomark _))), ?_⟩
  refine ⟨_, rfl, _, rfl, m, v, sz, f, 12, rfl, d, h60, by omega, fun H1 g1 => ⟨rfl, ?_⟩⟩
  exact q _ g1
/-! ### answer and answer_cases -/
def spAns (n : Nat) : Sp := fun vs H Q _ => ∃ m v sz f a r, vs = [v, .ref a] ∧ DA m H n v sz f ∧ H a = some (.tup (bls r)) ∧ r.length = m ∧ ∀ H', Same H H' → Q (.bl (f r)) H'
/-- for cases alone -/
def spAnsC (n : Nat) : Sp := fun vs H Q _ => ∃ m, ∃ b : Addr, ∃ v s f, ∃ L : List CRow, ∃ a0 a r, vs = [.ref a0, .ref a] ∧ H a0 = some (.tup [.str "cases", .ref b, v]) ∧ H b = some (.tup (L.map fun x => V.ref x.1)) ∧ (∀ x ∈ L, H x.1 = some (.tup [x.2.1.1, x.2.2.1])) ∧
  (∀ x ∈ L, DA m H n x.2.1.1 x.2.1.2.1 x.2.1.2.2) ∧ (∀ x ∈ L, DA m H n x.2.2.1 x.2.2.2.1 x.2.2.2.2) ∧ DA m H n v s f ∧ H a = some (.tup (bls r)) ∧ r.length = m ∧ ∀ H', Same H H' → Q (.bl (ladder f L r)) H'
theorem sc19 : FnScope ["decision", "row", "test", "told"] ["decision", "row"] (C8.fnScope (top 19)) := C8.fnScope_by (by decide +kernel)
theorem sc20 : FnScope ["decision", "row", "answers", "part"] ["decision", "row"] (C8.fnScope (top 20)) := C8.fnScope_by (by decide +kernel)
theorem ok_anscases {n k : Nat} (D : DefOf K mg "answer_cases" (top 19) ["decision", "row"]) (cA : C8.Cal P w K mg base k "answer_decisions" (spAns n) []) : C8.Cal P w K mg base (k + 1) "answer_cases" (spAnsC n) [] := by
  refine cal_of D sc19 (fun vs H Q E h => ?_) (fun fA cdv A outer s H vs Q E hr h => ?_)
  · obtain ⟨m, b, v, s, f, L, a0, a, r, rfl, _⟩ := h
    rfl
  obtain ⟨m, b, v, s1, f, L, a0, a, r, rfl, h0, hb, hrw, d1, d2, dl, ha, hm, q⟩ := h
  refine ⟨_, pss_cons (ps_for PassesOwn.never rfl (pi_tup (pe_ix ix_tup (pv 0) pe_int (fun _ _ => rfl))) (pg_tup rfl (pgs_cons (pg_name (i := 2) sc19.nd rfl (Or.inl rfl)) (pgs_cons (pg_name (i := 3) sc19.nd rfl (Or.inl rfl)) pgs_nil)))
      (pss_one (ps_if (pt_val (C8.pe_c cA hr (by omega) (by rfl) (pa_cons (pv 2) (pa_cons (pv 1) pa_nil)))) (pss_one (ps_ret (C8.pe_c cA hr (by omega) (by rfl) (pa_cons (pv 3) (pa_cons (pv 1) pa_nil))))) pss_nil)))
    (pss_one (ps_ret (C8.pe_c cA hr (by omega) (by rfl) (pa_cons (pe_ix ix_tup (pv 0) pe_int (fun _ _ => rfl)) (pa_cons (pv 1) pa_nil))))), ?_⟩
  refine ⟨_, rfl, a0, _, 1, .ref b, rfl, rfl, SqT.of h0, atI_nat (j := 1) rfl, b, rfl, ⟨_, SqT.of hb⟩, ?_⟩
  refine for_tup (K := K) (a := b) (xs := L.map fun x => V.ref x.1) (fun i σ H2 => ∃ y2 y3, σ = [some (.ref a0), some (.ref a), y2, y3] ∧ Same H H2 ∧ ladder f L r = ladder f (L.drop i) r)
    ⟨none, none, rfl, Same.refl _, rfl⟩ (fun i σ H2 _ ⟨_, _, _, g, _⟩ => SqT.of (g _ _ hb)) ?_ ?_
  · rintro i x σ H2 hx ⟨y2, y3, rfl, g, el⟩
    obtain ⟨c, hc, rfl⟩ : ∃ c, L[i]? = some c ∧ x = V.ref c.1 := by
      rw [List.getElem?_map] at hx
      cases e : L[i]? with
      | none =>
        rw [e] at hx
        cases hx
      | some c =>
        rw [e] at hx
        exact ⟨c, rfl, (Option.some.inj hx).symm⟩
    have hmem : c ∈ L := List.mem_of_getElem? hc
    obtain ⟨hi, ei⟩ := List.getElem?_eq_some_iff.mp hc
    have ed : L.drop i = c :: L.drop (i + 1) := by
      rw [List.drop_eq_getElem_cons hi, ei]
    have hct := g _ _ (hrw c hmem)
    refine ⟨c.1, [c.2.1.1, c.2.2.1], rfl, SqT.of hct, rfl, c.2.1.1, [c.2.2.1], rfl, c.2.2.1, [], rfl, rfl, ?_⟩
    refine ⟨_, rfl, _, rfl, m, c.2.1.1, c.2.1.2.1, c.2.1.2.2, a, r, rfl, (d1 c hmem).same g, g _ _ ha, hm, fun H3 g3 => ⟨_, rfl, ?_⟩⟩
    cases et : c.2.1.2.2 r with
    | true =>
      refine iteT ?_
      refine ⟨_, rfl, _, rfl, m, c.2.2.1, c.2.2.2.1, c.2.2.2.2, a, r, rfl, (d2 c hmem).same (g.trans g3), g3 _ _ (g _ _ ha), hm, fun H4 g4 => ?_⟩
      have e : c.2.2.2.2 r = ladder f L r := by
        rw [el, ed]
        show _ = if c.2.1.2.2 r = true then c.2.2.2.2 r else ladder f (L.drop (i + 1)) r
        rw [if_pos et]
      rw [e]
      exact q _ (g.trans (g3.trans g4))
    | false =>
      refine iteF ?_
      refine ⟨_, _, rfl, g.trans g3, ?_⟩
      rw [el, ed]
      show (if c.2.1.2.2 r = true then c.2.2.2.2 r else ladder f (L.drop (i + 1)) r) = _
      rw [if_neg (by rw [et]; exact Bool.false_ne_true)]
  · rintro σ H2 ⟨y2, y3, rfl, g, el⟩
    rw [List.length_map, List.drop_length] at el
    refine ⟨_, rfl, a0, _, 2, v, rfl, rfl, SqT.of (g _ _ h0), atI_nat (j := 2) rfl, _, rfl, m, v, s1, f, a, r, rfl, dl.same g, g _ _ ha, hm, fun H4 g4 => ?_⟩
    have e : f r = ladder f L r := by
      rw [el]
      rfl
    rw [e]
    exact q _ (g.trans g4)
theorem ok_answer1 {n k : Nat} (D : DefOf K mg "answer" (top 20) ["decision", "row"]) (T : Txt K mg C) (cA : C8.Cal P w K mg base k "answer_decisions" (spAns n) []) (cC : C8.Cal P w K mg base (k + 1) "answer_cases" (spAnsC n) []) :
    C8.Cal P w K mg base (k + 2) "answer" (spAns (n + 1)) [] := by
  refine cal_of D sc20 (fun vs H Q E h => ?_) (fun fA cdv A outer s H vs Q E hr h => ?_)
  · obtain ⟨m, v, s, f, a, r, rfl, _⟩ := h
    rfl
  obtain ⟨m, v, s, f, ar, r, rfl, d, har, hm, q⟩ := h
  refine ⟨_, pss_cons (ps_if (pt_cmpR op_eq (pe_ix ix_tup (pv 0) pe_int (fun _ _ => rfl)) pe_str (nomark _)) (pss_one (ps_ret (C8.pe_c cC hr (by omega) (by rfl) (pa_cons (pv 0) (pa_cons (pv 1) pa_nil))))) pss_nil)
    (pss_cons (ps_if (pt_cmpR op_eq (pe_ix ix_tup (pv 0) pe_int (fun _ _ => rfl)) pe_str (nomark _)) (pss_one (ps_ret (pe_ix ix_tup (pv 1) (pe_ix ix_tup (pv 0) pe_int (fun _ _ => rfl)) (fun _ _ => rfl)))) pss_nil)
    (pss_cons (ps_if (pt_cmpR op_eq (pe_ix ix_tup (pv 0) pe_int (fun _ _ => rfl)) pe_str (nomark _)) (pss_one (ps_ret (pe_not (C8.pe_c cA hr (by omega) (by rfl) (pa_cons (pe_ix ix_tup (pv 0) pe_int (fun _ _ => rfl)) (pa_cons (pv 1) pa_nil)))))) pss_nil)
    (pss_cons (ps_if (pt_cmpR op_in_seq (pe_ix ix_tup (pv 0) pe_int (fun _ _ => rfl)) (pe_tup (pa_cons pe_str (pa_cons pe_str pa_nil))) (by rfl)) (pss_one (ps_ret (pe_cmpR op_eq (pe_ix ix_tup (pv 0) pe_int (fun _ _ => rfl)) pe_str (nomark _)))) pss_nil)
    (pss_cons (ps_setLc (i := 2) (own := [("part", 3)]) (g := gName 3) (tt := tYes) rfl sc20.nd rfl rfl (sw_true rfl rfl rfl (by decide +kernel)) (pi_tup (pe_ix ix_tup (pv 0) pe_int (fun _ _ => rfl))) (blkOk_by (N := ["decision", "row", "answers", "part"]) (sc := C8.fnScope (top 20)) (by decide +kernel))
      (fun _ _ _ _ _ => pg_name (i := 3) sc20.nd rfl (Or.inl rfl)) (fun _ _ _ _ _ => pts_nil)
      (fun _ _ _ _ _ => C8.pe_c (k := k) (sp := spAns n) cA hr (by omega) (by rfl) (pa_cons (pv 3) (pa_cons (pv 1) pa_nil))))
    (pss_cons (ps_if (pt_cmpR op_eq (pe_ix ix_tup (pv 0) pe_int (fun _ _ => rfl)) pe_str (nomark _)) (pss_one (ps_ret (pe_callB (cr_all rfl) (by rfl) T.all (by decide +kernel) (pa_cons (pv 2) pa_nil)))) pss_nil)
    (pss_one (ps_ret (pe_callB (cr_any rfl) (by rfl) T.any (by decide +kernel) (pa_cons (pv 2) pa_nil))))))))), ?_⟩
  -- all parts' answers: a list
  have comp : ∀ (H0 : Hp) (a b : Addr) (L : List D3) (σ : L2.St) (Dd : Addr) (Qd : Hp → Prop), H0 Dd = none → σ = [some (.ref a), some (.ref ar), none, none] → Same H H0 → H0 b = some (.tup (L.map fun x => x.1)) → L.length ≤ 6 → (∀ x ∈ L, DA m H0 n x.1 x.2.1 x.2.2) →
      (∀ H1, Same H0 H1 → H1 Dd = some (.lst ((L.map fun x => x.2.2 r).map V.bl)) → Qd H1) →
      ∃ W : Nat → Nat → Hp → Prop, (∃ m, W 0 m (upd H0 Dd (.lst []))) ∧ ∀ i m H, W i m H → ((Itt K b).stop i H ∧ Qd H) ∨ ((Itt K b).go i H ∧ ∃ Nx : Hp → Prop, (∀ H', Nx H' → ∃ m', m' < m ∧ W (i + 1) m' H') ∧
        ∀ x H', (Itt K b).yld i H x H' → gName 3 x (wipe σ [3]) H' fun σ2 H2 => wipe σ2 [3] = wipe σ [3] ∧ tYes σ2 H2 fun b H3 =>
          if b = true then tCall (spAns n) [] C8.E0 (tCons (tVar 3) (tCons (tVar 1) tNil)) σ2 H3 fun y H4 => ∃ acc, H4 Dd = some (.lst acc) ∧ acc.length < sizeLine ∧ Nx (upd H4 Dd (.lst (acc ++ [y]))) else Nx H3) := by
    intro H0 a b L σ Dd Qd hD hσ g0 hb h6 dL q'
    subst hσ
    refine lc_tup (K := K) (a := b) (xs := L.map fun x => x.1) (fun i H' => Same H0 H' ∧ H' Dd = some (.lst (((L.take i).map fun x => x.2.2 r).map V.bl))) ⟨same_new hD _, upd_same⟩ (fun i H' _ ⟨g, _⟩ => SqT.of (g _ _ hb)) ?_ ?_
    · rintro i x H' hx ⟨g, hd⟩
      refine ⟨rfl, ?_⟩
      obtain ⟨c, hc, rfl⟩ : ∃ c, L[i]? = some c ∧ x = c.1 := by
        rw [List.getElem?_map] at hx
        cases e : L[i]? with
        | none =>
          rw [e] at hx
          cases hx
        | some c =>
          rw [e] at hx
          exact ⟨c, rfl, (Option.some.inj hx).symm⟩
      refine tY ?_
      refine ⟨_, rfl, _, rfl, m, c.1, c.2.1, c.2.2, ar, r, rfl, (dL c (List.mem_of_getElem? hc)).same g, g _ _ (g0 _ _ har), hm, fun H4 g4 => ⟨_, g4 _ _ hd, ?_, same_put (g.trans g4) hD _, ?_⟩⟩
      · rw [List.length_map, List.length_map, List.length_take]
        exact small1000 (by omega)
      · rw [upd_same, List.take_add_one, hc, List.map_append, List.map_append]
        rfl
    · rintro H' ⟨g, hd⟩
      rw [List.length_map, List.take_length] at hd
      exact q' _ g hd
  cases d with
  | @yes _ a h =>
    refine w0F rfl h (by decide +kernel) ?_
    refine iteF ?_
    refine w0F rfl h (by decide +kernel) ?_
    refine iteF ?_
    refine w0F rfl h (by decide +kernel) ?_
    refine iteF ?_
    refine in2t (b := true) rfl h (by decide +kernel) fun H1 g1 => ?_
    refine iteT ?_
    refine ⟨_, rfl, a, _, 0, _, rfl, rfl, SqT.of (g1 _ _ h), atI_nat (j := 0) rfl, rfl, ?_⟩
    exact q _ g1
  | @no _ a h =>
    refine w0F rfl h (by decide +kernel) ?_
    refine iteF ?_
    refine w0F rfl h (by decide +kernel) ?_
    refine iteF ?_
    refine w0F rfl h (by decide +kernel) ?_
    refine iteF ?_
    refine in2t (b := true) rfl h (by decide +kernel) fun H1 g1 => ?_
    refine iteT ?_
    refine ⟨_, rfl, a, _, 0, _, rfl, rfl, SqT.of (g1 _ _ h), atI_nat (j := 0) rfl, rfl, ?_⟩
    have e : decide (V.str (Str.ofString "no") = V.str (Str.ofString "yes")) = false := by decide +kernel
    rw [e]
    exact q _ g1
  | @wish _ a i h hi =>
    refine w0F rfl h (by decide +kernel) ?_
    refine iteF ?_
    refine w0T rfl h (by decide +kernel) ?_
    refine iteT ?_
    have hil : i < r.length := by omega
    refine ⟨_, rfl, _, rfl, a, _, 1, .int (i : Int), rfl, rfl, SqT.of h, atI_nat (j := 1) rfl, ar, _, (i : Int), .bl r[i], rfl, rfl, SqT.of har, atI_nat (by rw [List.getElem?_map, List.getElem?_eq_getElem hil]; rfl), ?_⟩
    have e : r[i] = r.getD i false := by rw [List.getD_eq_getElem?_getD, List.getElem?_eq_getElem hil]; rfl
    rw [e]
    exact q _ (Same.refl _)
  | @neg _ a v1 s1 f1 h d1 =>
    refine w0F rfl h (by decide +kernel) ?_
    refine iteF ?_
    refine w0F rfl h (by decide +kernel) ?_
    refine iteF ?_
    refine w0T rfl h (by decide +kernel) ?_
    refine iteT ?_
    refine ⟨_, rfl, a, _, 1, v1, rfl, rfl, SqT.of h, atI_nat (j := 1) rfl, _, rfl, m, v1, s1, f1, ar, r, rfl, d1, har, hm, fun H1 g1 => ⟨_, rfl, ?_⟩⟩
    exact q _ g1
  | @conj _ a b L h hb h1 h6 d1 =>
    refine w0F rfl h (by decide +kernel) ?_
    refine iteF ?_
    refine w0F rfl h (by decide +kernel) ?_
    refine iteF ?_
    refine w0F rfl h (by decide +kernel) ?_
    refine iteF ?_
    refine in2t (b := false) rfl h (by decide +kernel) fun H1 g1 => ?_
    refine iteF ?_
    refine ⟨_, rfl, a, _, 1, .ref b, rfl, rfl, SqT.of (g1 _ _ h), atI_nat (j := 1) rfl, b, rfl, ⟨_, SqT.of (g1 _ _ hb)⟩, fun Dd hD => ?_⟩
    refine comp H1 a b L _ Dd _ hD rfl g1 (g1 _ _ hb) h6 (fun x hx => (d1 x hx).same g1) fun H2 g2 hd => ?_
    refine w0T rfl (g2 _ _ (g1 _ _ h)) (by decide +kernel) ?_
    refine iteT ?_
    refine ⟨_, rfl, Dd, _, rfl, SqL.of hd, ?_⟩
    rw [List.all_map]
    exact q _ (g1.trans g2)
  | @disj _ a b L h hb h1 h6 d1 =>
    refine w0F rfl h (by decide +kernel) ?_
    refine iteF ?_
    refine w0F rfl h (by decide +kernel) ?_
    refine iteF ?_
    refine w0F rfl h (by decide +kernel) ?_
    refine iteF ?_
    refine in2t (b := false) rfl h (by decide +kernel) fun H1 g1 => ?_
    refine iteF ?_
    refine ⟨_, rfl, a, _, 1, .ref b, rfl, rfl, SqT.of (g1 _ _ h), atI_nat (j := 1) rfl, b, rfl, ⟨_, SqT.of (g1 _ _ hb)⟩, fun Dd hD => ?_⟩
    refine comp H1 a b L _ Dd _ hD rfl g1 (g1 _ _ hb) h6 (fun x hx => (d1 x hx).same g1) fun H2 g2 hd => ?_
    refine w0F rfl (g2 _ _ (g1 _ _ h)) (by decide +kernel) ?_
    refine iteF ?_
    refine ⟨_, rfl, Dd, _, rfl, SqL.of hd, ?_⟩
    rw [List.any_map]
    exact q _ (g1.trans g2)
  | @cases _ a b v1 s1 f1 L h hb h1 h4 hrw d1 d2 dl =>
    refine w0T rfl h (by decide +kernel) ?_
    refine iteT ?_
    exact ⟨_, rfl, _, rfl, m, b, v1, s1, f1, L, a, ar, r, rfl, h, hb, hrw, d1, d2, dl, har, hm, q⟩
theorem ok_answer (DA' : DefOf K mg "answer" (top 20) ["decision", "row"]) (DC : DefOf K mg "answer_cases" (top 19) ["decision", "row"]) (al : mg "answer_decisions" = mg "answer") (T : Txt K mg C) : ∀ n : Nat, C8.Cal P w K mg base (2 * n) "answer_decisions" (spAns n) []
  | 0 => cal_alias (cal_never DA' fun vs H Q E h => by
    obtain ⟨m, v, s, f, a, r, _, d, _⟩ := h
    have := d.pos
    omega) al
  | n + 1 => by
    have ih := ok_answer DA' DC al T n
    exact cal_alias (ok_answer1 DA' T ih (ok_anscases DC ih)) al
end
end K29

/-! K29 5: rows, plain and in the heap; all_rows, look_at_rows, look_at_wish, turned_about. -/
namespace K29
open PySem L2
open PyProof.Rows (envOfC)
/-! ### rows, plain -/
/-- a row with one wish turned about -/
def flip (r : List Bool) (w : Nat) : List Bool := r.set w (!(r.getD w false))
theorem flip_len (r : List Bool) (w : Nat) : (flip r w).length = r.length := List.length_set
theorem flip_at {r : List Bool} {w : Nat} (h : w < r.length) : (flip r w).getD w false = !(r.getD w false) := by
  unfold flip
  rw [List.getD_eq_getElem?_getD, List.getElem?_set_self h]
  rfl
theorem flip_flip {r : List Bool} {w : Nat} (h : w < r.length) : flip (flip r w) w = r := by
  have e := flip_at h
  unfold flip at e ⊢
  rw [e, List.set_set, Bool.not_not]
  have e2 : r.getD w false = r[w] := by
    rw [List.getD_eq_getElem?_getD, List.getElem?_eq_getElem h]
    rfl
  rw [e2, List.set_getElem_self]
theorem flip_cut {r : List Bool} {w : Nat} (h : w < r.length) : flip r w = r.take w ++ [!(r.getD w false)] ++ r.drop (w + 1) := by
  unfold flip
  rw [List.set_eq_take_append_cons_drop, if_pos h, List.append_assoc]
  rfl
/-- all rows of so many truths -/
def allR : Nat → List (List Bool)
  | 0 => [[]]
  | n + 1 => (allR n).flatMap fun r => [r ++ [false], r ++ [true]]
theorem len_allR : ∀ n, (allR n).length = 2 ^ n
  | 0 => rfl
  | n + 1 => by
    have ih := len_allR n
    have e : ∀ l : List (List Bool), (l.flatMap fun r => [r ++ [false], r ++ [true]]).length = 2 * l.length := by
      intro l
      induction l with
      | nil => rfl
      | cons x t ih =>
        rw [List.flatMap_cons, List.length_append, ih]
        simp
        omega
    show ((allR n).flatMap fun r => [r ++ [false], r ++ [true]]).length = _
    rw [e, ih, Nat.pow_succ, Nat.mul_comm]
theorem mem_allR : ∀ {n : Nat} {r : List Bool}, r ∈ allR n ↔ r.length = n
  | 0, r => by
    show r ∈ [[]] ↔ _
    rw [List.mem_singleton, List.length_eq_zero_iff]
  | n + 1, r => by
    show r ∈ (allR n).flatMap (fun r => [r ++ [false], r ++ [true]]) ↔ _
    rw [List.mem_flatMap]
    constructor
    · rintro ⟨q, hq, h⟩
      have ih := mem_allR.mp hq
      rcases List.mem_cons.mp h with rfl | h
      · rw [List.length_append, ih]
        rfl
      · rw [List.mem_singleton.mp h, List.length_append, ih]
        rfl
    · intro h
      have hne : r ≠ [] := by
        rintro rfl
        cases h
      refine ⟨r.dropLast, mem_allR.mpr (by rw [List.length_dropLast, h]; rfl), ?_⟩
      have e := r.dropLast_concat_getLast hne
      cases hb : r.getLast hne with
      | false =>
        rw [hb] at e
        rw [e]
        exact List.mem_cons_self
      | true =>
        rw [hb] at e
        rw [e]
        exact List.mem_cons_of_mem _ List.mem_cons_self
theorem nodup_allR : ∀ n, (allR n).Nodup
  | 0 => by
    show ([[]] : List (List Bool)).Nodup
    simp
  | n + 1 => by
    have ih := nodup_allR n
    show ((allR n).flatMap fun r => [r ++ [false], r ++ [true]]).Nodup
    generalize allR n = l at ih
    induction l with
    | nil => exact List.nodup_nil
    | cons x t ih2 =>
      rw [List.nodup_cons] at ih
      rw [List.flatMap_cons, List.nodup_append]
      have key : ∀ (u v : Bool) (y : List Bool), x ++ [u] = y ++ [v] → x = y := fun u v y e => (List.append_inj' e rfl).1
      refine ⟨?_, ih2 ih.2, ?_⟩
      · rw [List.nodup_cons]
        refine ⟨fun h => ?_, by simp⟩
        have := (List.append_inj' (List.mem_singleton.mp h) rfl).2
        cases this
      · intro a ha b hb e
        subst e
        obtain ⟨y, hy, hb⟩ := List.mem_flatMap.mp hb
        have : x = y := by
          rcases List.mem_cons.mp ha with e1 | e1
          · rcases List.mem_cons.mp hb with e2 | e2
            · exact key _ _ _ (e1.symm.trans e2)
            · exact key _ _ _ (e1.symm.trans (List.mem_singleton.mp e2))
          · rcases List.mem_cons.mp hb with e2 | e2
            · exact key _ _ _ ((List.mem_singleton.mp e1).symm.trans e2)
            · exact key _ _ _ ((List.mem_singleton.mp e1).symm.trans (List.mem_singleton.mp e2))
        exact ih.1 (this ▸ hy)
/-! ### rows in the heap -/
/-- a list of tuples of truths -/
abbrev RL := List (Addr × List Bool)
structure RowsAt (H : Hp) (p : Addr) (L : RL) : Prop where
  ob : H p = some (.lst (L.map fun x => V.ref x.1))
  row : ∀ x ∈ L, H x.1 = some (.tup (bls x.2))
theorem RowsAt.same {H H' : Hp} {p : Addr} {L : RL} (r : RowsAt H p L) (s : Same H H') : RowsAt H' p L := ⟨s _ _ r.ob, fun x hx => s _ _ (r.row x hx)⟩
theorem ref_at {L : RL} {i : Nat} {x : V} (h : (L.map fun y => V.ref y.1)[i]? = some x) : ∃ c, L[i]? = some c ∧ x = V.ref c.1 ∧ c ∈ L ∧ i < L.length := by
  rw [List.getElem?_map] at h
  cases e : L[i]? with
  | none =>
    rw [e] at h
    cases h
  | some c =>
    rw [e] at h
    exact ⟨c, rfl, (Option.some.inj h).symm, List.mem_of_getElem? e, (List.getElem?_eq_some_iff.mp e).1⟩
section
variable {K : PySem.W.Frag} {H : Hp} {a b : Addr} {xs ys : List V} {Q : VK}
/-- t + u, told alike in all cases -/
theorem catA (ha : H a = some (.tup xs)) (hb : H b = some (.tup ys)) (hl : xs.length + ys.length ≤ 1000) (q : ∀ H' p, Same H H' → H' p = some (.tup (xs ++ ys)) → Q (.ref p) H') : rCatA K (.ref a) (.ref b) H Q := by
  refine ⟨a, b, xs, ys, rfl, rfl, SqT.of ha, SqT.of hb, line1000 hl, fun e => ?_, fun _ e => ?_, fun _ _ p hp => ?_⟩
  · subst e
    exact q H b (Same.refl _) hb
  · subst e
    refine q H a (Same.refl _) ?_
    rw [List.append_nil]
    exact ha
  · exact q _ p (same_new hp _) upd_same
/-- t[lo:hi], told alike in all cases -/
theorem slA {lo hi : Option Int} (ha : H a = some (.tup xs)) (q : ∀ H' p, Same H H' → H' p = some (.tup (cutV xs lo hi)) → Q (.ref p) H') : rSlA K (.ref a) lo hi H Q := by
  refine ⟨a, xs, rfl, SqT.of ha, fun e => ?_, fun _ p hp => q _ p (same_new hp _) upd_same⟩
  refine q H a (Same.refl _) ?_
  have e2 : cutV xs lo hi = xs := by
    unfold cutV
    rw [e.1, e.2, List.drop_zero, Nat.sub_zero, List.take_length]
  rw [e2]
  exact ha
end
theorem cut_to {xs : List V} {w : Nat} (h : w ≤ xs.length) : cutV xs none (some (w : Int)) = xs.take w := by
  unfold cutV
  rw [HT.sIx_none, HT.sIx_nat, List.drop_zero, Nat.sub_zero, Nat.min_eq_left h]
theorem cut_from {xs : List V} {w : Nat} (h : w ≤ xs.length) : cutV xs (some (w : Int)) none = xs.drop w := by
  unfold cutV
  rw [HT.sIx_none, HT.sIx_nat, Nat.min_eq_left h]
  refine List.take_of_length_le ?_
  rw [List.length_drop]
  exact Nat.le_refl _
/-- a loop over enumerate(list) -/
theorem for_enum {K : PySem.W.Frag} {a : Addr} {xs : List V} {g : TG} {tb : TS} {D : Ends} {σ : L2.St} {H : Hp} (Pv : Nat → L2.St → Hp → Prop) (h0 : Pv 0 σ H) (hl : ∀ i σ H, Pv i σ H → SqL K H a xs)
    (hs : ∀ (i : Nat) (x : V) (T : Addr) (σ : L2.St) (H : Hp), xs[i]? = some x → Pv i σ H → H T = none → g (.ref T) σ (upd H T (.tup [.int (i : Nat), x])) fun σ2 H2 => tb { D with nx := Pv (i + 1), ct := Pv (i + 1), bk := D.nx } σ2 H2) (hd : ∀ σ H, Pv xs.length σ H → D.nx σ H) :
    ∃ Z : Nat → Nat → L2.St → Hp → Prop, (∃ left, Z 0 left σ H) ∧ ∀ at' left τ G, Z at' left τ G →
      ((Ite K a).stop at' G ∧ D.nx τ G) ∨ ((Ite K a).go at' G ∧ ∃ N : L2.St → Hp → Prop, (∀ τ' G', N τ' G' → ∃ left', left' < left ∧ Z (at' + 1) left' τ' G') ∧ ∀ v G', (Ite K a).yld at' G v G' → g v τ G' fun σ2 H2 => tb { D with nx := N, ct := N, bk := D.nx } σ2 H2) := by
  refine ⟨fun at' left τ G => at' + left = xs.length ∧ Pv at' τ G, ⟨xs.length, Nat.zero_add _, h0⟩, ?_⟩
  rintro at' left τ G ⟨sum, p⟩
  have q := hl at' τ G p
  match left, sum with
  | 0, sum =>
    cases (show at' = xs.length from sum)
    exact .inl ⟨⟨_, q, Nat.le_refl _⟩, hd τ G p⟩
  | left + 1, sum =>
    have there := List.getElem?_eq_getElem (show at' < xs.length by omega)
    refine .inr ⟨⟨xs, _, q, there⟩, Pv (at' + 1), fun τ' G' p' => ⟨left, Nat.lt_succ_self _, by omega, p'⟩, fun v G' y => ?_⟩
    obtain ⟨T, x, rfl, hT, rfl, f1⟩ := y
    exact hs at' x T τ G (f1 xs q) p hT
section
variable {P : Program} {w : World} {K : PySem.W.Frag} {mg : Str → Option Value} {base : Heap} {C : Addr}
/-! ### all_rows -/
def spAll : Sp := fun vs H Q _ => ∃ m : Nat, vs = [.int (m : Int)] ∧ m ≤ 8 ∧ ∀ (H' : Hp) (p : Addr) (L : RL), Same H H' → RowsAt H' p L → L.map (fun x => x.2) = allR m → Q (.ref p) H'
theorem sc24 : FnScope ["many", "found", "turn", "longer", "row"] ["many"] (C8.fnScope (top 24)) := C8.fnScope_by (by decide +kernel)
theorem pow_le8 {i : Nat} (h : i ≤ 8) : 2 ^ i ≤ 256 := Nat.pow_le_pow_right (by decide) h
theorem ok_all (D : DefOf K mg "all_rows" (top 24) ["many"]) (T : Txt K mg C) : C8.Cal P w K mg base 1 "all_rows" spAll [] := by
  refine cal_of D sc24 (fun vs H Q E h => ?_) (fun fA cdv A outer s H vs Q E hr h => ?_)
  · obtain ⟨m, rfl, _⟩ := h
    rfl
  obtain ⟨m, rfl, h8, q⟩ := h
  refine ⟨_, pss_cons (ps_set (i := 1) sc24.nd rfl (Or.inl rfl) (pe_lst (pa_cons (pe_tup pa_nil) pa_nil)))
    (pss_cons (ps_for PassesOwn.never rfl (pi_range1 rfl T.range (pa_cons (pv 0) pa_nil)) (pg_name (i := 2) sc24.nd rfl (Or.inl rfl))
      (pss_cons (ps_set (i := 3) sc24.nd rfl (Or.inl rfl) (pe_lst pa_nil))
      (pss_cons (ps_for PassesOwn.never rfl (pi_list (pv 1)) (pg_name (i := 4) sc24.nd rfl (Or.inl rfl))
        (pss_one (ps_expr (pe_bm PySem.F.plainAttrs_list PySem.F.slot_list_extend PySem.F.type_list_extend mt_extend (pv 3) (pa_cons (pe_lst (pa_cons (pe_op op_catA (pv 4) (pe_tup (pa_cons pe_bl pa_nil))) (pa_cons (pe_op op_catA (pv 4) (pe_tup (pa_cons pe_bl pa_nil))) pa_nil))) pa_nil)))))
      (pss_one (ps_set (i := 1) sc24.nd rfl (Or.inl rfl) (pv 3))))))
    (pss_one (ps_ret (pv 1)))), ?_⟩
  refine ⟨Nat.zero_le _, fun e he => ?_⟩
  refine ⟨(by show 1 ≤ sizeLine; decide), fun f hf => ?_⟩
  have nef : e ≠ f := ne_of_none upd_same hf
  refine ⟨_, rfl, (m : Int), rfl, by omega, by omega, ?_⟩
  rw [Int.toNat_natCast]
  refine for_range (lo := 0) (n := m) (fun i σ H2 => ∃ f, ∃ L : RL, ∃ y2 y3 y4, σ = [some (.int (m : Nat)), some (.ref f), y2, y3, y4] ∧ Same H H2 ∧ RowsAt H2 f L ∧ L.map (fun x => x.2) = allR i)
    ⟨f, [(e, [])], none, none, none, rfl, (same_new he _).trans (same_new hf _), ⟨upd_same, fun x hx => ?_⟩, rfl⟩ ?_ ?_
  · rw [List.mem_singleton.mp hx, upd_ne nef]
    exact upd_same
  · rintro i σ H2 hi ⟨f, L, y2, y3, y4, rfl, g2, rf, el⟩
    refine ⟨Nat.zero_le _, fun lg hlg => ?_⟩
    have g3 : Same H2 (upd H2 lg (.lst [])) := same_new hlg _
    have ll : L.length ≤ 256 := by
      have e := congrArg List.length el
      rw [List.length_map, len_allR] at e
      have := pow_le8 (show i ≤ 8 by omega)
      omega
    refine ⟨_, rfl, f, rfl, ⟨_, SqL.of (g3 _ _ rf.ob)⟩, ?_⟩
    refine for_list (K := K) (a := f) (xs := L.map fun x => V.ref x.1) (fun j σ H4 => ∃ L2 : RL, ∃ y4, σ = [some (.int (m : Nat)), some (.ref f), some (.int (0 + (i : Nat))), some (.ref lg), y4] ∧ Same H2 H4 ∧ RowsAt H4 lg L2 ∧
        L2.map (fun x => x.2) = ((L.take j).map fun x => x.2).flatMap fun r => [r ++ [false], r ++ [true]])
      ⟨[], _, rfl, g3, ⟨upd_same, fun x hx => absurd hx (by simp)⟩, rfl⟩ (fun j σ H4 _ ⟨_, _, _, g4, _⟩ => SqL.of (g4 _ _ rf.ob)) ?_ ?_
    · rintro j x σ H4 hx ⟨L2, y4, rfl, g4, r2, e2⟩
      obtain ⟨c, hc, rfl, hm, hj⟩ := ref_at hx
      have hrow := g4 _ _ (rf.row c hm)
      have cl : c.2.length ≤ 8 := by
        have : c.2 ∈ allR i := el ▸ List.mem_map.mpr ⟨c, hm, rfl⟩
        have := mem_allR.mp this
        omega
      have l2 : L2.length ≤ 600 := by
        have e := congrArg List.length e2
        have e3 : ∀ l : List (List Bool), (l.flatMap fun r => [r ++ [false], r ++ [true]]).length = 2 * l.length := by
          intro l
          induction l with
          | nil => rfl
          | cons x t ih =>
            rw [List.flatMap_cons, List.length_append, ih]
            simp
            omega
        rw [List.length_map, e3, List.length_map, List.length_take] at e
        omega
      refine ⟨.ref lg, rfl, .inl ⟨rfl, _, SqL.of r2.ob⟩, ?_⟩
      refine ⟨_, rfl, (by show 1 ≤ sizeLine; decide), fun t1 ht1 => ?_⟩
      refine catA (xs := bls c.2) (ys := [.bl false]) ((same_new ht1 _) _ _ hrow) upd_same (by rw [List.length_map]; show c.2.length + 1 ≤ 1000; omega) fun H5 a1 g5 ha1 => ?_
      have g5' := (same_new ht1 (.tup [.bl false])).trans g5
      refine ⟨_, rfl, (by show 1 ≤ sizeLine; decide), fun t2 ht2 => ?_⟩
      refine catA (xs := bls c.2) (ys := [.bl true]) ((g5'.trans (same_new ht2 _)) _ _ hrow) upd_same (by rw [List.length_map]; show c.2.length + 1 ≤ 1000; omega) fun H6 a2 g6 ha2 => ?_
      have g6' := (same_new ht2 (.tup [.bl true])).trans g6
      refine ⟨(by show 2 ≤ sizeLine; decide), fun z hz => ?_⟩
      have g7 := g5'.trans (g6'.trans (same_new hz (.lst [.ref a1, .ref a2])))
      refine ⟨lg, z, _, _, rfl, rfl, g7 _ _ r2.ob, upd_same, ?_, ?_⟩
      · rw [List.length_map]
        refine line1000 ?_
        show L2.length + 2 ≤ 1000
        omega
      · refine ⟨L2 ++ [(a1, c.2 ++ [false]), (a2, c.2 ++ [true])], _, rfl, same_put (g4.trans g7) hlg _, ⟨?_, fun x hx => ?_⟩, ?_⟩
        · rw [upd_same, List.map_append]
          rfl
        · have st : ∀ (b : Addr) (ys : List V), upd (upd H6 z (.lst [.ref a1, .ref a2])) lg (.lst (L2.map (fun x => V.ref x.1) ++ [.ref a1, .ref a2])) b = some (.tup ys) ∨ True := fun _ _ => .inr True.intro
          have keep : ∀ (b : Addr) (ys : List V), (upd H6 z (.lst [.ref a1, .ref a2])) b = some (.tup ys) → (upd (upd H6 z (.lst [.ref a1, .ref a2])) lg (.lst (L2.map (fun x => V.ref x.1) ++ [.ref a1, .ref a2]))) b = some (.tup ys) := fun b ys hb => by
            rw [upd_ne (ne_of hb (g7 _ _ r2.ob) (by intro z; cases z))]
            exact hb
          rcases List.mem_append.mp hx with hx | hx
          · exact keep _ _ (g7 _ _ (r2.row x hx))
          · rcases List.mem_cons.mp hx with rfl | hx
            · refine keep _ _ ((g6'.trans (same_new hz _)) _ _ ?_)
              rw [ha1]
              show _ = some (HO.tup ((c.2 ++ [false]).map V.bl))
              rw [List.map_append]
              rfl
            · rw [List.mem_singleton.mp hx]
              refine keep _ _ ((same_new hz _) _ _ ?_)
              rw [ha2]
              show _ = some (HO.tup ((c.2 ++ [true]).map V.bl))
              rw [List.map_append]
              rfl
        · rw [List.map_append, e2, List.take_add_one, hc, List.map_append, List.flatMap_append]
          rfl
    · rintro σ H4 ⟨L2, y4, rfl, g4, r2, e2⟩
      rw [List.length_map, List.take_length, el] at e2
      refine ⟨_, rfl, ?_⟩
      exact ⟨lg, L2, _, _, _, rfl, g2.trans g4, r2, e2⟩
  · rintro σ H2 ⟨f, L, y2, y3, y4, rfl, g2, rf, el⟩
    exact ⟨_, rfl, q _ f L g2 rf el⟩
end
end K29

/-! K29 6: look_at_rows, the class Case. -/
namespace K29
open PySem L2
open PyProof.Rows (envOfC)
/-! ### cuts -/
section
variable {X : Cx} {e : Expr} {t : TE} {u : TT}
/-- what is known behind an expression, said once -/
def tMid (t : TE) : TE := fun σ H Q => ∃ Q0 : VK, t σ H Q0 ∧ ∀ x H1, Q0 x H1 → Q x H1
theorem pe_mid (h : PE X e t) : PE X e (tMid t) := ⟨fun pins s σ H Q I ⟨Q0, q, k⟩ => thn (h.run pins s σ H Q0 I q) fun v s' ⟨x, H1, I1, r, z⟩ => ⟨x, H1, I1, r, k _ _ z⟩⟩
/-- .. behind a test -/
def tMidT (t : TT) : TT := fun σ H Q => ∃ Q0 : Bool → Hp → Prop, t σ H Q0 ∧ ∀ x H1, Q0 x H1 → Q x H1
theorem pt_mid (h : PT X e u) : PT X e (tMidT u) := ⟨fun pins s σ H Q I ⟨Q0, q, k⟩ => thn (h.run pins s σ H Q0 I q) fun v s' ⟨H1, I1, z⟩ => ⟨H1, I1, k _ _ z⟩⟩
end
/-! ### a deeper bound does, too -/
theorem DA.up {m : Nat} {H : Hp} {n : Nat} {v : V} {z : Nat} {f : Fn} (d : DA m H n v z f) : ∀ {k : Nat}, n ≤ k → DA m H k v z f := by
  induction d with
  | @yes n a h =>
    intro k hk
    obtain ⟨j, rfl⟩ : ∃ j, k = j + 1 := ⟨k - 1, by omega⟩
    exact .yes h
  | @no n a h =>
    intro k hk
    obtain ⟨j, rfl⟩ : ∃ j, k = j + 1 := ⟨k - 1, by omega⟩
    exact .no h
  | @wish n a i h hi =>
    intro k hk
    obtain ⟨j, rfl⟩ : ∃ j, k = j + 1 := ⟨k - 1, by omega⟩
    exact .wish h hi
  | @neg n a v s f h _ ih =>
    intro k hk
    obtain ⟨j, rfl⟩ : ∃ j, k = j + 1 := ⟨k - 1, by omega⟩
    exact .neg h (ih (by omega))
  | @conj n a b L h hb h1 h6 _ ih =>
    intro k hk
    obtain ⟨j, rfl⟩ : ∃ j, k = j + 1 := ⟨k - 1, by omega⟩
    exact .conj L h hb h1 h6 fun x hx => ih x hx (by omega)
  | @disj n a b L h hb h1 h6 _ ih =>
    intro k hk
    obtain ⟨j, rfl⟩ : ∃ j, k = j + 1 := ⟨k - 1, by omega⟩
    exact .disj L h hb h1 h6 fun x hx => ih x hx (by omega)
  | @cases n a b v s f L h hb h1 h4 hr _ _ _ ih1 ih2 ih3 =>
    intro k hk
    obtain ⟨j, rfl⟩ : ∃ j, k = j + 1 := ⟨k - 1, by omega⟩
    exact .cases L h hb h1 h4 hr (fun x hx => ih1 x hx (by omega)) (fun x hx => ih2 x hx (by omega)) (ih3 (by omega))
/-! ### a case in the heap -/
theorem n1 : ¬ (("case_many" : Str) = "case_rows") := by decide +kernel
theorem n2 : ¬ (("case_many" : Str) = "case_decision") := by decide +kernel
theorem n3 : ¬ (("case_decision" : Str) = "case_rows") := by decide +kernel
theorem n4 : ¬ (("case_decision" : Str) = "case_many") := by decide +kernel
def caseF (m : Int) (dv : V) (d : Addr) : List (Str × V) := putF "case_rows" (.ref d) (putF "case_decision" dv (putF "case_many" (.int m) []))
section
variable {m : Int} {dv : V} {d : Addr}
theorem cf_many : (caseF m dv d).lookup ("case_many" : Str) = some (.int m) := by
  unfold caseF
  rw [lookup_putF, if_neg n1, lookup_putF, if_neg n2, lookup_putF, if_pos rfl]
theorem cf_dec : (caseF m dv d).lookup ("case_decision" : Str) = some dv := by
  unfold caseF
  rw [lookup_putF, if_neg n3, lookup_putF, if_pos rfl]
theorem cf_rows : (caseF m dv d).lookup ("case_rows" : Str) = some (.ref d) := by
  unfold caseF
  rw [lookup_putF, if_pos rfl]
theorem cf_no {x : Str} (h1 : ¬ x = "case_rows") (h2 : ¬ x = "case_decision") (h3 : ¬ x = "case_many") : (caseF m dv d).lookup x = none := by
  unfold caseF
  rw [lookup_putF, if_neg h1, lookup_putF, if_neg h2, lookup_putF, if_neg h3]
  rfl
end
/-- at p stands a Case of m wishes, its decision answers as f does, its rows are xs -/
structure CaseAt (P : Program) (w : World) (C : Addr) (H : Hp) (p : Addr) (m : Nat) (f : Fn) (xs : List Ent) : Prop where
  ex : ∃ dx dv d z, H p = some (.ins C dx (caseF (m : Int) dv d)) ∧ DA m H 6 dv z f ∧ Bd P w H d xs
  len : ∀ x ∈ xs, x.1.length = m
  lo : 1 ≤ m
  hi : m ≤ 8
theorem CaseAt.same {P : Program} {w : World} {C : Addr} {H H' : Hp} {p : Addr} {m : Nat} {f : Fn} {xs : List Ent} (c : CaseAt P w C H p m f xs) (s : Same H H') : CaseAt P w C H' p m f xs := by
  obtain ⟨⟨dx, dv, d, z, h1, h2, h3⟩, h4, h5, h6⟩ := c
  exact ⟨⟨dx, dv, d, z, s _ _ h1, h2.same s, h3.same s⟩, h4, h5, h6⟩
/-- a method of the class -/
def MetOf (K : PySem.W.Frag) (C : Addr) (m qual : Str) (st : Stmt) (ps : List Str) : Prop := ∃ f fd, Meth K C m f ∧ C8.Fun K m qual st f fd ∧ Binds K fd ps []
/-- the class's __init__ -/
def InitOf (K : PySem.W.Frag) (mg : Str → Option Value) (C : Addr) : Prop := mg "Case" = some (.ref C) ∧ ∃ f fd ds, Mk K C f ∧ C8.Fun K "__init__" "Case.__init__" (inClass (top 26) 0) f fd ∧ Binds K fd ["self", "many", "decision", "rows"] [] ∧ Vals [V.non] ds ∧ Binds K fd ["self", "many", "decision", "rows"] ds
section
variable {P : Program} {w : World} {K : PySem.W.Frag} {mg : Str → Option Value} {base : Heap} {C : Addr}
theorem met_of {m qual : Str} {st : Stmt} {N ps : List Str} {k : Nat} {sp : Sp} (c : Cls K C) (D : MetOf K C m qual st ps) (S : FnScope N ps (C8.fnScope st)) (len : ∀ vs H Q E, sp vs H Q E → vs.length = ps.length)
    (hbody : ∀ (f : Addr) (cdv : Value) (A : Around) (outer : List Env) (s : Shared) (H : Hp) (vs : List V) (Q : VK) (E : XK), Room k (A.deeper (envOfC qual (C8.fnScope st) s.heap.objs.size f cdv)) → sp vs H Q E →
      ∃ t, PSs (cxOf C8.CX0 P w K mg base N qual (C8.fnScope st) f cdv A outer s H E).nox (C8.fnBody st) t ∧ t { nx := fun _ H' => Q .non H', rt := Q } (start N vs) H) : C8.Met P w K mg base (k + 1) C m sp [] := by
  obtain ⟨f, fd, me, F, b⟩ := D
  exact C8.met0 c me F b S len (hbody f)
/-! ### look_at_rows -/
def spLook : Sp := fun vs H Q _ => ∃ m : Nat, ∃ p, ∃ L : RL, vs = [.int (m : Int), .ref p] ∧ RowsAt H p L ∧ L ≠ [] ∧ (L.map fun x => x.2).Nodup ∧ (∀ x ∈ L, x.2.length = m) ∧ m ≤ 8 ∧ L.length ≤ 256 ∧ ∀ H', Same H H' → Q .non H'
theorem sc25 : FnScope ["many", "rows", "seen", "place", "row"] ["many", "rows"] (C8.fnScope (top 25)) := C8.fnScope_by (by decide +kernel)
theorem ok_look (D : DefOf K mg "look_at_rows" (top 25) ["many", "rows"]) (T : Txt K mg C) (cR : C8.Cal P w K mg base 1 "is_row" spRow []) : C8.Cal P w K mg base 2 "look_at_rows" spLook [] := by
  refine cal_of D sc25 (fun vs H Q E h => ?_) (fun fA cdv A outer s H vs Q E hr h => ?_)
  · obtain ⟨m, p, L, rfl, _⟩ := h
    rfl
  obtain ⟨m, p, L, rfl, rl, hne, hnd, hlen, h8, h256, q⟩ := h
  refine ⟨_, pss_cons (ps_if (PW.pt (pw_or (pt_not (pt_val (pe_isi "list" T.isinstance T.list (pv 1)))) (pw_or1 (pt_cmpR (op_eqE hr.units) (pv 1) (pe_lst pa_nil) (nomark _))))) pss_never pss_nil)
    (pss_cons (ps_set (i := 2) sc25.nd rfl (Or.inl rfl) pe_dnewB)
    (pss_one (ps_for PassesOwn.never rfl (pi_enum (by rfl) T.enumerate (pa_cons (pv 1) pa_nil)) (pg_tup rfl (pgs_cons (pg_name (i := 3) sc25.nd rfl (Or.inl rfl)) (pgs_cons (pg_name (i := 4) sc25.nd rfl (Or.inl rfl)) pgs_nil)))
      (pss_cons (ps_if (PW.pt (pw_or (pt_not (pt_val (C8.pe_c cR hr (by decide) (by rfl) (pa_cons (pv 4) (pa_cons (pv 0) pa_nil))))) (pw_or1 (pt_cmpR (op_bin hr.units) (pv 4) (pv 2) (by rfl))))) pss_never pss_nil)
      (pss_one (ps_asg pe_bl (pg_sub (pv 2) (pv 4) (set_bd hr.units)))))))), ?_⟩
  refine ⟨_, rfl, _, _, _, _, true, rfl, .ty "list", .base (.lst rl.ob), kit_ty (by decide +kernel), true, rfl, ?_⟩
  refine iteF ?_
  refine ⟨_, rfl, Nat.zero_le _, fun e he => ?_⟩
  have g1 : Same H (upd H e (.lst [])) := same_new he _
  refine ⟨p, e, _, rfl, rfl, SqL.of (g1 _ _ rl.ob), SqL.of upd_same, false, ?_, ?_⟩
  · cases L with
    | nil => exact absurd rfl hne
    | cons x t => rfl
  refine iteF ?_
  intro d hd
  have g2 := g1.trans (same_new hd (BdO P w d []))
  have nd : H d = none := g1.free hd
  refine ⟨_, rfl, p, _, rfl, SqL.of (g2 _ _ rl.ob), ?_⟩
  refine for_enum (K := K) (a := p) (xs := L.map fun x => V.ref x.1) (fun i σ H2 => ∃ y3 y4, σ = [some (.int (m : Nat)), some (.ref p), some (.ref d), y3, y4] ∧ Same H H2 ∧ Bd P w H2 d ((L.take i).map fun x => (x.2, x.1, true)))
    ⟨none, none, rfl, g2, ⟨upd_same, fun x hx => absurd hx (by simp)⟩⟩ (fun i σ H2 ⟨_, _, _, g, _⟩ => SqL.of (g _ _ rl.ob)) ?_ ?_
  · rintro i x Tt σ H2 hx ⟨y3, y4, rfl, g, bd⟩ hT
    obtain ⟨c, hc, rfl, hm, hi⟩ := ref_at hx
    have gT := g.trans (same_new hT (.tup [.int (i : Nat), V.ref c.1]))
    refine ⟨Tt, _, rfl, SqT.of upd_same, rfl, _, _, rfl, _, _, rfl, rfl, ?_⟩
    have hrow := gT _ _ (rl.row c hm)
    refine ⟨_, rfl, _, rfl, c.1, c.2, (m : Int), rfl, hrow, by rw [hlen c hm], by rw [hlen c hm]; omega, fun H3 g3 => ⟨true, rfl, ?_⟩⟩
    refine iteF ?_
    have bd3 : Bd P w H3 d ((L.take i).map fun x => (x.2, x.1, true)) := bd.same ((same_new hT _).trans g3)
    have hnot : c.2 ∉ ((L.take i).map fun x => ((x.2, x.1, true) : Ent)).map (fun x => x.1) := by
      rw [List.map_map]
      intro hmem
      obtain ⟨y, hy, e⟩ := List.mem_map.mp hmem
      have e' : y.2 = c.2 := e
      obtain ⟨j, hj⟩ := List.getElem?_of_mem hy
      have hji : j < i := by
        have := (List.getElem?_eq_some_iff.mp hj).1
        rw [List.length_take] at this
        omega
      rw [List.getElem?_take_of_lt hji] at hj
      have h1 : (L.map fun x => x.2)[j]? = some c.2 := by rw [List.getElem?_map, hj, ← e']; rfl
      have h2 : (L.map fun x => x.2)[i]? = some c.2 := by rw [List.getElem?_map, hc]; rfl
      have := nd_ix hnd h1 h2
      omega
    refine ⟨_, rfl, _, rfl, c.1, d, c.2, _, rfl, rfl, g3 _ _ hrow, bd3, false, by rw [decide_eq_false hnot], ?_⟩
    refine iteF ?_
    refine ⟨_, rfl, _, rfl, c.1, d, c.2, true, _, rfl, rfl, rfl, g3 _ _ hrow, bd3, hnot, ?_, ?_⟩
    · rw [List.length_map, List.length_take]
      omega
    · refine ⟨_, _, rfl, same_put (gT.trans g3) nd _, ?_⟩
      have e : ((L.take (i + 1)).map fun x => ((x.2, x.1, true) : Ent)) = ((L.take i).map fun x => ((x.2, x.1, true) : Ent)) ++ [(c.2, c.1, true)] := by
        rw [List.take_add_one, hc, List.map_append]
        rfl
      rw [e]
      refine ⟨upd_same, fun y hy => ?_⟩
      have keep : ∀ (b : Addr) (ys : List V), H3 b = some (.tup ys) → (upd H3 d (BdO P w d (((L.take i).map fun x => ((x.2, x.1, true) : Ent)) ++ [(c.2, c.1, true)]))) b = some (.tup ys) := fun b ys hb => by
        rw [upd_ne (ne_of hb bd3.ob (by intro z; cases z))]
        exact hb
      rcases List.mem_append.mp hy with hy | hy
      · exact keep _ _ (bd3.keys y hy)
      · rw [List.mem_singleton.mp hy]
        exact keep _ _ (g3 _ _ hrow)
  · rintro σ H2 ⟨y3, y4, rfl, g, bd⟩
    exact q _ g
end
end K29

/-! K29 7: the class Case: __init__ and methods. -/
namespace K29
open PySem L2
open PyProof.Rows (envOfC)
/-- all but the object at p is as it was -/
def KeepBut (p : Addr) (H H' : Hp) : Prop := ∀ b o, H b = some o → b ≠ p → H' b = some o
section
variable {P : Program} {w : World} {K : PySem.W.Frag} {mg : Str → Option Value} {base : Heap} {C : Addr}
/-! ### __init__ -/
theorem len2 {m : Int} {dv : V} : (putF "case_decision" dv (putF "case_many" (.int m) [])).length < 1000 := by
  show (if ("case_many" : Str) = "case_decision" then [(("case_many" : Str), dv)] else (("case_many" : Str), V.int m) :: putF "case_decision" dv []).length < 1000
  rw [if_neg n2]
  show 2 < 1000
  decide
def spInit (P : Program) (w : World) (C : Addr) : Sp := fun vs H Q _ => ∃ p dx, ∃ m : Nat, ∃ dv z f rv, ∃ R : List (List Bool), vs = [.ref p, .int (m : Int), dv, rv] ∧ H p = some (.ins C dx []) ∧ 1 ≤ m ∧ m ≤ 8 ∧ DA m H 6 dv z f ∧ z ≤ 60 ∧
  ((rv = .non ∧ R = allR m) ∨ ∃ rl, ∃ L : RL, rv = .ref rl ∧ RowsAt H rl L ∧ L ≠ [] ∧ (L.map fun x => x.2).Nodup ∧ (∀ x ∈ L, x.2.length = m) ∧ L.length ≤ 256 ∧ R = L.map fun x => x.2) ∧
  ∀ H' xs, KeepBut p H H' → CaseAt P w C H' p m f xs → (∀ r, r ∈ xs.map (fun x => x.1) ↔ r ∈ R) → xs.length = R.length → Q .non H'
theorem sc26 : FnScope ["self", "many", "decision", "rows", "row"] ["self", "many", "decision", "rows"] (C8.fnScope (inClass (top 26) 0)) := C8.fnScope_by (by decide +kernel)
theorem ok_init0 {f : Addr} {fd : FuncData} (F : C8.Fun K "__init__" "Case.__init__" (inClass (top 26) 0) f fd) (T : Txt K mg C) (cW : C8.Cal P w K mg base 2 "is_within" spWithin []) (cD : C8.Cal P w K mg base 16 "is_decision" spIsDec [])
    (cL : C8.Cal P w K mg base 2 "look_at_rows" spLook []) (cAll : C8.Cal P w K mg base 1 "all_rows" spAll []) (cA : C8.Cal P w K mg base 12 "answer_decisions" (spAns 6) []) : FnOk P w K mg base C8.CX0 17 f fd ["self", "many", "decision", "rows"] (spInit P w C) := by
  refine C8.fn0 F sc26 (fun vs H Q E h => ?_) (fun cdv A outer s H vs Q E hr h => ?_)
  · obtain ⟨p, dx, m, dv, z, f, rv, R, rfl, _⟩ := h
    rfl
  obtain ⟨p, dx, m, dv, z, f, rv, R, rfl, hp, h1, h8, d, hz, hrv, q⟩ := h
  obtain ⟨tk, hmg⟩ := T.wishes
  refine ⟨_, pss_cons (ps_if (pt_not (pt_val (C8.pe_c cW hr (by decide) (by rfl) (pa_cons (pv 1) (pa_cons pe_int (pa_cons (pe_glob (v := .int 8) rfl hmg ⟨_, rfl⟩) pa_nil)))))) pss_never pss_nil)
    (pss_cons (ps_if (pt_not (pt_val (C8.pe_c cD hr (by decide) (by rfl) (pa_cons (pv 2) (pa_cons (pv 1) pa_nil))))) pss_never pss_nil)
    (C8.pss_cut (ps_if (pt_cmpR op_notN (pv 3) pe_non (nomark _)) (pss_one (ps_expr (C8.pe_c cL hr (by decide) (by rfl) (pa_cons (pv 1) (pa_cons (pv 3) pa_nil))))) pss_nil)
    (pss_cons (ps_fld (pv 0) (pv 1) rfl)
    (pss_cons (ps_fld (pv 0) (pv 2) rfl)
    (C8.pss_cut (ps_fld (pv 0) pe_dnewB rfl)
    (pss_one (ps_for PassesOwn.never rfl (pi_list (pe_mid (pe_callB (cr_sortB hr.units) (by rfl) T.sorted (by decide +kernel) (pa_cons (pe_ifExp (pt_cmpR op_isN (pv 3) pe_non (nomark _)) (C8.pe_c cAll hr (by decide) (by rfl) (pa_cons (pv 1) pa_nil)) (pv 3)) pa_nil)))) (pg_name (i := 4) sc26.nd rfl (Or.inl rfl))
      (pss_one (ps_asg (C8.pe_c cA hr (by decide) (by rfl) (pa_cons (pv 2) (pa_cons (pv 4) pa_nil))) (pg_sub (pe_fld (pv 0) rfl) (pv 4) (set_bd hr.units))))))))))), ?_⟩
  refine ⟨_, rfl, (m : Int), 1, 8, rfl, by omega, by omega, true, rfl, ?_⟩
  refine iteF ?_
  refine ⟨_, rfl, _, rfl, m, dv, 6, z, f, rfl, d, hz, by omega, fun H1 g1 => ⟨true, rfl, ?_⟩⟩
  refine iteF ?_
  refine ⟨fun σ H2 => σ = [some (.ref p), some (.int (m : Nat)), some dv, some rv, none] ∧ Same H H2, ?_, ?_⟩
  · rcases hrv with ⟨rfl, _⟩ | ⟨rl, L, rfl, hl, hne, hnd, hlen, h256, _⟩
    · refine ⟨_, rfl, rfl, false, rfl, ?_⟩
      refine iteF ?_
      exact ⟨rfl, g1⟩
    · refine ⟨_, rfl, rfl, true, rfl, ?_⟩
      refine iteT ?_
      refine ⟨_, rfl, _, rfl, m, rl, L, rfl, hl.same g1, hne, hnd, hlen, h8, h256, fun H2 g2 => ?_⟩
      exact ⟨rfl, g1.trans g2⟩
  rintro σ H2 ⟨rfl, g2⟩
  refine ⟨_, rfl, _, rfl, p, C, dx, [], rfl, g2 _ _ hp, T.cl, T.nM, (by show 0 < 1000; decide), ?_⟩
  refine ⟨_, rfl, _, rfl, p, C, dx, _, rfl, upd_same, T.cl, T.nD, (by show 1 < 1000; decide), ?_⟩
  refine ⟨fun σ HA => σ = [some (.ref p), some (.int (m : Nat)), some dv, some rv, none] ∧ ∃ dd, H dd = none ∧ p ≠ dd ∧ KeepBut p H HA ∧ HA p = some (.ins C dx (caseF (m : Int) dv dd)) ∧ HA dd = some (BdO P w dd []), ?_, ?_⟩
  · intro dd hdd
    have pd : p ≠ dd := ne_of_none upd_same hdd
    refine ⟨_, rfl, p, C, dx, _, rfl, (by rw [upd_ne pd]; exact upd_same), T.cl, T.nR, len2, ?_⟩
    have nd2 : H2 dd = none := by
      rw [upd_ne pd.symm, upd_ne pd.symm] at hdd
      exact hdd
    have nd : H dd = none := g2.free nd2
    refine ⟨rfl, dd, nd, pd, fun b o hb hne => ?_, upd_same, ?_⟩
    · have hbd : b ≠ dd := ne_of_none hb nd
      rw [upd_ne hne, upd_ne hbd, upd_ne hne, upd_ne hne]
      exact g2 _ _ hb
    · rw [upd_ne pd.symm]
      exact upd_same
  rintro σ HA ⟨rfl, dd, nd, pd, kA, hpA, hdA⟩
  have tupA : TupS H HA := fun a xs ha => kA a _ ha (ne_of ha hp (by intro z; cases z))
  have listA : ∀ (l : Addr) (xs : List V), H l = some (.lst xs) → HA l = some (.lst xs) := fun l xs hl => kA l _ hl (ne_of hl hp (by intro z; cases z))
  -- the sorted rows
  refine ⟨fun x H3 => ∃ ps, ∃ ys : RL, x = .ref ps ∧ Same HA H3 ∧ RowsAt H3 ps ys ∧ (∀ r, r ∈ ys.map (fun x => x.2) ↔ r ∈ R) ∧ (ys.map fun x => x.2).Nodup ∧ (∀ x ∈ ys, x.2.length = m) ∧ ys.length ≤ 256 ∧ ys.length = R.length, ?_, ?_⟩
  · have fin : ∀ (H3 : Hp) (pl : Addr) (L : RL), Same HA H3 → RowsAt H3 pl L → L.map (fun x => x.2) = R → R.Nodup → (∀ x ∈ L, x.2.length = m) → L.length ≤ 256 →
        rSortB K [.ref pl] H3 fun x H3 => ∃ ps, ∃ ys : RL, x = .ref ps ∧ Same HA H3 ∧ RowsAt H3 ps ys ∧ (∀ r, r ∈ ys.map (fun x => x.2) ↔ r ∈ R) ∧ (ys.map fun x => x.2).Nodup ∧ (∀ x ∈ ys, x.2.length = m) ∧ ys.length ≤ 256 ∧ ys.length = R.length := by
      intro H3 pl L g3 hl eR hnd hlen h256
      refine ⟨pl, L, rfl, SqL.of hl.ob, fun b hb => ⟨hl.row b hb, fun e => ?_⟩, fun ys ps pm hps => ?_⟩
      · have := hlen b hb
        rw [e] at this
        exact absurd this (by show ¬ 0 = m; omega)
      · have pm2 : (ys.map fun x => x.2).Perm R := by
          rw [← eR]
          exact pm.map _
        exact ⟨ps, ys, rfl, g3.trans (same_new hps _), ⟨upd_same, fun x hx => (same_new hps _) _ _ (hl.row x (pm.mem_iff.mp hx))⟩, fun r => pm2.mem_iff, pm2.nodup_iff.mpr hnd, fun x hx => hlen x (pm.mem_iff.mp hx), by rw [pm.length_eq]; exact h256, by rw [← pm2.length_eq, List.length_map]⟩
    rcases hrv with ⟨rfl, rfl⟩ | ⟨rl, L, rfl, hl, hne, hnd, hlen, h256, rfl⟩
    · refine ⟨_, rfl, rfl, true, rfl, ?_⟩
      refine iteT ?_
      refine ⟨_, rfl, m, rfl, h8, fun H3 pl L g3 hl el => ?_⟩
      refine fin H3 pl L g3 hl el (nodup_allR m) (fun x hx => ?_) ?_
      · have : x.2 ∈ allR m := el ▸ List.mem_map.mpr ⟨x, hx, rfl⟩
        exact mem_allR.mp this
      · have e := congrArg List.length el
        rw [List.length_map, len_allR] at e
        have := pow_le8 h8
        omega
    · refine ⟨_, rfl, rfl, false, rfl, ?_⟩
      refine iteF ?_
      refine ⟨_, rfl, ?_⟩
      exact fin HA rl L (Same.refl _) ⟨listA _ _ hl.ob, fun x hx => tupA _ _ (hl.row x hx)⟩ rfl hnd hlen h256
  rintro x H3 ⟨ps, ys, rfl, g3, hys, hmem, hnd, hlen, h256, hleq⟩
  refine ⟨ps, rfl, ⟨_, SqL.of hys.ob⟩, ?_⟩
  have hd3 : H3 dd = some (BdO P w dd []) := g3 _ _ hdA
  have notup : ∀ (b : Addr) (zs : List V), H3 b = some (.tup zs) → b ≠ dd := fun b zs hb => ne_of hb hd3 (by intro z; cases z)
  refine for_list (K := K) (a := ps) (xs := ys.map fun x => V.ref x.1) (fun i σ H4 => ∃ y4, σ = [some (.ref p), some (.int (m : Nat)), some dv, some rv, y4] ∧ KeepBut dd H3 H4 ∧ Bd P w H4 dd ((ys.take i).map fun x => (x.2, x.1, f x.2)))
    ⟨none, rfl, fun b o hb _ => hb, ⟨hd3, fun x hx => absurd hx (by simp)⟩⟩ (fun i σ H4 _ ⟨_, _, g, _⟩ => SqL.of (g _ _ hys.ob (ne_of hys.ob hd3 (by intro z; cases z)))) ?_ ?_
  · rintro i x σ H4 hx ⟨y4, rfl, g, bd⟩
    obtain ⟨c, hc, rfl, hm, hi⟩ := ref_at hx
    have hrow : H4 c.1 = some (.tup (bls c.2)) := g _ _ (hys.row c hm) (notup _ _ (hys.row c hm))
    have tup4 : TupS H H4 := fun a xs ha => by
      have h3 := g3 _ _ (tupA a xs ha)
      exact g _ _ h3 (notup _ _ h3)
    refine ⟨_, rfl, _, rfl, m, dv, z, f, c.1, c.2, rfl, d.mono tup4, hrow, hlen c hm, fun H5 g5 => ?_⟩
    have hp4 : H4 p = some (.ins C dx (caseF (m : Int) dv dd)) := g _ _ (g3 _ _ hpA) pd
    have hnot : c.2 ∉ ((ys.take i).map fun x => ((x.2, x.1, f x.2) : Ent)).map (fun x => x.1) := by
      rw [List.map_map]
      intro hmem
      obtain ⟨y, hy, e⟩ := List.mem_map.mp hmem
      have e' : y.2 = c.2 := e
      obtain ⟨j, hj⟩ := List.getElem?_of_mem hy
      have hji : j < i := by
        have := (List.getElem?_eq_some_iff.mp hj).1
        rw [List.length_take] at this
        omega
      rw [List.getElem?_take_of_lt hji] at hj
      have h1 : (ys.map fun x => x.2)[j]? = some c.2 := by rw [List.getElem?_map, hj, ← e']; rfl
      have h2 : (ys.map fun x => x.2)[i]? = some c.2 := by rw [List.getElem?_map, hc]; rfl
      have := nd_ix hnd h1 h2
      omega
    have bd5 := bd.same g5
    refine ⟨_, rfl, p, C, dx, _, _, rfl, g5 _ _ hp4, T.cl, T.nR, cf_rows, _, rfl, c.1, dd, c.2, f c.2, _, rfl, rfl, rfl, g5 _ _ hrow, bd5, hnot, ?_, ?_⟩
    · rw [List.length_map, List.length_take]
      omega
    · refine ⟨_, rfl, fun b o hb hne => ?_, ?_⟩
      · rw [upd_ne hne]
        exact g5 _ _ (g _ _ hb hne)
      · have e : ((ys.take (i + 1)).map fun x => ((x.2, x.1, f x.2) : Ent)) = ((ys.take i).map fun x => ((x.2, x.1, f x.2) : Ent)) ++ [(c.2, c.1, f c.2)] := by
          rw [List.take_add_one, hc, List.map_append]
          rfl
        rw [e]
        refine ⟨upd_same, fun y hy => ?_⟩
        have keep : ∀ (b : Addr) (zs : List V), H5 b = some (.tup zs) → (upd H5 dd (BdO P w dd (((ys.take i).map fun x => ((x.2, x.1, f x.2) : Ent)) ++ [(c.2, c.1, f c.2)]))) b = some (.tup zs) := fun b zs hb => by
          rw [upd_ne (ne_of hb bd5.ob (by intro z; cases z))]
          exact hb
        rcases List.mem_append.mp hy with hy | hy
        · exact keep _ _ (bd5.keys y hy)
        · rw [List.mem_singleton.mp hy]
          exact keep _ _ (g5 _ _ hrow)
  · rintro σ H4 ⟨y4, rfl, g, bd⟩
    rw [List.length_map, List.take_length] at bd
    have tup4 : TupS H H4 := fun a xs ha => by
      have h3 := g3 _ _ (tupA a xs ha)
      exact g _ _ h3 (notup _ _ h3)
    refine q H4 (ys.map fun x => (x.2, x.1, f x.2)) (fun b o hb hne => ?_) ⟨⟨dx, dv, dd, z, g _ _ (g3 _ _ hpA) pd, d.mono tup4, bd⟩, fun x hx => ?_, h1, h8⟩ (fun r => ?_) (by rw [List.length_map]; exact hleq)
    · exact g _ _ (g3 _ _ (kA _ _ hb hne)) (ne_of_none hb nd)
    · obtain ⟨y, hy, rfl⟩ := List.mem_map.mp hx
      exact hlen y hy
    · rw [List.map_map, ← hmem r]
      exact Iff.rfl
end
end K29

/-! K29 8: Case's methods, look_at_wish, turned_about, has_sway, swaying. -/
namespace K29
open PySem L2
open PyProof.Rows (envOfC)
section
variable {P : Program} {w : World} {K : PySem.W.Frag} {mg : Str → Option Value} {base : Heap} {C : Addr}
theorem ok_make (I : InitOf K mg C) (T : Txt K mg C) (cW : C8.Cal P w K mg base 2 "is_within" spWithin []) (cD : C8.Cal P w K mg base 16 "is_decision" spIsDec [])
    (cL : C8.Cal P w K mg base 2 "look_at_rows" spLook []) (cAll : C8.Cal P w K mg base 1 "all_rows" spAll []) (cA : C8.Cal P w K mg base 12 "answer_decisions" (spAns 6) []) :
    C8.Mak P w K mg base 17 "Case" C (spInit P w C) [] ∧ C8.Mak P w K mg base 17 "Case" C (spInit P w C) [.non] := by
  obtain ⟨hm, f, fd, ds, M, F, b0, hd, b1⟩ := I
  have G := ok_init0 (P := P) (w := w) (base := base) F T cW cD cL cAll cA
  exact ⟨⟨f, fd, _, [], M, G, hm, b0, .nil⟩, ⟨f, fd, _, ds, M, G, hm, b1, hd⟩⟩
/-! ### methods -/
def spMany (P : Program) (w : World) (C : Addr) : Sp := fun vs H Q _ => ∃ p, ∃ m : Nat, ∃ f xs, vs = [.ref p] ∧ CaseAt P w C H p m f xs ∧ Q (.int (m : Int)) H
theorem scM3 : FnScope ["self"] ["self"] (C8.fnScope (inClass (top 26) 3)) := C8.fnScope_by (by decide +kernel)
theorem ok_many (D : MetOf K C "many" "Case.many" (inClass (top 26) 3) ["self"]) (T : Txt K mg C) : C8.Met P w K mg base 1 C "many" (spMany P w C) [] := by
  refine met_of T.cl D scM3 (fun vs H Q E h => ?_) (fun fA cdv A outer s H vs Q E hr h => ?_)
  · obtain ⟨p, m, f, xs, rfl, _⟩ := h
    rfl
  obtain ⟨p, m, f, xs, rfl, c, q⟩ := h
  obtain ⟨dx, dv, d, z, hp, _, _⟩ := c.ex
  refine ⟨_, pss_one (ps_ret (pe_fld (pv 0) rfl)), ?_⟩
  exact ⟨_, rfl, p, C, dx, _, _, rfl, hp, T.cl, T.nM, cf_many, q⟩
/-- the rows of a case, as a list of tuples -/
def rlOf (xs : List Ent) : RL := xs.map fun x => (x.2.1, x.1)
def spRows (P : Program) (w : World) (C : Addr) : Sp := fun vs H Q _ => ∃ p, ∃ m : Nat, ∃ f xs, vs = [.ref p] ∧ CaseAt P w C H p m f xs ∧ ∀ H' l, H l = none → Same H H' → RowsAt H' l (rlOf xs) → Q (.ref l) H'
theorem scM5 : FnScope ["self"] ["self"] (C8.fnScope (inClass (top 26) 5)) := C8.fnScope_by (by decide +kernel)
theorem ok_rows (D : MetOf K C "rows" "Case.rows" (inClass (top 26) 5) ["self"]) (T : Txt K mg C) : C8.Met P w K mg base 1 C "rows" (spRows P w C) [] := by
  refine met_of T.cl D scM5 (fun vs H Q E h => ?_) (fun fA cdv A outer s H vs Q E hr h => ?_)
  · obtain ⟨p, m, f, xs, rfl, _⟩ := h
    rfl
  obtain ⟨p, m, f, xs, rfl, c, q⟩ := h
  obtain ⟨dx, dv, d, z, hp, _, bd⟩ := c.ex
  refine ⟨_, pss_one (ps_ret (pe_callTy (call_list_bd rfl) (by rfl) T.list (by decide +kernel) (pa_cons (pe_fld (pv 0) rfl) pa_nil))), ?_⟩
  refine ⟨_, rfl, p, C, dx, _, _, rfl, hp, T.cl, T.nR, cf_rows, d, xs, rfl, bd, fun l hl => ?_⟩
  refine q _ l hl (same_new hl _) ⟨?_, fun x hx => ?_⟩
  · rw [upd_same]
    unfold rlOf
    rw [List.map_map]
    rfl
  · obtain ⟨y, hy, rfl⟩ := List.mem_map.mp hx
    exact (same_new hl _) _ _ (bd.keys y hy)
def spLookRow (P : Program) (w : World) (C : Addr) : Sp := fun vs H Q _ => ∃ p, ∃ m : Nat, ∃ f xs a r, vs = [.ref p, .ref a] ∧ CaseAt P w C H p m f xs ∧ H a = some (.tup (bls r)) ∧ r.length = m ∧ ∀ H', Same H H' → Q .non H'
theorem scM6 : FnScope ["self", "row"] ["self", "row"] (C8.fnScope (inClass (top 26) 6)) := C8.fnScope_by (by decide +kernel)
theorem ok_lookrow (D : MetOf K C "look_at_row" "Case.look_at_row" (inClass (top 26) 6) ["self", "row"]) (T : Txt K mg C) (cR : C8.Cal P w K mg base 1 "is_row" spRow []) : C8.Met P w K mg base 2 C "look_at_row" (spLookRow P w C) [] := by
  refine met_of T.cl D scM6 (fun vs H Q E h => ?_) (fun fA cdv A outer s H vs Q E hr h => ?_)
  · obtain ⟨p, m, f, xs, a, r, rfl, _⟩ := h
    rfl
  obtain ⟨p, m, f, xs, a, r, rfl, c, ha, hm, q⟩ := h
  obtain ⟨dx, dv, d, z, hp, _, _⟩ := c.ex
  refine ⟨_, pss_one (ps_if (pt_not (pt_val (C8.pe_c cR hr (by decide) (by rfl) (pa_cons (pv 1) (pa_cons (pe_fld (pv 0) rfl) pa_nil))))) pss_never pss_nil), ?_⟩
  refine ⟨_, rfl, _, rfl, p, C, dx, _, _, rfl, hp, T.cl, T.nM, cf_many, a, r, (m : Int), rfl, ha, by rw [hm], by have := c.hi; omega, fun H1 g1 => ⟨true, rfl, ?_⟩⟩
  refine iteF ?_
  exact q _ g1
def spCanBe (P : Program) (w : World) (C : Addr) : Sp := fun vs H Q _ => ∃ p, ∃ m : Nat, ∃ f xs a r, vs = [.ref p, .ref a] ∧ CaseAt P w C H p m f xs ∧ H a = some (.tup (bls r)) ∧ r.length = m ∧ ∀ H', Same H H' → Q (.bl (decide (r ∈ xs.map fun x => x.1))) H'
theorem scM7 : FnScope ["self", "row"] ["self", "row"] (C8.fnScope (inClass (top 26) 7)) := C8.fnScope_by (by decide +kernel)
theorem no_look : ¬ (("look_at_row" : Str) = "case_rows") ∧ ¬ (("look_at_row" : Str) = "case_decision") ∧ ¬ (("look_at_row" : Str) = "case_many") := by decide +kernel
theorem ok_canbe (D : MetOf K C "can_be" "Case.can_be" (inClass (top 26) 7) ["self", "row"]) (T : Txt K mg C) (cL : C8.Met P w K mg base 2 C "look_at_row" (spLookRow P w C) []) : C8.Met P w K mg base 3 C "can_be" (spCanBe P w C) [] := by
  refine met_of T.cl D scM7 (fun vs H Q E h => ?_) (fun fA cdv A outer s H vs Q E hr h => ?_)
  · obtain ⟨p, m, f, xs, a, r, rfl, _⟩ := h
    rfl
  obtain ⟨p, m, f, xs, a, r, rfl, c, ha, hm, q⟩ := h
  obtain ⟨dx, dv, d, z, hp, _, bd⟩ := c.ex
  refine ⟨_, pss_cons (ps_expr (C8.pe_mt cL hr (by decide) (pv 0) (pa_cons (pv 1) pa_nil)))
    (pss_one (ps_ret (pe_cmpR (op_bin hr.units) (pv 1) (pe_fld (pv 0) rfl) (by rfl)))), ?_⟩
  refine ⟨_, rfl, p, dx, _, rfl, hp, cf_no no_look.1 no_look.2.1 no_look.2.2, _, rfl, p, m, f, xs, a, r, rfl, c, ha, hm, fun H1 g1 => ?_⟩
  refine ⟨_, rfl, _, rfl, p, C, dx, _, _, rfl, g1 _ _ hp, T.cl, T.nR, cf_rows, a, d, r, xs, rfl, rfl, g1 _ _ ha, bd.same g1, ?_⟩
  exact q _ g1
def spAnswer (P : Program) (w : World) (C : Addr) : Sp := fun vs H Q _ => ∃ p, ∃ m : Nat, ∃ f xs a r, vs = [.ref p, .ref a] ∧ CaseAt P w C H p m f xs ∧ H a = some (.tup (bls r)) ∧ r.length = m ∧ ∀ H', Same H H' → Q (.bl (f r)) H'
theorem scM8 : FnScope ["self", "row"] ["self", "row"] (C8.fnScope (inClass (top 26) 8)) := C8.fnScope_by (by decide +kernel)
theorem ok_canswer (D : MetOf K C "answer" "Case.answer" (inClass (top 26) 8) ["self", "row"]) (T : Txt K mg C) (cL : C8.Met P w K mg base 2 C "look_at_row" (spLookRow P w C) []) (cA : C8.Cal P w K mg base 12 "answer_decisions" (spAns 6) []) : C8.Met P w K mg base 13 C "answer" (spAnswer P w C) [] := by
  refine met_of T.cl D scM8 (fun vs H Q E h => ?_) (fun fA cdv A outer s H vs Q E hr h => ?_)
  · obtain ⟨p, m, f, xs, a, r, rfl, _⟩ := h
    rfl
  obtain ⟨p, m, f, xs, a, r, rfl, c, ha, hm, q⟩ := h
  obtain ⟨dx, dv, d, z, hp, hd, bd⟩ := c.ex
  refine ⟨_, pss_cons (ps_expr (C8.pe_mt cL hr (by decide) (pv 0) (pa_cons (pv 1) pa_nil)))
    (pss_one (ps_ret (C8.pe_c cA hr (by decide) (by rfl) (pa_cons (pe_fld (pv 0) rfl) (pa_cons (pv 1) pa_nil))))), ?_⟩
  refine ⟨_, rfl, p, dx, _, rfl, hp, cf_no no_look.1 no_look.2.1 no_look.2.2, _, rfl, p, m, f, xs, a, r, rfl, c, ha, hm, fun H1 g1 => ?_⟩
  refine ⟨_, rfl, p, C, dx, _, _, rfl, g1 _ _ hp, T.cl, T.nD, cf_dec, _, rfl, m, dv, z, f, a, r, rfl, hd.same g1, g1 _ _ ha, hm, fun H2 g2 => ?_⟩
  exact q _ (g1.trans g2)
/-! ### look_at_wish -/
def spLookWish (P : Program) (w : World) (C : Addr) : Sp := fun vs H Q _ => ∃ p, ∃ m : Nat, ∃ f xs, ∃ k : Nat, vs = [.ref p, .int (k : Int)] ∧ CaseAt P w C H p m f xs ∧ k < m ∧ Q .non H
theorem sc28 : FnScope ["case", "wish"] ["case", "wish"] (C8.fnScope (top 28)) := C8.fnScope_by (by decide +kernel)
theorem no_many : ¬ (("many" : Str) = "case_rows") ∧ ¬ (("many" : Str) = "case_decision") ∧ ¬ (("many" : Str) = "case_many") := by decide +kernel
theorem no_rows : ¬ (("rows" : Str) = "case_rows") ∧ ¬ (("rows" : Str) = "case_decision") ∧ ¬ (("rows" : Str) = "case_many") := by decide +kernel
theorem no_can : ¬ (("can_be" : Str) = "case_rows") ∧ ¬ (("can_be" : Str) = "case_decision") ∧ ¬ (("can_be" : Str) = "case_many") := by decide +kernel
theorem no_ans : ¬ (("answer" : Str) = "case_rows") ∧ ¬ (("answer" : Str) = "case_decision") ∧ ¬ (("answer" : Str) = "case_many") := by decide +kernel
theorem ok_lookwish (D : DefOf K mg "look_at_wish" (top 28) ["case", "wish"]) (cW : C8.Cal P w K mg base 2 "is_within" spWithin []) (cM : C8.Met P w K mg base 1 C "many" (spMany P w C) []) : C8.Cal P w K mg base 3 "look_at_wish" (spLookWish P w C) [] := by
  refine cal_of D sc28 (fun vs H Q E h => ?_) (fun fA cdv A outer s H vs Q E hr h => ?_)
  · obtain ⟨p, m, f, xs, k, rfl, _⟩ := h
    rfl
  obtain ⟨p, m, f, xs, k, rfl, c, hk, q⟩ := h
  obtain ⟨dx, dv, d, z, hp, _, _⟩ := c.ex
  refine ⟨_, pss_one (ps_if (pt_not (pt_val (C8.pe_c cW hr (by decide) (by rfl) (pa_cons (pv 1) (pa_cons pe_int (pa_cons (pe_op op_sub (C8.pe_mt0 cM hr (by decide) (pv 0)) pe_int) pa_nil)))))) pss_never pss_nil), ?_⟩
  refine ⟨_, rfl, _, rfl, p, dx, _, rfl, hp, cf_no no_many.1 no_many.2.1 no_many.2.2, p, m, f, xs, rfl, c, (m : Int), 1, rfl, rfl, (k : Int), 0, (m : Int) - 1, rfl, by omega, by omega, true, rfl, ?_⟩
  refine iteF ?_
  exact q
/-! ### turned_about -/
def spTurn : Sp := fun vs H Q _ => ∃ a r, ∃ k : Nat, vs = [.ref a, .int (k : Int)] ∧ H a = some (.tup (bls r)) ∧ k < r.length ∧ r.length ≤ 8 ∧ ∀ H' b, Same H H' → H' b = some (.tup (bls (flip r k))) → Q (.ref b) H'
theorem sc29 : FnScope ["row", "wish"] ["row", "wish"] (C8.fnScope (top 29)) := C8.fnScope_by (by decide +kernel)
theorem ok_turn (D : DefOf K mg "turned_about" (top 29) ["row", "wish"]) : C8.Cal P w K mg base 1 "turned_about" spTurn [] := by
  refine cal_of D sc29 (fun vs H Q E h => ?_) (fun fA cdv A outer s H vs Q E hr h => ?_)
  · obtain ⟨a, r, k, rfl, _⟩ := h
    rfl
  obtain ⟨a, r, k, rfl, ha, hk, h8, q⟩ := h
  refine ⟨_, pss_one (ps_ret (pe_op op_catA (pe_op op_catA (pe_slice sl_tupA (pv 0) po_none (po_some (pv 1))) (pe_tup (pa_cons (pe_not (pe_ix ix_tup (pv 0) (pv 1) (fun _ _ => rfl))) pa_nil)))
    (pe_slice sl_tupA (pv 0) (po_some (pe_op op_add (pv 1) pe_int)) po_none))), ?_⟩
  refine ⟨_, rfl, _, rfl, (k : Int), rfl, ?_⟩
  have hbl : (bls r).length = r.length := List.length_map _
  refine slA ha fun H1 t1 g1 h1 => ?_
  rw [cut_to (by omega)] at h1
  refine ⟨_, rfl, _, rfl, a, _, (k : Int), .bl r[k], rfl, rfl, SqT.of (g1 _ _ ha), atI_nat (by rw [List.getElem?_map, List.getElem?_eq_getElem hk]; rfl), r[k], rfl, (by show 1 ≤ sizeLine; decide), fun t2 ht2 => ?_⟩
  have g2 := g1.trans (same_new ht2 (.tup [.bl (!r[k])]))
  refine catA ((same_new ht2 _) _ _ h1) upd_same (by rw [List.length_take]; show min k (bls r).length + 1 ≤ 1000; omega) fun H3 t3 g3 h3 => ?_
  have g3' := g2.trans g3
  refine ⟨_, rfl, _, rfl, (k : Int), 1, rfl, rfl, (k : Int) + 1, rfl, ?_⟩
  have ek : (k : Int) + 1 = ((k + 1 : Nat) : Int) := by omega
  dsimp only [tNoPart]
  refine slA (g3' _ _ ha) fun H4 t4 g4 h4 => ?_
  rw [ek, cut_from (by omega)] at h4
  refine catA (g4 _ _ h3) h4 (by rw [List.length_append, List.length_take, List.length_drop]; show min k (bls r).length + 1 + ((bls r).length - (k + 1)) ≤ 1000; omega) fun H5 t5 g5 h5 => ?_
  refine q H5 t5 (g3'.trans (g4.trans g5)) ?_
  have e2 : r.getD k false = r[k] := by
    rw [List.getD_eq_getElem?_getD, List.getElem?_eq_getElem hk]
    rfl
  rw [h5, flip_cut hk, e2]
  show _ = some (HO.tup ((r.take k ++ [!r[k]] ++ r.drop (k + 1)).map V.bl))
  rw [List.map_append, List.map_append, List.map_take, List.map_drop]
  rfl
/-! ### has_sway, swaying -/
def sway (f : Fn) (r : List Bool) (k : Nat) : Bool := !decide (V.bl (f r) = V.bl (f (flip r k)))
theorem sway_iff {f : Fn} {r : List Bool} {k : Nat} : sway f r k = true ↔ f r ≠ f (flip r k) := by
  unfold sway
  rw [dec_bl]
  cases f r <;> cases f (flip r k) <;> decide
def spSway (P : Program) (w : World) (C : Addr) : Sp := fun vs H Q _ => ∃ p, ∃ m : Nat, ∃ f xs a r, ∃ k : Nat, vs = [.ref p, .ref a, .int (k : Int)] ∧ CaseAt P w C H p m f xs ∧ H a = some (.tup (bls r)) ∧ r.length = m ∧ k < m ∧ ∀ H', Same H H' → Q (.bl (sway f r k)) H'
theorem sc35 : FnScope ["case", "row", "wish"] ["case", "row", "wish"] (C8.fnScope (top 35)) := C8.fnScope_by (by decide +kernel)
theorem ok_sway (D : DefOf K mg "has_sway" (top 35) ["case", "row", "wish"]) (cA : C8.Met P w K mg base 13 C "answer" (spAnswer P w C) []) (cT : C8.Cal P w K mg base 1 "turned_about" spTurn []) : C8.Cal P w K mg base 14 "has_sway" (spSway P w C) [] := by
  refine cal_of D sc35 (fun vs H Q E h => ?_) (fun fA cdv A outer s H vs Q E hr h => ?_)
  · obtain ⟨p, m, f, xs, a, r, k, rfl, _⟩ := h
    rfl
  obtain ⟨p, m, f, xs, a, r, k, rfl, c, ha, hm, hk, q⟩ := h
  obtain ⟨dx, dv, d, z, hp, _, _⟩ := c.ex
  refine ⟨_, pss_one (ps_ret (pe_cmpR op_ne (C8.pe_mt cA hr (by decide) (pv 0) (pa_cons (pv 1) pa_nil)) (C8.pe_mt cA hr (by decide) (pv 0) (pa_cons (C8.pe_c cT hr (by decide) (by rfl) (pa_cons (pv 1) (pa_cons (pv 2) pa_nil))) pa_nil)) (nomark _))), ?_⟩
  refine ⟨_, rfl, p, dx, _, rfl, hp, cf_no no_ans.1 no_ans.2.1 no_ans.2.2, _, rfl, p, m, f, xs, a, r, rfl, c, ha, hm, fun H1 g1 => ?_⟩
  refine ⟨_, rfl, p, dx, _, rfl, g1 _ _ hp, cf_no no_ans.1 no_ans.2.1 no_ans.2.2, _, rfl, _, rfl, a, r, k, rfl, g1 _ _ ha, by omega, by have := c.hi; omega, fun H2 b g2 hb => ?_⟩
  refine ⟨p, m, f, xs, b, flip r k, rfl, c.same (g1.trans g2), hb, by rw [flip_len, hm], fun H3 g3 => ⟨rfl, ?_⟩⟩
  exact q _ (g1.trans (g2.trans g3))
def spSwaying (P : Program) (w : World) (C : Addr) : Sp := fun vs H Q _ => ∃ p, ∃ m : Nat, ∃ f xs a r, vs = [.ref p, .ref a] ∧ CaseAt P w C H p m f xs ∧ H a = some (.tup (bls r)) ∧ r.length = m ∧
  ∀ H' l, Same H H' → H' l = some (.lst (((List.range m).filter fun k => sway f r k).map fun k => V.int (k : Nat))) → Q (.ref l) H'
theorem sc36 : FnScope ["case", "row", "wish"] ["case", "row"] (C8.fnScope (top 36)) := C8.fnScope_by (by decide +kernel)
theorem ok_swaying (D : DefOf K mg "swaying" (top 36) ["case", "row"]) (T : Txt K mg C) (cL : C8.Met P w K mg base 2 C "look_at_row" (spLookRow P w C) []) (cM : C8.Met P w K mg base 1 C "many" (spMany P w C) []) (cS : C8.Cal P w K mg base 14 "has_sway" (spSway P w C) []) :
    C8.Cal P w K mg base 15 "swaying" (spSwaying P w C) [] := by
  refine cal_of D sc36 (fun vs H Q E h => ?_) (fun fA cdv A outer s H vs Q E hr h => ?_)
  · obtain ⟨p, m, f, xs, a, r, rfl, _⟩ := h
    rfl
  obtain ⟨p, m, f, xs, a, r, rfl, c, ha, hm, q⟩ := h
  obtain ⟨dx, dv, d, z, hp, _, _⟩ := c.ex
  refine ⟨_, pss_cons (ps_expr (C8.pe_mt cL hr (by decide) (pv 0) (pa_cons (pv 1) pa_nil)))
    (pss_one (ps_ret (pe_lc (own := [("wish", 2)]) (g := gName 2) rfl sc36.nd (pi_range1 rfl T.range (pa_cons (C8.pe_mt0 cM hr (by decide) (pv 0)) pa_nil)) (blkOk_by (N := ["case", "row", "wish"]) (sc := C8.fnScope (top 36)) (by decide +kernel))
      (fun _ _ _ _ _ => pg_name (i := 2) sc36.nd rfl (Or.inl rfl)) (fun _ _ _ _ _ => pts_one (pt_val (C8.pe_c (sp := spSway P w C) cS hr (by decide) (by rfl) (pa_cons (pv 0) (pa_cons (pv 1) (pa_cons (pv 2) pa_nil))))))
      (fun _ _ _ _ _ => pv 2)))), ?_⟩
  refine ⟨_, rfl, p, dx, _, rfl, hp, cf_no no_look.1 no_look.2.1 no_look.2.2, _, rfl, p, m, f, xs, a, r, rfl, c, ha, hm, fun H1 g1 => ?_⟩
  have h8 := c.hi
  refine ⟨_, rfl, p, dx, _, rfl, g1 _ _ hp, cf_no no_many.1 no_many.2.1 no_many.2.2, p, m, f, xs, rfl, c.same g1, (m : Int), rfl, by omega, by omega, fun D hD => ?_⟩
  rw [Int.toNat_natCast]
  refine lc_range (lo := 0) (n := m) (fun i H2 => Same H1 H2 ∧ H2 D = some (.lst (((List.range i).filter fun k => sway f r k).map fun k => V.int (k : Nat)))) ⟨same_new hD _, upd_same⟩ ?_ ?_
  · rintro i H2 hi ⟨g2, hd⟩
    refine ⟨rfl, ?_⟩
    have ei : (0 : Int) + (i : Nat) = (i : Nat) := Int.zero_add _
    rw [ei]
    refine ⟨_, rfl, _, rfl, _, rfl, p, m, f, xs, a, r, i, rfl, c.same (g1.trans g2), g2 _ _ (g1 _ _ ha), hm, hi, fun H3 g3 => ⟨_, rfl, ?_⟩⟩
    cases es : sway f r i with
    | true =>
      refine iteT ?_
      refine ⟨_, rfl, _, g3 _ _ hd, ?_, same_put (g2.trans g3) hD _, ?_⟩
      · refine small1000 ?_
        rw [List.length_map]
        refine Nat.le_trans (List.length_filter_le _ _) ?_
        rw [List.length_range]
        omega
      · rw [upd_same, List.range_succ, List.filter_append, List.map_append]
        simp [es]
    | false =>
      refine iteF ?_
      refine ⟨g2.trans g3, ?_⟩
      rw [g3 _ _ hd, List.range_succ, List.filter_append, List.map_append]
      simp [es]
  · rintro H2 ⟨g2, hd⟩
    exact q _ D (g1.trans g2) hd
end
end K29

/-! K29 9: twins, pairs, table_of, alone. -/
namespace K29
open PySem L2
open PyProof.Rows (envOfC)
/-! ### pairs in the heap -/
/-- a pair's tuple, and its two rows -/
abbrev PR := Addr × (Addr × List Bool) × (Addr × List Bool)
structure PairOk (H : Hp) (x : PR) : Prop where
  tup : H x.1 = some (.tup [.ref x.2.1.1, .ref x.2.2.1])
  one : H x.2.1.1 = some (.tup (bls x.2.1.2))
  other : H x.2.2.1 = some (.tup (bls x.2.2.2))
theorem PairOk.tups {H H' : Hp} {x : PR} (o : PairOk H x) (s : TupS H H') : PairOk H' x := ⟨s _ _ o.tup, s _ _ o.one, s _ _ o.other⟩
structure PairsAt (H : Hp) (p : Addr) (L : List PR) : Prop where
  ob : H p = some (.lst (L.map fun x => V.ref x.1))
  ok : ∀ x ∈ L, PairOk H x
theorem PairsAt.same {H H' : Hp} {p : Addr} {L : List PR} (r : PairsAt H p L) (s : Same H H') : PairsAt H' p L := ⟨s _ _ r.ob, fun x hx => (r.ok x hx).tups (.of s)⟩
/-- the two rows of each pair -/
def pcon (L : List PR) : List (List Bool × List Bool) := L.map fun x => (x.2.1.2, x.2.2.2)
theorem pr_at {L : List PR} {i : Nat} {x : V} (h : (L.map fun y => V.ref y.1)[i]? = some x) : ∃ c, L[i]? = some c ∧ x = V.ref c.1 ∧ c ∈ L ∧ i < L.length := by
  rw [List.getElem?_map] at h
  cases e : L[i]? with
  | none =>
    rw [e] at h
    cases h
  | some c =>
    rw [e] at h
    exact ⟨c, rfl, (Option.some.inj h).symm, List.mem_of_getElem? e, (List.getElem?_eq_some_iff.mp e).1⟩
/-- a tuple made since stays where a list grows -/
theorem tup_put {H : Hp} {p : Addr} {xs ys : List V} {b : Addr} {zs : List V} (hp : H p = some (.lst xs)) (h : H b = some (.tup zs)) : (upd H p (.lst ys)) b = some (.tup zs) := by
  rw [upd_ne (ne_of h hp (by intro z; cases z))]
  exact h
theorem tupS_put {H : Hp} {p : Addr} {xs ys : List V} (hp : H p = some (.lst xs)) : TupS H (upd H p (.lst ys)) := fun b zs h => tup_put hp h
/-- one more pair -/
theorem PairsAt.push {H : Hp} {p : Addr} {L : List PR} (r : PairsAt H p L) {x : PR} (o : PairOk H x) : PairsAt (upd H p (.lst (L.map (fun x => V.ref x.1) ++ [.ref x.1]))) p (L ++ [x]) := by
  refine ⟨by rw [upd_same, List.map_append]; rfl, fun y hy => ?_⟩
  rcases List.mem_append.mp hy with hy | hy
  · exact (r.ok y hy).tups (tupS_put r.ob)
  · rw [List.mem_singleton.mp hy]
    exact o.tups (tupS_put r.ob)
/-! ### pairs, plain -/
def IsTwin (R : List (List Bool)) (k : Nat) (a b : List Bool) : Prop := a ∈ R ∧ b ∈ R ∧ a.getD k false = false ∧ b = flip a k
def IsPair (R : List (List Bool)) (f : Fn) (k : Nat) (a b : List Bool) : Prop := IsTwin R k a b ∧ f a ≠ f b
def rowsOf (xs : List Ent) : List (List Bool) := xs.map fun x => x.1
section
variable {P : Program} {w : World} {K : PySem.W.Frag} {mg : Str → Option Value} {base : Heap} {C : Addr}
/-! ### twins -/
def spTwins (P : Program) (w : World) (C : Addr) : Sp := fun vs H Q _ => ∃ p, ∃ m : Nat, ∃ f xs, ∃ k : Nat, vs = [.ref p, .int (k : Int)] ∧ CaseAt P w C H p m f xs ∧ k < m ∧ xs.length ≤ 256 ∧
  ∀ H' l L, Same H H' → PairsAt H' l L → (∀ a b, (a, b) ∈ pcon L ↔ IsTwin (rowsOf xs) k a b) → L.length ≤ 256 → Q (.ref l) H'
theorem sc30 : FnScope ["case", "wish", "found", "row", "other"] ["case", "wish"] (C8.fnScope (top 30)) := C8.fnScope_by (by decide +kernel)
theorem ok_twins (D : DefOf K mg "twins" (top 30) ["case", "wish"]) (cR : C8.Met P w K mg base 1 C "rows" (spRows P w C) []) (cT : C8.Cal P w K mg base 1 "turned_about" spTurn []) (cB : C8.Met P w K mg base 3 C "can_be" (spCanBe P w C) []) :
    C8.Cal P w K mg base 4 "twins" (spTwins P w C) [] := by
  refine cal_of D sc30 (fun vs H Q E h => ?_) (fun fA cdv A outer s H vs Q E hr h => ?_)
  · obtain ⟨p, m, f, xs, k, rfl, _⟩ := h
    rfl
  obtain ⟨p, m, f, xs, k, rfl, c, hk, h256, q⟩ := h
  obtain ⟨dx, dv, d, z, hp, _, _⟩ := c.ex
  refine ⟨_, pss_cons (ps_set (i := 2) sc30.nd rfl (Or.inl rfl) (pe_lst pa_nil))
    (pss_cons (ps_for PassesOwn.never rfl (pi_list (C8.pe_mt0 cR hr (by decide) (pv 0))) (pg_name (i := 3) sc30.nd rfl (Or.inl rfl))
      (pss_cons (ps_set (i := 4) sc30.nd rfl (Or.inl rfl) (C8.pe_c cT hr (by decide) (by rfl) (pa_cons (pv 3) (pa_cons (pv 1) pa_nil))))
      (pss_one (ps_if (PW.pt (pw_and (pt_not (pt_val (pe_ix ix_tup (pv 3) (pv 1) (fun _ _ => rfl)))) (pw_and1 (pt_val (C8.pe_mt cB hr (by decide) (pv 0) (pa_cons (pv 4) pa_nil))))))
        (pss_one (ps_expr (pe_bm PySem.F.plainAttrs_list PySem.F.slot_list_append PySem.F.type_list_append mt_append (pv 2) (pa_cons (pe_tup (pa_cons (pv 3) (pa_cons (pv 4) pa_nil))) pa_nil)))) pss_nil))))
    (pss_one (ps_ret (pv 2)))), ?_⟩
  refine ⟨Nat.zero_le _, fun fo hfo => ?_⟩
  have g1 : Same H (upd H fo (.lst [])) := same_new hfo _
  refine ⟨_, rfl, p, dx, _, rfl, g1 _ _ hp, cf_no no_rows.1 no_rows.2.1 no_rows.2.2, p, m, f, xs, rfl, c.same g1, fun H2 rl nrl0 g2 hrl => ⟨rl, rfl, ⟨_, SqL.of hrl.ob⟩, ?_⟩⟩
  have hxl : (rlOf xs).length = xs.length := List.length_map _
  refine for_list (K := K) (a := rl) (xs := (rlOf xs).map fun x => V.ref x.1) (fun i σ H3 => ∃ y3 y4, ∃ L : List PR, σ = [some (.ref p), some (.int (k : Nat)), some (.ref fo), y3, y4] ∧ Same H H3 ∧ RowsAt H3 rl (rlOf xs) ∧ PairsAt H3 fo L ∧ L.length ≤ i ∧
      ∀ a b, (a, b) ∈ pcon L ↔ a ∈ (xs.take i).map (fun x => x.1) ∧ b ∈ rowsOf xs ∧ a.getD k false = false ∧ b = flip a k)
    ⟨none, none, [], rfl, g1.trans g2, hrl, ⟨g2 _ _ upd_same, fun x hx => absurd hx (by simp)⟩, Nat.le_refl _, fun a b => ⟨fun h => absurd h (by simp [pcon]), fun h => absurd h.1 (by simp)⟩⟩ (fun i σ H3 _ ⟨_, _, _, _, _, r, _⟩ => SqL.of r.ob) ?_ ?_
  · rintro i x σ H3 hx ⟨y3, y4, L, rfl, g3, r3, pl, hl, hmem⟩
    obtain ⟨e, he, rfl, hm, hi⟩ := ref_at hx
    have hrow := r3.row e hm
    obtain ⟨x0, hx0, rfl⟩ : ∃ x0, xs[i]? = some x0 ∧ e = (x0.2.1, x0.1) := by
      unfold rlOf at he
      rw [List.getElem?_map] at he
      cases e2 : xs[i]? with
      | none =>
        rw [e2] at he
        cases he
      | some x0 =>
        rw [e2] at he
        exact ⟨x0, rfl, (Option.some.inj he).symm⟩
    have hx0m : x0 ∈ xs := List.mem_of_getElem? hx0
    have hlen0 : x0.1.length = m := c.len x0 hx0m
    have et : (xs.take (i + 1)).map (fun x => x.1) = (xs.take i).map (fun x => x.1) ++ [x0.1] := by
      rw [List.take_add_one, hx0, List.map_append]
      rfl
    have h8 := c.hi
    refine ⟨_, rfl, _, rfl, x0.2.1, x0.1, k, rfl, hrow, by omega, by omega, fun H4 ot g4 hot => ?_⟩
    have hkl : k < x0.1.length := by omega
    refine ⟨_, rfl, _, rfl, x0.2.1, _, (k : Int), .bl x0.1[k], rfl, rfl, SqT.of (g4 _ _ hrow), atI_nat (by rw [List.getElem?_map, List.getElem?_eq_getElem hkl]; rfl), x0.1[k], rfl, ?_⟩
    have ed : x0.1.getD k false = x0.1[k] := by
      rw [List.getD_eq_getElem?_getD, List.getElem?_eq_getElem hkl]
      rfl
    have skip : ∀ H5, Same H4 H5 → ¬ (flip x0.1 k ∈ rowsOf xs ∧ x0.1.getD k false = false) → ∃ y3 y4, ∃ L : List PR, ([some (.ref p), some (.int (k : Nat)), some (.ref fo), some (V.ref x0.2.1), some (.ref ot)] : L2.St) = [some (.ref p), some (.int (k : Nat)), some (.ref fo), y3, y4] ∧ Same H H5 ∧ RowsAt H5 rl (rlOf xs) ∧ PairsAt H5 fo L ∧ L.length ≤ i + 1 ∧
        ∀ a b, (a, b) ∈ pcon L ↔ a ∈ (xs.take (i + 1)).map (fun x => x.1) ∧ b ∈ rowsOf xs ∧ a.getD k false = false ∧ b = flip a k := fun H5 g5 hno =>
      ⟨_, _, L, rfl, g3.trans (g4.trans g5), r3.same (g4.trans g5), pl.same (g4.trans g5), by omega, fun a b => by
        rw [hmem a b, et, List.mem_append, List.mem_singleton]
        constructor
        · rintro ⟨h1, h2⟩
          exact ⟨.inl h1, h2⟩
        · rintro ⟨h1 | h1, h2, h3, h4⟩
          · exact ⟨h1, h2, h3, h4⟩
          · subst h1 h4
            exact absurd ⟨h2, h3⟩ hno⟩
    cases eb : x0.1[k] with
    | true =>
      refine iteF ?_
      refine iteF ?_
      exact skip H4 (Same.refl _) fun hh => by
        rw [ed, eb] at hh
        cases hh.2
    | false =>
      refine iteT ?_
      refine ⟨_, rfl, p, dx, _, rfl, g4 _ _ (g3 _ _ hp), cf_no no_can.1 no_can.2.1 no_can.2.2, _, rfl, p, m, f, xs, ot, flip x0.1 k, rfl, c.same (g3.trans g4), hot, by rw [flip_len]; exact hlen0, fun H5 g5 => ⟨_, rfl, ?_⟩⟩
      by_cases hin : flip x0.1 k ∈ xs.map (fun x => x.1)
      · rw [decide_eq_true hin]
        refine iteT ?_
        have g45 := g4.trans g5
        refine ⟨.ref fo, rfl, .inl ⟨rfl, _, SqL.of (g45 _ _ pl.ob)⟩, _, rfl, _, rfl, (by show 2 ≤ sizeLine; decide), fun t ht => ?_⟩
        have gt := g45.trans (same_new ht (.tup [.ref x0.2.1, .ref ot]))
        have nfo : H fo = none := hfo
        refine ⟨fo, _, _, rfl, rfl, gt _ _ pl.ob, ?_, ?_⟩
        · rw [List.length_map]
          exact small1000 (by omega)
        · have plt := pl.same gt
          have px : PairOk (upd H5 t (.tup [.ref x0.2.1, .ref ot])) (t, (x0.2.1, x0.1), (ot, flip x0.1 k)) := ⟨upd_same, gt _ _ hrow, (g5.trans (same_new ht _)) _ _ hot⟩
          refine ⟨_, _, L ++ [(t, (x0.2.1, x0.1), (ot, flip x0.1 k))], rfl, same_put (g3.trans gt) nfo _, ?_, plt.push px, ?_, fun a b => ?_⟩
          · refine ⟨?_, fun y hy => ?_⟩
            · have nrl : rl ≠ fo := (ne_of_none upd_same nrl0).symm
              rw [upd_ne nrl]
              exact gt _ _ r3.ob
            · exact tup_put plt.ob (gt _ _ (r3.row y hy))
          · rw [List.length_append]
            show L.length + 1 ≤ i + 1
            omega
          · unfold pcon
            rw [List.map_append, List.mem_append, et, List.mem_append, List.mem_singleton]
            have hm0 := hmem a b
            unfold pcon at hm0
            constructor
            · rintro (h1 | h1)
              · obtain ⟨h2, h3⟩ := hm0.mp h1
                exact ⟨.inl h2, h3⟩
              · have e2 := List.mem_singleton.mp h1
                have e3 : a = x0.1 := congrArg Prod.fst e2
                have e4 : b = flip x0.1 k := congrArg Prod.snd e2
                subst e3 e4
                exact ⟨.inr rfl, hin, by rw [ed, eb], rfl⟩
            · rintro ⟨h1 | h1, h2, h3, h4⟩
              · exact .inl (hm0.mpr ⟨h1, h2, h3, h4⟩)
              · subst h1 h4
                exact .inr (List.mem_singleton.mpr rfl)
      · rw [decide_eq_false hin]
        refine iteF ?_
        exact skip H5 g5 fun hh => hin hh.1
  · rintro σ H3 ⟨y3, y4, L, rfl, g3, r3, pl, hl, hmem⟩
    rw [List.length_map, hxl] at hl
    refine ⟨_, rfl, q H3 fo L g3 pl (fun a b => ?_) (by omega)⟩
    rw [hmem a b, List.length_map, hxl, List.take_length]
    exact Iff.rfl
end
end K29

/-! K29 10: pairs, table_of, alone. -/
namespace K29
open PySem L2
open PyProof.Rows (envOfC)
section
variable {P : Program} {w : World} {K : PySem.W.Frag} {mg : Str → Option Value} {base : Heap} {C : Addr}
theorem ne_bl {x y : Bool} : (!decide (V.bl x = V.bl y)) = true ↔ x ≠ y := by
  rw [dec_bl]
  cases x <;> cases y <;> decide
/-- two names out of a pair -/
abbrev gPair (K : PySem.W.Frag) (i j : Nat) : TG := gTup K 2 (gCons (gName i) (gCons (gName j) gNil))
/-! ### pairs -/
def spPairs (P : Program) (w : World) (C : Addr) : Sp := fun vs H Q _ => ∃ p, ∃ m : Nat, ∃ f xs, ∃ k : Nat, vs = [.ref p, .int (k : Int)] ∧ CaseAt P w C H p m f xs ∧ k < m ∧ xs.length ≤ 256 ∧
  ∀ H' l L, H l = none → Same H H' → PairsAt H' l L → (∀ a b, (a, b) ∈ pcon L ↔ IsPair (rowsOf xs) f k a b) → L.length ≤ 256 → Q (.ref l) H'
theorem sc31 : FnScope ["case", "wish", "one", "other"] ["case", "wish"] (C8.fnScope (top 31)) := C8.fnScope_by (by decide +kernel)
theorem twin_len {xs : List Ent} {m k : Nat} {a b : List Bool} (hl : ∀ x ∈ xs, x.1.length = m) (t : IsTwin (rowsOf xs) k a b) : a.length = m ∧ b.length = m := by
  have row : ∀ r, r ∈ rowsOf xs → r.length = m := fun r hr => by
    obtain ⟨x, hx, rfl⟩ := List.mem_map.mp hr
    exact hl x hx
  exact ⟨row a t.1, row b t.2.1⟩
theorem ok_pairs (D : DefOf K mg "pairs" (top 31) ["case", "wish"]) (cL : C8.Cal P w K mg base 3 "look_at_wish" (spLookWish P w C) []) (cT : C8.Cal P w K mg base 4 "twins" (spTwins P w C) []) (cA : C8.Met P w K mg base 13 C "answer" (spAnswer P w C) []) :
    C8.Cal P w K mg base 14 "pairs" (spPairs P w C) [] := by
  refine cal_of D sc31 (fun vs H Q E h => ?_) (fun fA cdv A outer s H vs Q E hr h => ?_)
  · obtain ⟨p, m, f, xs, k, rfl, _⟩ := h
    rfl
  obtain ⟨p, m, f, xs, k, rfl, c, hk, h256, q⟩ := h
  obtain ⟨dx, dv, d, z, hp, _, _⟩ := c.ex
  refine ⟨_, pss_cons (ps_expr (C8.pe_c cL hr (by decide) (by rfl) (pa_cons (pv 0) (pa_cons (pv 1) pa_nil))))
    (pss_one (ps_ret (pe_lc (own := [("one", 2), ("other", 3)]) (g := gPair K 2 3) rfl sc31.nd (pi_list (C8.pe_c cT hr (by decide) (by rfl) (pa_cons (pv 0) (pa_cons (pv 1) pa_nil)))) (blkOk_by (N := ["case", "wish", "one", "other"]) (sc := C8.fnScope (top 31)) (by decide +kernel))
      (fun _ _ _ _ _ => pg_tup rfl (pgs_cons (pg_name (i := 2) sc31.nd rfl (Or.inl rfl)) (pgs_cons (pg_name (i := 3) sc31.nd rfl (Or.inl rfl)) pgs_nil)))
      (fun _ _ _ _ _ => pts_one (pt_cmpR op_ne (C8.pe_mt (sp := spAnswer P w C) (C := C) cA hr (by decide) (pv 0) (pa_cons (pv 2) pa_nil)) (C8.pe_mt (sp := spAnswer P w C) (C := C) cA hr (by decide) (pv 0) (pa_cons (pv 3) pa_nil)) (nomark _)))
      (fun _ _ _ _ _ => pe_tup (pa_cons (pv 2) (pa_cons (pv 3) pa_nil)))))), ?_⟩
  refine ⟨_, rfl, _, rfl, p, m, f, xs, k, rfl, c, hk, ?_⟩
  refine ⟨_, rfl, _, rfl, p, m, f, xs, k, rfl, c, hk, h256, fun H1 tl TL g1 ht hmem hlen => ⟨tl, rfl, ⟨_, SqL.of ht.ob⟩, fun D hD => ?_⟩⟩
  refine lc_list (K := K) (a := tl) (xs := TL.map fun x => V.ref x.1) (fun i H2 => ∃ L : List PR, Same H1 H2 ∧ PairsAt H2 D L ∧ L.length ≤ i ∧ pcon L = (pcon (TL.take i)).filter fun x => !decide (V.bl (f x.1) = V.bl (f x.2)))
    ⟨[], same_new hD _, ⟨upd_same, fun x hx => absurd hx (by simp)⟩, Nat.le_refl _, rfl⟩ (fun i H2 _ ⟨_, g, _⟩ => SqL.of (g _ _ ht.ob)) ?_ ?_
  · rintro i x H2 hx ⟨L, g2, pl, hl, epc⟩
    obtain ⟨e, he, rfl, hm, hi⟩ := pr_at hx
    have oe := (ht.ok e hm).tups (.of g2)
    have tw : IsTwin (rowsOf xs) k e.2.1.2 e.2.2.2 := (hmem _ _).mp (List.mem_map.mpr ⟨e, hm, rfl⟩)
    obtain ⟨l1, l2⟩ := twin_len c.len tw
    have et : pcon (TL.take (i + 1)) = pcon (TL.take i) ++ [(e.2.1.2, e.2.2.2)] := by
      unfold pcon
      rw [List.take_add_one, he, List.map_append]
      rfl
    refine ⟨e.1, _, rfl, SqT.of oe.tup, rfl, _, _, rfl, _, _, rfl, rfl, rfl, ?_⟩
    refine ⟨_, rfl, p, dx, _, rfl, g2 _ _ (g1 _ _ hp), cf_no no_ans.1 no_ans.2.1 no_ans.2.2, _, rfl, p, m, f, xs, e.2.1.1, e.2.1.2, rfl, c.same (g1.trans g2), oe.one, l1, fun H3 g3 => ?_⟩
    refine ⟨_, rfl, p, dx, _, rfl, g3 _ _ (g2 _ _ (g1 _ _ hp)), cf_no no_ans.1 no_ans.2.1 no_ans.2.2, _, rfl, p, m, f, xs, e.2.2.1, e.2.2.2, rfl, c.same (g1.trans (g2.trans g3)), g3 _ _ oe.other, l2, fun H4 g4 => ⟨rfl, _, rfl, ?_⟩⟩
    have g34 := g3.trans g4
    cases eb : (!decide (V.bl (f e.2.1.2) = V.bl (f e.2.2.2))) with
    | true =>
      refine iteT ?_
      refine ⟨_, rfl, _, rfl, (by show 2 ≤ sizeLine; decide), fun t htn => ?_⟩
      have g5 := g34.trans (same_new htn (.tup [.ref e.2.1.1, .ref e.2.2.1]))
      have plt := pl.same g5
      refine ⟨_, plt.ob, ?_, L ++ [(t, e.2)], same_put (g2.trans g5) hD _, plt.push (x := (t, e.2)) ⟨upd_same, g5 _ _ oe.one, g5 _ _ oe.other⟩, ?_, ?_⟩
      · rw [List.length_map]
        exact small1000 (by omega)
      · rw [List.length_append]
        show L.length + 1 ≤ i + 1
        omega
      · have e3 : List.filter (fun x : List Bool × List Bool => !decide (V.bl (f x.1) = V.bl (f x.2))) [(e.2.1.2, e.2.2.2)] = [(e.2.1.2, e.2.2.2)] := List.filter_eq_self.mpr fun x hx => by
          rw [List.mem_singleton.mp hx]
          exact eb
        rw [et, List.filter_append, ← epc, e3]
        unfold pcon
        rw [List.map_append]
        rfl
    | false =>
      refine iteF ?_
      refine ⟨L, g2.trans g34, pl.same g34, by omega, ?_⟩
      have e3 : List.filter (fun x : List Bool × List Bool => !decide (V.bl (f x.1) = V.bl (f x.2))) [(e.2.1.2, e.2.2.2)] = [] := List.filter_eq_nil_iff.mpr fun x hx => by
        rw [List.mem_singleton.mp hx]
        show ¬ (!decide (V.bl (f e.2.1.2) = V.bl (f e.2.2.2))) = true
        rw [eb]
        exact Bool.false_ne_true
      rw [et, List.filter_append, ← epc, e3, List.append_nil]
  · rintro H2 ⟨L, g2, pl, hl, epc⟩
    rw [List.length_map] at hl
    rw [List.length_map, List.take_length] at epc
    refine q H2 D L (g1.free hD) (g1.trans g2) pl (fun a b => ?_) (by omega)
    rw [epc, List.mem_filter, hmem a b]
    unfold IsPair
    rw [ne_bl]
/-! ### table_of -/
def spTable (P : Program) (w : World) (C : Addr) : Sp := fun vs H Q _ => ∃ p, ∃ m : Nat, ∃ f xs, ∃ k : Nat, vs = [.ref p, .int (k : Int)] ∧ CaseAt P w C H p m f xs ∧ k < m ∧ xs.length ≤ 256 ∧ ∀ H' l, Same H H' → Q (.ref l) H'
theorem sc32 : FnScope ["case", "wish", "one", "other"] ["case", "wish"] (C8.fnScope (top 32)) := C8.fnScope_by (by decide +kernel)
theorem ok_table (D : DefOf K mg "table_of" (top 32) ["case", "wish"]) (cT : C8.Cal P w K mg base 4 "twins" (spTwins P w C) []) (cA : C8.Met P w K mg base 13 C "answer" (spAnswer P w C) []) : C8.Cal P w K mg base 14 "table_of" (spTable P w C) [] := by
  refine cal_of D sc32 (fun vs H Q E h => ?_) (fun fA cdv A outer s H vs Q E hr h => ?_)
  · obtain ⟨p, m, f, xs, k, rfl, _⟩ := h
    rfl
  obtain ⟨p, m, f, xs, k, rfl, c, hk, h256, q⟩ := h
  obtain ⟨dx, dv, d, z, hp, _, _⟩ := c.ex
  have h8 := c.hi
  refine ⟨_, pss_one (ps_ret (pe_lc (own := [("one", 2), ("other", 3)]) (g := gPair K 2 3) (tt := tYes) rfl sc32.nd (pi_list (C8.pe_c cT hr (by decide) (by rfl) (pa_cons (pv 0) (pa_cons (pv 1) pa_nil)))) (blkOk_by (N := ["case", "wish", "one", "other"]) (sc := C8.fnScope (top 32)) (by decide +kernel))
      (fun _ _ _ _ _ => pg_tup rfl (pgs_cons (pg_name (i := 2) sc32.nd rfl (Or.inl rfl)) (pgs_cons (pg_name (i := 3) sc32.nd rfl (Or.inl rfl)) pgs_nil)))
      (fun _ _ _ _ _ => pts_nil)
      (fun _ _ _ _ _ => pe_tup (pa_cons (pe_op (r := rCatA K) op_catA (pe_slice (r := rSlA K) sl_tupA (pv 2) po_none (po_some (pv 1))) (pe_slice (r := rSlA K) sl_tupA (pv 2) (po_some (pe_op op_add (pv 1) pe_int)) po_none)) (pa_cons (C8.pe_mt (sp := spAnswer P w C) (C := C) cA hr (by decide) (pv 0) (pa_cons (pv 2) pa_nil)) pa_nil))))), ?_⟩
  refine ⟨_, rfl, _, rfl, p, m, f, xs, k, rfl, c, hk, h256, fun H1 tl TL g1 ht hmem hlen => ⟨tl, rfl, ⟨_, SqL.of ht.ob⟩, fun D hD => ?_⟩⟩
  refine lc_list (K := K) (a := tl) (xs := TL.map fun x => V.ref x.1) (fun i H2 => ∃ zs : List V, Same H1 H2 ∧ H2 D = some (.lst zs) ∧ zs.length = i)
    ⟨[], same_new hD _, upd_same, rfl⟩ (fun i H2 _ ⟨_, g, _⟩ => SqL.of (g _ _ ht.ob)) ?_ ?_
  · rintro i x H2 hx ⟨zs, g2, hd, hl⟩
    obtain ⟨e, he, rfl, hm, hi⟩ := pr_at hx
    have oe := (ht.ok e hm).tups (.of g2)
    have tw : IsTwin (rowsOf xs) k e.2.1.2 e.2.2.2 := (hmem _ _).mp (List.mem_map.mpr ⟨e, hm, rfl⟩)
    obtain ⟨l1, l2⟩ := twin_len c.len tw
    have hbl : (bls e.2.1.2).length = m := by rw [List.length_map]; exact l1
    refine ⟨e.1, _, rfl, SqT.of oe.tup, rfl, _, _, rfl, _, _, rfl, rfl, rfl, ?_⟩
    refine tY ?_
    refine ⟨_, rfl, _, rfl, (k : Int), rfl, ?_⟩
    refine slA oe.one fun H3 t1 g3 h3 => ?_
    rw [cut_to (by omega)] at h3
    refine ⟨_, rfl, _, rfl, (k : Int), 1, rfl, rfl, (k : Int) + 1, rfl, ?_⟩
    dsimp only [tNoPart]
    have ek : (k : Int) + 1 = ((k + 1 : Nat) : Int) := by omega
    refine slA (g3 _ _ oe.one) fun H4 t2 g4 h4 => ?_
    rw [ek, cut_from (by omega)] at h4
    refine catA (g4 _ _ h3) h4 (by rw [List.length_take, List.length_drop]; omega) fun H5 t3 g5 h5 => ?_
    have g6 := g3.trans (g4.trans g5)
    refine ⟨_, rfl, p, dx, _, rfl, g6 _ _ (g2 _ _ (g1 _ _ hp)), cf_no no_ans.1 no_ans.2.1 no_ans.2.2, _, rfl, p, m, f, xs, e.2.1.1, e.2.1.2, rfl, c.same (g1.trans (g2.trans g6)), g6 _ _ oe.one, l1, fun H7 g7 => ?_⟩
    refine ⟨(by show 2 ≤ sizeLine; decide), fun t htn => ?_⟩
    have g8 := g6.trans (g7.trans (same_new htn (.tup [.ref t3, .bl (f e.2.1.2)])))
    refine ⟨zs, g8 _ _ hd, small1000 (by omega), _, same_put (g2.trans g8) hD _, upd_same, ?_⟩
    rw [List.length_append, hl]
    rfl
  · rintro H2 ⟨zs, g2, hd, hl⟩
    exact q H2 D (g1.trans g2)
/-! ### alone -/
def spAlone (P : Program) (w : World) (C : Addr) : Sp := fun vs H Q _ => ∃ p, ∃ m : Nat, ∃ f xs, ∃ k : Nat, vs = [.ref p, .int (k : Int)] ∧ CaseAt P w C H p m f xs ∧ k < m ∧ xs.length ≤ 256 ∧
  ∀ H' t wd rest, Same H H' → H' t = some (.tup (.str wd :: rest)) → ((wd = "pair" ∧ ∃ a b, IsPair (rowsOf xs) f k a b) ∨ (wd = "table" ∧ ∀ a b, ¬ IsPair (rowsOf xs) f k a b)) → Q (.ref t) H'
theorem sc33 : FnScope ["case", "wish", "some"] ["case", "wish"] (C8.fnScope (top 33)) := C8.fnScope_by (by decide +kernel)
theorem ok_alone (D : DefOf K mg "alone" (top 33) ["case", "wish"]) (cP : C8.Cal P w K mg base 14 "pairs" (spPairs P w C) []) (cT : C8.Cal P w K mg base 14 "table_of" (spTable P w C) []) : C8.Cal P w K mg base 15 "alone" (spAlone P w C) [] := by
  refine cal_of D sc33 (fun vs H Q E h => ?_) (fun fA cdv A outer s H vs Q E hr h => ?_)
  · obtain ⟨p, m, f, xs, k, rfl, _⟩ := h
    rfl
  obtain ⟨p, m, f, xs, k, rfl, c, hk, h256, q⟩ := h
  refine ⟨_, pss_cons (ps_set (i := 2) sc33.nd rfl (Or.inl rfl) (C8.pe_c cP hr (by decide) (by rfl) (pa_cons (pv 0) (pa_cons (pv 1) pa_nil))))
    (pss_cons (ps_if (pt_cmpR (op_neE hr.units) (pv 2) (pe_lst pa_nil) (nomark _)) (pss_one (ps_ret (pe_tup (pa_cons pe_str (pa_cons (pe_ix ix_tup (pe_ix ix_list (pv 2) pe_int (fun _ _ => rfl)) pe_int (fun _ _ => rfl)) (pa_cons (pe_ix ix_tup (pe_ix ix_list (pv 2) pe_int (fun _ _ => rfl)) pe_int (fun _ _ => rfl)) pa_nil)))))) pss_nil)
    (pss_one (ps_ret (pe_tup (pa_cons pe_str (pa_cons (C8.pe_c cT hr (by decide) (by rfl) (pa_cons (pv 0) (pa_cons (pv 1) pa_nil))) pa_nil)))))), ?_⟩
  refine ⟨_, rfl, _, rfl, p, m, f, xs, k, rfl, c, hk, h256, fun H1 l L _ g1 pl hmem hlen => ?_⟩
  refine ⟨_, rfl, Nat.zero_le _, fun e he => ?_⟩
  have g2 := g1.trans (same_new he (.lst []))
  have pl2 := pl.same (same_new he (.lst []))
  refine ⟨l, e, _, rfl, rfl, SqL.of pl2.ob, SqL.of upd_same, _, rfl, ?_⟩
  cases L with
  | nil =>
    refine iteF ?_
    refine ⟨_, rfl, _, rfl, p, m, f, xs, k, rfl, c.same g2, hk, h256, fun H3 t3 g3 => ?_⟩
    refine ⟨(by show 2 ≤ sizeLine; decide), fun t ht => ?_⟩
    refine q _ t "table" _ (g2.trans (g3.trans (same_new ht _))) upd_same (.inr ⟨rfl, fun a b hab => ?_⟩)
    exact absurd ((hmem a b).mpr hab) (by simp [pcon])
  | cons x Lt =>
    refine iteT ?_
    have ox := pl2.ok x List.mem_cons_self
    refine ⟨_, rfl, l, _, 0, .ref x.1, rfl, rfl, SqL.of pl2.ob, atI_nat (j := 0) rfl, x.1, _, 0, _, rfl, rfl, SqT.of ox.tup, atI_nat (j := 0) rfl, ?_⟩
    refine ⟨_, rfl, l, _, 0, .ref x.1, rfl, rfl, SqL.of pl2.ob, atI_nat (j := 0) rfl, x.1, _, 1, _, rfl, rfl, SqT.of ox.tup, atI_nat (j := 1) rfl, ?_⟩
    refine ⟨(by show 3 ≤ sizeLine; decide), fun t ht => ?_⟩
    exact q _ t "pair" _ (g2.trans (same_new ht _)) upd_same (.inl ⟨rfl, x.2.1.2, x.2.2.2, (hmem _ _).mp List.mem_cons_self⟩)
end
end K29

/-! K29 11: loose_pairs. -/
namespace K29
open PySem L2
open PyProof.Rows (envOfC)
theorem PairsAt.more {H : Hp} {p : Addr} {L M : List PR} (r : PairsAt H p L) (o : ∀ x ∈ M, PairOk H x) : PairsAt (upd H p (.lst (L.map (fun x => V.ref x.1) ++ M.map (fun x => V.ref x.1)))) p (L ++ M) := by
  refine ⟨by rw [upd_same, List.map_append], fun y hy => ?_⟩
  rcases List.mem_append.mp hy with hy | hy
  · exact (r.ok y hy).tups (tupS_put r.ob)
  · exact (o y hy).tups (tupS_put r.ob)
/-- one more row -/
theorem RowsAt.push {H : Hp} {p : Addr} {L : RL} (r : RowsAt H p L) {x : Addr × List Bool} (o : H x.1 = some (.tup (bls x.2))) : RowsAt (upd H p (.lst (L.map (fun x => V.ref x.1) ++ [.ref x.1]))) p (L ++ [x]) := by
  refine ⟨by rw [upd_same, List.map_append]; rfl, fun y hy => ?_⟩
  rcases List.mem_append.mp hy with hy | hy
  · exact tup_put r.ob (r.row y hy)
  · rw [List.mem_singleton.mp hy]
    exact tup_put r.ob o
/-- a filter, one item further -/
theorem filt_T {α : Type} {g : α → Bool} {L : List α} {i : Nat} {x : α} (h : L[i]? = some x) (e : g x = true) : (L.take (i + 1)).filter g = (L.take i).filter g ++ [x] := by
  rw [List.take_add_one, h, List.filter_append]
  show _ ++ List.filter g [x] = _
  rw [List.filter_cons_of_pos e, List.filter_nil]
theorem filt_F {α : Type} {g : α → Bool} {L : List α} {i : Nat} {x : α} (h : L[i]? = some x) (e : g x = false) : (L.take (i + 1)).filter g = (L.take i).filter g := by
  rw [List.take_add_one, h, List.filter_append]
  show _ ++ List.filter g [x] = _
  rw [List.filter_cons_of_neg (by rw [e]; exact Bool.false_ne_true), List.filter_nil, List.append_nil]
theorem filt_len {α : Type} (g : α → Bool) (L : List α) (i : Nat) : ((L.take i).filter g).length ≤ L.length := by
  refine Nat.le_trans (List.length_filter_le _ _) ?_
  rw [List.length_take]
  omega
/-! ### loose pairs, plain -/
def IsLoose (R : List (List Bool)) (f : Fn) (k : Nat) (a b : List Bool) : Prop := a ∈ R ∧ b ∈ R ∧ sway f a k = true ∧ sway f b k = true ∧ a.getD k false = false ∧ b.getD k false = true ∧ f b ≠ f a
/-- those that go with one -/
def lpO (f : Fn) (k : Nat) (o : List Bool) (x : Addr × List Bool) : Bool := x.2.getD k false && !decide (V.bl (f x.2) = V.bl (f o))
def lp (f : Fn) (k : Nat) (L1 : RL) (L : RL) : List (List Bool × List Bool) := L.flatMap fun o => if o.2.getD k false = true then [] else (L1.filter (lpO f k o.2)).map fun x => (o.2, x.2)
theorem mem_lp {f : Fn} {k : Nat} {xs : List Ent} {a b : List Bool} : (a, b) ∈ lp f k ((rlOf xs).filter fun x => sway f x.2 k) ((rlOf xs).filter fun x => sway f x.2 k) ↔ IsLoose (rowsOf xs) f k a b := by
  have mr : ∀ r, (∃ y ∈ rlOf xs, y.2 = r) ↔ r ∈ rowsOf xs := fun r => by
    unfold rlOf rowsOf
    constructor
    · rintro ⟨y, hy, rfl⟩
      obtain ⟨z, hz, rfl⟩ := List.mem_map.mp hy
      exact List.mem_map.mpr ⟨z, hz, rfl⟩
    · intro h
      obtain ⟨z, hz, rfl⟩ := List.mem_map.mp h
      exact ⟨_, List.mem_map.mpr ⟨z, hz, rfl⟩, rfl⟩
  unfold lp IsLoose
  rw [List.mem_flatMap]
  constructor
  · rintro ⟨o, ho, h⟩
    obtain ⟨ho1, ho2⟩ := List.mem_filter.mp ho
    by_cases e : o.2.getD k false = true
    · rw [if_pos e] at h
      cases h
    · rw [if_neg e] at h
      obtain ⟨x, hx, ex⟩ := List.mem_map.mp h
      obtain ⟨hx1, hx2⟩ := List.mem_filter.mp hx
      obtain ⟨hx3, hx4⟩ := List.mem_filter.mp hx1
      have e1 : o.2 = a := congrArg Prod.fst ex
      have e2 : x.2 = b := congrArg Prod.snd ex
      subst e1 e2
      unfold lpO at hx2
      rw [Bool.and_eq_true, ne_bl] at hx2
      exact ⟨(mr _).mp ⟨o, ho1, rfl⟩, (mr _).mp ⟨x, hx3, rfl⟩, ho2, hx4, by simpa using e, hx2.1, hx2.2⟩
  · rintro ⟨h1, h2, h3, h4, h5, h6, h7⟩
    obtain ⟨o, ho, rfl⟩ := (mr a).mpr h1
    obtain ⟨x, hx, rfl⟩ := (mr b).mpr h2
    refine ⟨o, List.mem_filter.mpr ⟨ho, h3⟩, ?_⟩
    rw [if_neg (by rw [h5]; exact Bool.false_ne_true)]
    refine List.mem_map.mpr ⟨x, List.mem_filter.mpr ⟨List.mem_filter.mpr ⟨hx, h4⟩, ?_⟩, rfl⟩
    unfold lpO
    rw [Bool.and_eq_true, ne_bl]
    exact ⟨h6, h7⟩
section
variable {P : Program} {w : World} {K : PySem.W.Frag} {mg : Str → Option Value} {base : Heap} {C : Addr}
def spLoose (P : Program) (w : World) (C : Addr) : Sp := fun vs H Q _ => ∃ p, ∃ m : Nat, ∃ f xs, ∃ k : Nat, vs = [.ref p, .int (k : Int)] ∧ CaseAt P w C H p m f xs ∧ k < m ∧ xs.length ≤ 16 ∧
  ∀ H' l L, H l = none → Same H H' → PairsAt H' l L → (∀ a b, (a, b) ∈ pcon L ↔ IsLoose (rowsOf xs) f k a b) → L.length ≤ 256 → Q (.ref l) H'
theorem sc37 : FnScope ["case", "wish", "rows", "found", "one", "others", "row", "other"] ["case", "wish"] (C8.fnScope (top 37)) := C8.fnScope_by (by decide +kernel)
theorem ok_loose (D : DefOf K mg "loose_pairs" (top 37) ["case", "wish"]) (cL : C8.Cal P w K mg base 3 "look_at_wish" (spLookWish P w C) []) (cR : C8.Met P w K mg base 1 C "rows" (spRows P w C) []) (cS : C8.Cal P w K mg base 14 "has_sway" (spSway P w C) [])
    (cA : C8.Met P w K mg base 13 C "answer" (spAnswer P w C) []) : C8.Cal P w K mg base 15 "loose_pairs" (spLoose P w C) [] := by
  refine cal_of D sc37 (fun vs H Q E h => ?_) (fun fA cdv A outer s H vs Q E hr h => ?_)
  · obtain ⟨p, m, f, xs, k, rfl, _⟩ := h
    rfl
  obtain ⟨p, m, f, xs, k, rfl, c, hk, h16, q⟩ := h
  obtain ⟨dx, dv, d, z, hp, _, _⟩ := c.ex
  refine ⟨_, pss_cons (ps_expr (C8.pe_c cL hr (by decide) (by rfl) (pa_cons (pv 0) (pa_cons (pv 1) pa_nil))))
    (pss_cons (ps_setLc (i := 2) (own := [("row", 6)]) (g := gName 6) rfl sc37.nd rfl rfl (sw_true rfl rfl rfl (by decide +kernel)) (pi_list (C8.pe_mt0 cR hr (by decide) (pv 0))) (blkOk_by (N := ["case", "wish", "rows", "found", "one", "others", "row", "other"]) (sc := C8.fnScope (top 37)) (by decide +kernel))
      (fun _ _ _ _ _ => pg_name (i := 6) sc37.nd rfl (Or.inl rfl)) (fun _ _ _ _ _ => pts_one (pt_val (C8.pe_c (sp := spSway P w C) cS hr (by decide) (by rfl) (pa_cons (pv 0) (pa_cons (pv 6) (pa_cons (pv 1) pa_nil))))))
      (fun _ _ _ _ _ => pv 6))
    (pss_cons (ps_set (i := 3) sc37.nd rfl (Or.inl rfl) (pe_lst pa_nil))
    (pss_cons (ps_for PassesOwn.never rfl (pi_list (pv 2)) (pg_name (i := 4) sc37.nd rfl (Or.inr rfl))
      (pss_one (ps_if (pt_not (pt_val (pe_ix ix_tup (pv 4) (pv 1) (fun _ _ => rfl))))
        (pss_cons (ps_setLc (i := 5) (own := [("row", 6)]) (g := gName 6) rfl sc37.nd rfl rfl (sw_true rfl rfl rfl (by decide +kernel)) (pi_list (pv 2)) (blkOk_by (N := ["case", "wish", "rows", "found", "one", "others", "row", "other"]) (sc := C8.fnScope (top 37)) (by decide +kernel))
          (fun _ _ _ _ _ => pg_name (i := 6) sc37.nd rfl (Or.inl rfl)) (fun _ _ _ _ _ => pts_one (PW.pt (pw_and (pt_val (pe_ix (r := rIxT K) ix_tup (pv 6) (pv 1) (fun _ _ => rfl))) (pw_and1 (pt_cmpR op_ne (C8.pe_mt (sp := spAnswer P w C) (C := C) cA hr (by decide) (pv 0) (pa_cons (pv 6) pa_nil)) (C8.pe_mt (sp := spAnswer P w C) (C := C) cA hr (by decide) (pv 0) (pa_cons (pv 4) pa_nil)) (nomark _))))))
          (fun _ _ _ _ _ => pv 6))
        (pss_one (ps_expr (pe_bm PySem.F.plainAttrs_list PySem.F.slot_list_extend PySem.F.type_list_extend mt_extend (pv 3) (pa_cons (pe_lc (own := [("other", 7)]) (g := gName 7) (tt := tYes) rfl sc37.nd (pi_list (pv 5)) (blkOk_by (N := ["case", "wish", "rows", "found", "one", "others", "row", "other"]) (sc := C8.fnScope (top 37)) (by decide +kernel))
          (fun _ _ _ _ _ => pg_name (i := 7) sc37.nd rfl (Or.inl rfl)) (fun _ _ _ _ _ => pts_nil) (fun _ _ _ _ _ => pe_tup (pa_cons (pv 4) (pa_cons (pv 7) pa_nil)))) pa_nil))))) pss_nil)))
    (pss_one (ps_ret (pv 3)))))), ?_⟩
  refine ⟨_, rfl, _, rfl, p, m, f, xs, k, rfl, c, hk, ?_⟩
  have hxl : (rlOf xs).length = xs.length := List.length_map _
  have lenr : ∀ x ∈ rlOf xs, x.2.length = m := fun x hx => by
    obtain ⟨y, hy, rfl⟩ := List.mem_map.mp hx
    exact c.len y hy
  -- rows
  refine ⟨_, rfl, p, dx, _, rfl, hp, cf_no no_rows.1 no_rows.2.1 no_rows.2.2, p, m, f, xs, rfl, c, fun H1 rl _ g1 hrl => ⟨rl, rfl, ⟨_, SqL.of hrl.ob⟩, fun D1 hD1 => ?_⟩⟩
  refine lc_list (K := K) (a := rl) (xs := (rlOf xs).map fun x => V.ref x.1) (fun i H2 => Same H1 H2 ∧ RowsAt H2 D1 (((rlOf xs).take i).filter fun x => sway f x.2 k))
    ⟨same_new hD1 _, ⟨upd_same, fun x hx => absurd hx (by simp)⟩⟩ (fun i H2 _ ⟨g, _⟩ => SqL.of (g _ _ hrl.ob)) ?_ ?_
  · rintro i x H2 hx ⟨g2, r2⟩
    obtain ⟨e, he, rfl, hm, hi⟩ := ref_at hx
    have hrow := g2 _ _ (hrl.row e hm)
    refine ⟨rfl, ?_⟩
    refine ⟨_, rfl, _, rfl, _, rfl, p, m, f, xs, e.1, e.2, k, rfl, c.same (g1.trans g2), hrow, lenr e hm, hk, fun H3 g3 => ⟨_, rfl, ?_⟩⟩
    cases es : sway f e.2 k with
    | true =>
      refine iteT ?_
      have r3 := r2.same g3
      refine ⟨_, rfl, _, r3.ob, ?_, same_put (g2.trans g3) hD1 _, ?_⟩
      · rw [List.length_map]
        have := filt_len (fun x : Addr × List Bool => sway f x.2 k) (rlOf xs) i
        exact small1000 (by omega)
      · rw [filt_T he es]
        exact r3.push (g3 _ _ hrow)
    | false =>
      refine iteF ?_
      refine ⟨g2.trans g3, ?_⟩
      rw [filt_F he es]
      exact r2.same g3
  rintro H2 ⟨g2, r2⟩
  rw [List.length_map, List.take_length] at r2
  have g02 := g1.trans g2
  -- found
  refine ⟨Nat.zero_le _, fun fo hfo => ?_⟩
  generalize hL1 : ((rlOf xs).filter fun x => sway f x.2 k) = L1 at r2
  have hl1 : L1.length ≤ 16 := by
    rw [← hL1]
    exact Nat.le_trans (List.length_filter_le _ _) (by omega)
  have len1 : ∀ x ∈ L1, x.2.length = m := fun x hx => lenr x (by rw [← hL1] at hx; exact (List.mem_filter.mp hx).1)
  have nfo : H fo = none := g02.free hfo
  have g3 := g02.trans (same_new hfo (.lst []))
  refine ⟨_, rfl, D1, rfl, ⟨_, SqL.of ((same_new hfo _) _ _ r2.ob)⟩, ?_⟩
  refine for_list (K := K) (a := D1) (xs := L1.map fun x => V.ref x.1) (fun i σ H3 => ∃ y4 y5, ∃ L : List PR, σ = [some (.ref p), some (.int (k : Nat)), some (.ref D1), some (.ref fo), y4, y5, none, none] ∧ Same H2 H3 ∧ Same H H3 ∧ PairsAt H3 fo L ∧ L.length ≤ i * 16 ∧ pcon L = lp f k L1 (L1.take i))
    ⟨none, none, [], rfl, same_new hfo _, g3, ⟨upd_same, fun x hx => absurd hx (by simp)⟩, Nat.zero_le _, rfl⟩ (fun i σ H3 _ ⟨_, _, _, _, g, _⟩ => SqL.of (g _ _ r2.ob)) ?_ ?_
  · rintro i x σ H3 hx ⟨y4, y5, L, rfl, g23, g03, pl, hl, epc⟩
    obtain ⟨e, he, rfl, hm, hi⟩ := ref_at hx
    have r3 := r2.same g23
    have hrow := r3.row e hm
    have hle := len1 e hm
    have hke : k < e.2.length := by omega
    have ed : e.2.getD k false = e.2[k] := by
      rw [List.getD_eq_getElem?_getD, List.getElem?_eq_getElem hke]
      rfl
    have el : lp f k L1 (L1.take (i + 1)) = lp f k L1 (L1.take i) ++ (if e.2.getD k false = true then [] else (L1.filter (lpO f k e.2)).map fun x => (e.2, x.2)) := by
      unfold lp
      rw [List.take_add_one, he, List.flatMap_append]
      show _ ++ List.flatMap _ [e] = _
      rw [List.flatMap_cons, List.flatMap_nil, List.append_nil]
    refine ⟨_, rfl, _, rfl, e.1, _, (k : Int), .bl e.2[k], rfl, rfl, SqT.of hrow, atI_nat (by rw [List.getElem?_map, List.getElem?_eq_getElem hke]; rfl), e.2[k], rfl, ?_⟩
    cases eb : e.2[k] with
    | true =>
      refine iteF ?_
      refine ⟨_, _, L, rfl, g23, g03, pl, by omega, ?_⟩
      rw [el, if_pos (by rw [ed, eb]), List.append_nil]
      exact epc
    | false =>
      refine iteT ?_
      -- others
      refine ⟨_, rfl, D1, rfl, ⟨_, SqL.of r3.ob⟩, fun D2 hD2 => ?_⟩
      refine lc_list (K := K) (a := D1) (xs := L1.map fun x => V.ref x.1) (fun j H4 => Same H3 H4 ∧ RowsAt H4 D2 ((L1.take j).filter (lpO f k e.2)))
        ⟨same_new hD2 _, ⟨upd_same, fun x hx => absurd hx (by simp)⟩⟩ (fun j H4 _ ⟨g, _⟩ => SqL.of (g _ _ r3.ob)) ?_ ?_
      · rintro j x H4 hx ⟨g4, r4⟩
        obtain ⟨u, hu, rfl, hum, hj⟩ := ref_at hx
        have hurow := g4 _ _ (r3.row u hum)
        have hul := len1 u hum
        have hku : k < u.2.length := by omega
        have ud : u.2.getD k false = u.2[k] := by
          rw [List.getD_eq_getElem?_getD, List.getElem?_eq_getElem hku]
          rfl
        refine ⟨rfl, ?_⟩
        refine ⟨_, rfl, _, rfl, u.1, _, (k : Int), .bl u.2[k], rfl, rfl, SqT.of hurow, atI_nat (by rw [List.getElem?_map, List.getElem?_eq_getElem hku]; rfl), u.2[k], rfl, ?_⟩
        cases ub : u.2[k] with
        | false =>
          refine iteF ?_
          refine iteF ?_
          refine ⟨g4, ?_⟩
          rw [filt_F hu (by unfold lpO; rw [ud, ub]; rfl)]
          exact r4
        | true =>
          refine iteT ?_
          refine ⟨_, rfl, p, dx, _, rfl, g4 _ _ (g03 _ _ hp), cf_no no_ans.1 no_ans.2.1 no_ans.2.2, _, rfl, p, m, f, xs, u.1, u.2, rfl, c.same (g03.trans g4), hurow, hul, fun H5 g5 => ?_⟩
          refine ⟨_, rfl, p, dx, _, rfl, g5 _ _ (g4 _ _ (g03 _ _ hp)), cf_no no_ans.1 no_ans.2.1 no_ans.2.2, _, rfl, p, m, f, xs, e.1, e.2, rfl, c.same (g03.trans (g4.trans g5)), g5 _ _ (g4 _ _ hrow), hle, fun H6 g6 => ⟨rfl, _, rfl, ?_⟩⟩
          have g56 := g5.trans g6
          cases uc : (!decide (V.bl (f u.2) = V.bl (f e.2))) with
          | true =>
            refine iteT ?_
            have r6 := r4.same g56
            refine ⟨_, rfl, _, r6.ob, ?_, same_put (g4.trans g56) hD2 _, ?_⟩
            · rw [List.length_map]
              have := filt_len (lpO f k e.2) L1 j
              exact small1000 (by omega)
            · rw [filt_T hu (by unfold lpO; rw [ud, ub, uc]; rfl)]
              exact r6.push (g56 _ _ hurow)
          | false =>
            refine iteF ?_
            refine ⟨g4.trans g56, ?_⟩
            rw [filt_F hu (by unfold lpO; rw [ud, ub, uc]; rfl)]
            exact r4.same g56
      rintro H4 ⟨g4, r4⟩
      rw [List.length_map, List.take_length] at r4
      generalize hL2 : L1.filter (lpO f k e.2) = L2 at r4
      have hl2 : L2.length ≤ 16 := by
        rw [← hL2]
        exact Nat.le_trans (List.length_filter_le _ _) hl1
      -- found.extend
      refine ⟨.ref fo, rfl, .inl ⟨rfl, _, SqL.of (g4 _ _ pl.ob)⟩, ?_⟩
      refine ⟨_, rfl, D2, rfl, ⟨_, SqL.of r4.ob⟩, fun D3 hD3 => ?_⟩
      have nD3 : fo ≠ D3 := ne_of_none (g4 _ _ pl.ob) hD3
      refine lc_list (K := K) (a := D2) (xs := L2.map fun x => V.ref x.1) (fun j H5 => ∃ M : List PR, Same H4 H5 ∧ PairsAt H5 D3 M ∧ M.length = j ∧ pcon M = (L2.take j).map fun x => (e.2, x.2))
        ⟨[], same_new hD3 _, ⟨upd_same, fun x hx => absurd hx (by simp)⟩, rfl, rfl⟩ (fun j H5 _ ⟨_, g, _⟩ => SqL.of (g _ _ r4.ob)) ?_ ?_
      · rintro j x H5 hx ⟨M, g5, pm, hml, epm⟩
        obtain ⟨u, hu, rfl, hum, hj⟩ := ref_at hx
        refine ⟨rfl, ?_⟩
        refine tY ?_
        refine ⟨_, rfl, _, rfl, (by show 2 ≤ sizeLine; decide), fun t ht => ?_⟩
        have g6 := g5.trans (same_new ht (.tup [.ref e.1, .ref u.1]))
        have pmt := pm.same (same_new ht (.tup [.ref e.1, .ref u.1]))
        refine ⟨_, pmt.ob, ?_, M ++ [(t, e, u)], same_put g6 hD3 _, pmt.push (x := (t, e, u)) ⟨upd_same, g6 _ _ (g4 _ _ hrow), g6 _ _ (r4.row u hum)⟩, ?_, ?_⟩
        · rw [List.length_map]
          exact small1000 (by omega)
        · rw [List.length_append, hml]
          rfl
        · rw [List.take_add_one, hu, List.map_append, ← epm]
          unfold pcon
          rw [List.map_append]
          rfl
      · rintro H5 ⟨M, g5, pm, hml, epm⟩
        rw [List.length_map] at hml
        rw [List.length_map, List.take_length] at epm
        have pl5 := pl.same (g4.trans g5)
        refine ⟨fo, D3, _, _, rfl, rfl, pl5.ob, pm.ob, ?_, ?_⟩
        · rw [List.length_map, List.length_map]
          exact line1000 (by omega)
        · refine ⟨_, _, L ++ M, rfl, same_put (g23.trans (g4.trans g5)) hfo _, same_put (g03.trans (g4.trans g5)) nfo _, pl5.more pm.ok, ?_, ?_⟩
          · rw [List.length_append]
            omega
          · rw [el, if_neg (by rw [ed, eb]; exact Bool.false_ne_true), hL2, ← epc, ← epm]
            unfold pcon
            rw [List.map_append]
  · rintro σ H3 ⟨y4, y5, L, rfl, g23, g03, pl, hl, epc⟩
    rw [List.length_map] at hl
    rw [List.length_map, List.take_length, ← hL1] at epc
    refine ⟨_, rfl, q H3 fo L nfo g03 pl (fun a b => ?_) (by omega)⟩
    rw [epc]
    exact mem_lp
end
end K29

/-! K29 12: the law's own draws: _law_pool, _law_take. -/
namespace K29
open PySem L2
open PyProof.Rows (envOfC)
/-- a pool: two whole numbers, the second in its range -/
def PoolAt (H : Hp) (p : Addr) : Prop := ∃ x y : Int, H p = some (.lst [.int x, .int y]) ∧ 0 ≤ y ∧ y < 2147483647
theorem PoolAt.same {H H' : Hp} {p : Addr} (h : PoolAt H p) (s : Same H H') : PoolAt H' p := by
  obtain ⟨x, y, h, h0, h1⟩ := h
  exact ⟨x, y, s _ _ h, h0, h1⟩
theorem KeepBut.of {p : Addr} {H H' : Hp} (s : Same H H') : KeepBut p H H' := fun b o h _ => s b o h
theorem KeepBut.trans {p : Addr} {H H1 H2 : Hp} (a : KeepBut p H H1) (b : KeepBut p H1 H2) : KeepBut p H H2 := fun c o h n => b c o (a c o h n) n
theorem KeepBut.tups {p : Addr} {H H' : Hp} (k : KeepBut p H H') (h : PoolAt H p) : TupS H H' := fun a xs ha => by
  obtain ⟨x, y, hp, _⟩ := h
  exact k a _ ha (ne_of ha hp (by intro z; cases z))
theorem KeepBut.upd {p : Addr} {H H1 : Hp} (k : KeepBut p H H1) (o : HO) : KeepBut p H (upd H1 p o) := fun b u h n => by
  rw [upd_ne n]
  exact k b u h n
/-- a list made since grows -/
theorem KeepBut.put {p q : Addr} {H H1 : Hp} (k : KeepBut p H H1) (h : H q = none) (o : HO) : KeepBut p H (L2.upd H1 q o) := fun b u e n => by
  rw [upd_ne (ne_of_none e h)]
  exact k b u e n
theorem KeepBut.free {p q : Addr} {H H1 : Hp} (k : KeepBut p H H1) (h1 : PoolAt H1 p) (h : H1 q = none) : H q = none := by
  cases e : H q with
  | none => rfl
  | some o =>
    have n : q ≠ p := by
      obtain ⟨x, y, hp, _⟩ := h1
      exact (ne_of_none hp h).symm
    rw [k q o e n] at h
    cases h
theorem PoolAt.ne {H : Hp} {p q : Addr} (h : PoolAt H p) (hq : H q = none) : q ≠ p := by
  obtain ⟨x, y, hp, _⟩ := h
  exact (ne_of_none hp hq).symm
theorem PoolAt.put {H : Hp} {p q : Addr} (h : PoolAt H p) (n : q ≠ p) (o : HO) : PoolAt (upd H q o) p := by
  obtain ⟨x, y, hp, h0, h1⟩ := h
  exact ⟨x, y, by rw [upd_ne n.symm]; exact hp, h0, h1⟩
section
variable {P : Program} {w : World} {K : PySem.W.Frag} {mg : Str → Option Value} {base : Heap} {C : Addr}
/-! ### _law_take -/
def spTake : Sp := fun vs H Q _ => ∃ p, ∃ n : Int, vs = [.ref p, .int n] ∧ 1 ≤ n ∧ n ≤ 1000 ∧ PoolAt H p ∧ ∀ H' (j : Int), KeepBut p H H' → PoolAt H' p → 0 ≤ j → j < n → Q (.int j) H'
theorem sc40 : FnScope ["_law_pool_here", "_law_many", "_law_digit"] ["_law_pool_here", "_law_many"] (C8.fnScope (top 40)) := C8.fnScope_by (by decide +kernel)
theorem ok_take (D : DefOf K mg "_law_take" (top 40) ["_law_pool_here", "_law_many"]) : C8.Cal P w K mg base 1 "_law_take" spTake [] := by
  refine cal_of D sc40 (fun vs H Q E h => ?_) (fun fA cdv A outer s H vs Q E hr h => ?_)
  · obtain ⟨p, n, rfl, _⟩ := h
    rfl
  obtain ⟨p, n, rfl, h1, h1000, ⟨x, y, hp, hy0, hy1⟩, q⟩ := h
  refine ⟨_, pss_cons (ps_if (pt_cmpR op_gt (pe_ix ix_list (pv 0) pe_int (fun _ _ => rfl)) pe_int (nomark _))
      (pss_cons (ps_set (i := 2) sc40.nd rfl (Or.inl rfl) (pe_op op_mod (pe_ix ix_list (pv 0) pe_int (fun _ _ => rfl)) (pv 1)))
      (pss_cons (ps_asg (pe_op op_fdiv (pe_ix ix_list (pv 0) pe_int (fun _ _ => rfl)) (pv 1)) (pg_sub (pv 0) pe_int set_list))
      (pss_one (ps_ret (pv 2))))) pss_nil)
    (pss_cons (ps_asg (pe_op op_mod (pe_op op_add (pe_op op_mul (pe_ix ix_list (pv 0) pe_int (fun _ _ => rfl)) pe_int) pe_int) pe_int) (pg_sub (pv 0) pe_int set_list))
    (pss_one (ps_ret (pe_op op_mod (pe_op op_fdiv (pe_op op_mod (pe_op op_mul (pe_ix ix_list (pv 0) pe_int (fun _ _ => rfl)) (pe_ix ix_list (pv 0) pe_int (fun _ _ => rfl))) pe_int) pe_int) (pv 1))))), ?_⟩
  refine ⟨_, rfl, p, _, 0, .int x, rfl, rfl, SqL.of hp, atI_nat (j := 0) rfl, x, 0, rfl, rfl, decide (0 < x), rfl, ?_⟩
  by_cases hx : 0 < x
  · rw [decide_eq_true hx]
    refine iteT ?_
    refine ⟨_, rfl, p, _, 0, .int x, rfl, rfl, SqL.of hp, atI_nat (j := 0) rfl, _, rfl, x, n, rfl, rfl, (by show 0 < n; omega), ?_⟩
    refine ⟨_, rfl, p, _, 0, .int x, rfl, rfl, SqL.of hp, atI_nat (j := 0) rfl, _, rfl, x, n, rfl, rfl, (by show 0 < n ∧ n < 1073741824; omega), ?_⟩
    refine ⟨_, rfl, p, _, 0, 0, rfl, rfl, hp, rfl, ?_⟩
    refine ⟨_, rfl, ?_⟩
    refine q _ _ ((KeepBut.of (Same.refl H)).upd _) ⟨x / n, y, upd_same, hy0, hy1⟩ (Int.emod_nonneg _ (by omega)) (Int.emod_lt_of_pos _ (by omega))
  · rw [decide_eq_false hx]
    refine iteF ?_
    refine ⟨_, rfl, p, _, 1, .int y, rfl, rfl, SqL.of hp, atI_nat (j := 1) rfl, y, 48271, rfl, rfl, (.inr ⟨by decide, by decide⟩), _, 11, rfl, rfl, _, 2147483647, rfl, rfl, (by show (0 : Int) < 2147483647; decide), ?_⟩
    refine ⟨_, rfl, p, _, 1, 1, rfl, rfl, hp, rfl, ?_⟩
    generalize hz : (y * 48271 + 11) % 2147483647 = z
    have z0 : 0 ≤ z := by rw [← hz]; exact Int.emod_nonneg _ (by decide)
    have z1 : z < 2147483647 := by rw [← hz]; exact Int.emod_lt_of_pos _ (by decide)
    have hp2 : (upd H p (.lst ([V.int x, V.int y].set 1 (.int ((y * 48271 + 11) % 2147483647))))) p = some (.lst [.int x, .int z]) := by
      rw [upd_same, hz]
      rfl
    refine ⟨_, rfl, p, _, 1, .int z, rfl, rfl, SqL.of hp2, atI_nat (j := 1) rfl, _, rfl, p, _, 1, .int z, rfl, rfl, SqL.of hp2, atI_nat (j := 1) rfl, z, z, rfl, rfl, (.inr ⟨by omega, by omega⟩), _, 2147483629, rfl, rfl, (by show (0 : Int) < 2147483629; decide),
      _, 64, rfl, rfl, (by show (0 : Int) < 64 ∧ (64 : Int) < 1073741824; decide), _, rfl, _, n, rfl, rfl, (by show 0 < n; omega), ?_⟩
    exact q _ _ ((KeepBut.of (Same.refl H)).upd _) ⟨x, z, hp2, z0, z1⟩ (Int.emod_nonneg _ (by omega)) (Int.emod_lt_of_pos _ (by omega))
/-! ### _law_pool -/
def spPool (K : PySem.W.Frag) : Sp := fun vs H Q _ => ∃ a, ∃ ns : List Int, ∃ k : Int, vs = [.ref a, .int k] ∧ SqL K H a (ns.map V.int) ∧ 0 ≤ k ∧ k ≤ 100 ∧ ∀ H' p, H p = none → Same H H' → PoolAt H' p → Q (.ref p) H'
theorem sc39 : FnScope ["_law_script", "_law_k", "_law_cell", "_law_seed"] ["_law_script", "_law_k"] (C8.fnScope (top 39)) := C8.fnScope_by (by decide +kernel)
theorem ok_pool (D : DefOf K mg "_law_pool" (top 39) ["_law_script", "_law_k"]) (T : Txt K mg C) : C8.Cal P w K mg base 1 "_law_pool" (spPool K) [] := by
  refine cal_of D sc39 (fun vs H Q E h => ?_) (fun fA cdv A outer s H vs Q E hr h => ?_)
  · obtain ⟨a, ns, k, rfl, _⟩ := h
    rfl
  obtain ⟨a, ns, k, rfl, hs, h0, h100, q⟩ := h
  refine ⟨_, pss_cons (ps_set (i := 2) sc39.nd rfl (Or.inl rfl) pe_int)
    (C8.pss_cut (ps_if (pt_cmpR (op_neE hr.units) (pv 0) (pe_lst pa_nil) (nomark _)) (pss_one (ps_set (i := 2) sc39.nd rfl (Or.inl rfl) (pe_ix ix_list (pv 0) (pe_op op_mod (pv 1) (pe_len T.len (pv 0))) (fun _ _ => rfl)))) pss_nil)
    (C8.pss_cut (ps_if (pt_cmpR op_ge (pv 1) (pe_len T.len (pv 0)) (nomark _)) (pss_one (ps_set (i := 2) sc39.nd rfl (Or.inl rfl)
        (pe_ix ix_list (pe_lst (pa_cons (pe_op op_mod (pv 2) pe_int) (pa_cons (pe_op op_fdivW (pv 2) (pe_op op_pow pe_int pe_int)) pa_nil))) (pe_callTy call_int1 (by rfl) T.int (by decide +kernel) (pa_cons (pe_cmpR op_ge (pv 2) (pe_op op_pow pe_int pe_int) (nomark _)) pa_nil)) (fun _ _ => rfl)))) pss_nil)
    (pss_cons (ps_set (i := 3) sc39.nd rfl (Or.inl rfl) (pe_op op_mod (pe_op op_mul (pe_op op_add (pe_op op_add (pe_op op_mod (pv 2) pe_int) (pe_op op_mul pe_int (pv 1))) pe_int) pe_int) pe_int))
    (pss_one (ps_ret (pe_lst (pa_cons (pe_op op_mul (pv 2) (pe_callTy call_int1 (by rfl) T.int (by decide +kernel) (pa_cons (pe_cmpR op_ge (pv 2) (pe_op op_pow pe_int pe_int) (nomark _)) pa_nil))) (pa_cons (pv 3) pa_nil)))))))), ?_⟩
  refine ⟨fun σ H1 => ∃ z : Int, σ = [some (.ref a), some (.int k), some (.int z), none] ∧ Same H H1, ?_, ?_⟩
  · refine ⟨_, rfl, Nat.zero_le _, fun e he => ?_⟩
    have g1 : Same H (upd H e (.lst [])) := same_new he _
    refine ⟨a, e, _, rfl, rfl, g1.seq hs, SqL.of upd_same, _, rfl, ?_⟩
    cases ns with
    | nil =>
      refine iteF ?_
      exact ⟨0, rfl, g1⟩
    | cons u t =>
      refine iteT ?_
      have hl : ((u :: t).map V.int).length = (u :: t).length := List.length_map _
      have hpos : (0 : Int) < ((u :: t).length : Int) := by
        rw [List.length_cons]
        omega
      have ek : k % (((u :: t).map V.int).length : Int) = ((k.toNat % (u :: t).length : Nat) : Int) := by
        rw [hl, Int.natCast_emod, Int.toNat_of_nonneg h0]
      have hlt : k.toNat % (u :: t).length < (u :: t).length := Nat.mod_lt _ (by rw [List.length_cons]; omega)
      refine ⟨_, rfl, _, rfl, _, rfl, a, _, rfl, .inl (g1.seq hs), k, _, rfl, rfl, (by show (0 : Int) < (((u :: t).map V.int).length : Int); rw [hl]; exact hpos), a, _, _, .int ((u :: t)[k.toNat % (u :: t).length]), rfl, rfl, g1.seq hs, at_of ek (by rw [List.getElem?_map, List.getElem?_eq_getElem hlt]; rfl), ?_⟩
      exact ⟨_, rfl, g1⟩
  rintro σ H1 ⟨z, rfl, g1⟩
  refine ⟨fun σ H2 => ∃ z : Int, σ = [some (.ref a), some (.int k), some (.int z), none] ∧ Same H H2, ?_, ?_⟩
  · refine ⟨_, rfl, _, rfl, a, _, rfl, .inl (g1.seq hs), _, _, rfl, rfl, _, rfl, ?_⟩
    refine ite2 (fun _ => ?_) (fun _ => ⟨z, rfl, g1⟩)
    refine ⟨_, rfl, z, 1000003, rfl, rfl, (by show (0 : Int) < 1000003; decide), ?_⟩
    refine ⟨_, rfl, 10, 18, rfl, rfl, (by unfold CPow; decide), z, _, rfl, rfl, (by unfold CDivW; decide +kernel), (by show 2 ≤ sizeLine; decide), fun l hl => ?_⟩
    refine ⟨_, rfl, 10, 36, rfl, rfl, (by unfold CPow; decide), z, _, rfl, rfl, .inr ⟨_, rfl, ?_⟩⟩
    cases (decide ((10 : Int) ^ (36 : Int).toNat ≤ z)) with
    | true => exact ⟨l, _, 1, _, rfl, rfl, SqL.of upd_same, atI_nat (j := 1) rfl, _, rfl, g1.trans (same_new hl _)⟩
    | false => exact ⟨l, _, 0, _, rfl, rfl, SqL.of upd_same, atI_nat (j := 0) rfl, _, rfl, g1.trans (same_new hl _)⟩
  rintro σ H2 ⟨z, rfl, g2⟩
  refine ⟨_, rfl, z, 2147483629, rfl, rfl, (by show (0 : Int) < 2147483629; decide), _, rfl, 104729, k, rfl, rfl, .inl ⟨by decide, by decide⟩, _, _, rfl, rfl, _, 11, rfl, rfl, _, 48271, rfl, rfl, .inr ⟨by decide, by decide⟩, _, 2147483647, rfl, rfl, (by show (0 : Int) < 2147483647; decide), ?_⟩
  refine ⟨_, rfl, _, rfl, 10, 18, rfl, rfl, (by unfold CPow; decide), z, _, rfl, rfl, .inr ⟨_, rfl, ?_⟩⟩
  refine ⟨z, _, rfl, rfl, .inr ?_, ?_⟩
  · cases (decide ((10 : Int) ^ (18 : Int).toNat ≤ z)) with
    | true => exact ⟨by decide, by decide⟩
    | false => exact ⟨by decide, by decide⟩
  refine ⟨_, rfl, (by show 2 ≤ sizeLine; decide), fun p hp => ?_⟩
  exact q _ p (g2.free hp) (g2.trans (same_new hp _)) ⟨_, _, upd_same, Int.emod_nonneg _ (by decide), Int.emod_lt_of_pos _ (by decide)⟩
end
end K29

/-! K29 13: _law_decision. -/
namespace K29
open PySem L2
open PyProof.Rows (envOfC)
theorem sum_le_mul {α : Type} (g : α → Nat) (e : Nat) : ∀ L : List α, (∀ x ∈ L, g x ≤ e) → (L.map g).sum ≤ L.length * e
  | [], _ => by simp
  | x :: t, h => by
    have ih := sum_le_mul g e t fun y hy => h y (List.mem_cons_of_mem _ hy)
    have hx := h x List.mem_cons_self
    rw [List.map_cons, List.sum_cons, List.length_cons, Nat.succ_mul]
    omega
section
variable {P : Program} {w : World} {K : PySem.W.Frag} {mg : Str → Option Value} {base : Heap} {C : Addr}
def spDec (N : Nat) : Sp := fun vs H Q _ => ∃ p, ∃ m : Nat, ∃ room : Int, ∃ n : Nat, vs = [.ref p, .int (m : Int), .int room, .int (n : Int)] ∧ PoolAt H p ∧ 1 ≤ m ∧ m ≤ 8 ∧ 1 ≤ room ∧ room ≤ 60 ∧ 1 ≤ n ∧ n ≤ N ∧
  ∀ H' v z f, KeepBut p H H' → PoolAt H' p → DA m H' n v z f → (z : Int) ≤ room → Q v H'
theorem sc41 : FnScope ["_law_pool_here", "_law_many", "_law_room", "_law_deep", "_law_way", "_law_size", "_law_k", "_law_some", "_law_each", "_law_rows", "_law_test"] ["_law_pool_here", "_law_many", "_law_room", "_law_deep"] (C8.fnScope (top 41)) := C8.fnScope_by (by decide +kernel)
theorem ok_dec1 {N k : Nat} (hk1 : 1 ≤ k) (D : DefOf K mg "_law_decision" (top 41) ["_law_pool_here", "_law_many", "_law_room", "_law_deep"]) (T : Txt K mg C) (cT : C8.Cal P w K mg base 1 "_law_take" spTake []) (ih : C8.Cal P w K mg base k "_law_decision" (spDec N) []) :
    C8.Cal P w K mg base (k + 1) "_law_decision" (spDec (N + 1)) [] := by
  refine cal_of D sc41 (fun vs H Q E h => ?_) (fun fA cdv A outer s H vs Q E hr h => ?_)
  · obtain ⟨p, m, room, n, rfl, _⟩ := h
    rfl
  obtain ⟨p, m, room, n0, rfl, hp, hm1, hm8, hr1, hr60, hn0, hnN, q⟩ := h
  obtain ⟨n, rfl⟩ : ∃ n, n0 = n + 1 := ⟨n0 - 1, by omega⟩
  refine ⟨_, pss_cons (ps_set (i := 4) sc41.nd rfl (Or.inl rfl) (C8.pe_c cT hr hk1 (by rfl) (pa_cons (pv 0) (pa_cons pe_int pa_nil))))
    (pss_cons (ps_if (pt_mid (PW.pt (pw_or (pt_cmpR op_lt (pv 2) pe_int (nomark _)) (pw_or (pt_cmpR op_lt (pv 3) pe_int (nomark _)) (pw_or1 (pt_cmpR op_eq (pv 4) pe_int (nomark _)))))))
      (pss_cons (ps_if (pt_cmpR op_eq (C8.pe_c cT hr hk1 (by rfl) (pa_cons (pv 0) (pa_cons pe_int pa_nil))) pe_int (nomark _))
        (pss_one (ps_ret (pe_ix ix_list (pe_lst (pa_cons (pe_tup (pa_cons pe_str pa_nil)) (pa_cons (pe_tup (pa_cons pe_str pa_nil)) pa_nil))) (C8.pe_c cT hr hk1 (by rfl) (pa_cons (pv 0) (pa_cons pe_int pa_nil))) (fun _ _ => rfl)))) pss_nil)
      (pss_one (ps_ret (pe_tup (pa_cons pe_str (pa_cons (C8.pe_c cT hr hk1 (by rfl) (pa_cons (pv 0) (pa_cons (pv 1) pa_nil))) pa_nil)))))) pss_nil)
    (pss_cons (ps_if (pt_cmpR op_lt (pv 4) pe_int (nomark _)) (pss_one (ps_ret (pe_tup (pa_cons pe_str (pa_cons (C8.pe_c ih hr (by omega) (by rfl) (pa_cons (pv 0) (pa_cons (pv 1) (pa_cons (pe_op op_sub (pv 2) pe_int) (pa_cons (pe_op op_sub (pv 3) pe_int) pa_nil))))) pa_nil))))) pss_nil)
    (pss_cons (ps_if (pt_cmpR op_lt (pv 4) pe_int (nomark _))
      (pss_cons (ps_set (i := 5) sc41.nd rfl (Or.inr rfl) (pe_op op_add pe_int (C8.pe_c cT hr hk1 (by rfl) (pa_cons (pv 0) (pa_cons (pe_callB (call_min2 rfl) (by rfl) T.min (by decide +kernel) (pa_cons pe_int (pa_cons (pe_op op_sub (pv 2) pe_int) pa_nil))) pa_nil)))))
      (pss_cons (ps_setLc (i := 7) (own := [("_law_k", 6)]) (g := gName 6) (tt := tYes) rfl sc41.nd rfl rfl (sw_true rfl rfl rfl (by decide +kernel)) (pi_range1 rfl T.range (pa_cons (pv 5) pa_nil)) (blkOk_by (N := ["_law_pool_here", "_law_many", "_law_room", "_law_deep", "_law_way", "_law_size", "_law_k", "_law_some", "_law_each", "_law_rows", "_law_test"]) (sc := C8.fnScope (top 41)) (by decide +kernel))
        (fun _ _ _ _ _ => pg_name (i := 6) sc41.nd rfl (Or.inl rfl)) (fun _ _ _ _ _ => pts_nil)
        (fun _ _ _ _ _ => C8.pe_c (k := k) (sp := spDec N) ih hr (by omega) (by rfl) (pa_cons (pv 0) (pa_cons (pv 1) (pa_cons (pe_op op_fdiv (pe_op op_sub (pv 2) pe_int) (pv 5)) (pa_cons (pe_op op_sub (pv 3) pe_int) pa_nil))))))
      (pss_one (ps_ret (pe_tup (pa_cons (pe_ix ix_list (pe_lst (pa_cons pe_str (pa_cons pe_str pa_nil))) (pe_op op_mod (pv 4) pe_int) (fun _ _ => rfl)) (pa_cons (pe_callTy call_tuple_of (by rfl) T.tuple (by decide +kernel) (pa_cons (pv 7) pa_nil)) pa_nil))))))) pss_nil)
    (pss_cons (ps_set (i := 5) sc41.nd rfl (Or.inr rfl) (pe_op op_add pe_int (C8.pe_c cT hr hk1 (by rfl) (pa_cons (pv 0) (pa_cons (pe_callB (call_min2 rfl) (by rfl) T.min (by decide +kernel) (pa_cons pe_int (pa_cons (pe_op op_add (pe_op op_fdiv (pe_op op_sub (pv 2) pe_int) pe_int) pe_int) pa_nil))) pa_nil)))))
    (pss_cons (ps_set (i := 8) sc41.nd rfl (Or.inl rfl) (pe_op op_fdiv (pe_op op_sub (pv 2) pe_int) (pe_op op_add (pe_op op_mul pe_int (pv 5)) pe_int)))
    (pss_cons (ps_if (pt_cmpR op_lt (pv 8) pe_int (nomark _)) (pss_one (ps_ret (pe_tup (pa_cons pe_str (pa_cons (C8.pe_c cT hr hk1 (by rfl) (pa_cons (pv 0) (pa_cons (pv 1) pa_nil))) pa_nil))))) pss_nil)
    (pss_cons (ps_set (i := 9) sc41.nd rfl (Or.inl rfl) (pe_lst pa_nil))
    (pss_cons (ps_for PassesOwn.never rfl (pi_range1 rfl T.range (pa_cons (pv 5) pa_nil)) (pg_name (i := 6) sc41.nd rfl (Or.inl rfl))
      (pss_cons (ps_set (i := 10) sc41.nd rfl (Or.inl rfl) (C8.pe_c ih hr (by omega) (by rfl) (pa_cons (pv 0) (pa_cons (pv 1) (pa_cons (pv 8) (pa_cons (pe_op op_sub (pv 3) pe_int) pa_nil))))))
      (pss_one (ps_expr (pe_bm PySem.F.plainAttrs_list PySem.F.slot_list_append PySem.F.type_list_append mt_append (pv 9) (pa_cons (pe_tup (pa_cons (pv 10) (pa_cons (C8.pe_c ih hr (by omega) (by rfl) (pa_cons (pv 0) (pa_cons (pv 1) (pa_cons (pv 8) (pa_cons (pe_op op_sub (pv 3) pe_int) pa_nil))))) pa_nil))) pa_nil))))))
    (pss_one (ps_ret (pe_tup (pa_cons pe_str (pa_cons (pe_callTy call_tuple_of (by rfl) T.tuple (by decide +kernel) (pa_cons (pv 9) pa_nil)) (pa_cons (C8.pe_c ih hr (by omega) (by rfl) (pa_cons (pv 0) (pa_cons (pv 1) (pa_cons (pv 8) (pa_cons (pe_op op_sub (pv 3) pe_int) pa_nil))))) pa_nil)))))))))))))), ?_⟩
  -- a wish, drawn
  have wishW : ∀ (H1 : Hp) (j : Int), KeepBut p H H1 → PoolAt H1 p → 0 ≤ j → j < (m : Int) → ([V.str "wish", V.int j] : List V).length ≤ sizeLine ∧ ∀ t, H1 t = none → Q (.ref t) (upd H1 t (.tup [.str "wish", .int j])) := by
    intro H1 j k1 p1 j0 jm
    refine ⟨(by show 2 ≤ sizeLine; decide), fun t ht => ?_⟩
    obtain ⟨i, rfl⟩ := Int.eq_ofNat_of_zero_le j0
    exact q _ (.ref t) 1 _ (k1.trans (.of (same_new ht _))) (p1.same (same_new ht _)) (.wish (i := i) upd_same (by omega)) (by omega)
  -- the way
  refine ⟨_, rfl, p, 9, rfl, by decide, by decide, hp, fun H1 way k1 p1 w0 w9 => ?_⟩
  refine ⟨fun b H2 => H2 = H1 ∧ (b = true ∨ (b = false ∧ 3 ≤ room ∧ 1 ≤ n)), ?_, ?_⟩
  · refine ⟨_, rfl, room, 3, rfl, rfl, _, rfl, ?_⟩
    refine ite2 (fun _ => ⟨rfl, .inl rfl⟩) (fun h3 => ?_)
    have h3' : ¬ room < 3 := of_decide_eq_false (Bool.eq_false_iff.mpr h3)
    refine ⟨_, rfl, ((n + 1 : Nat) : Int), 2, rfl, rfl, _, rfl, ?_⟩
    refine ite2 (fun _ => ⟨rfl, .inl rfl⟩) (fun h2 => ?_)
    have h2' : ¬ ((n + 1 : Nat) : Int) < 2 := of_decide_eq_false (Bool.eq_false_iff.mpr h2)
    refine ⟨_, rfl, rfl, _, rfl, rfl, ?_⟩
    cases (decide (V.int way = V.int 0)) with
    | true => exact .inl rfl
    | false => exact .inr ⟨rfl, by omega, by omega⟩
  rintro b H2 ⟨rfl, hb⟩
  rcases hb with rfl | ⟨rfl, h3, hn1⟩
  · -- a leaf
    refine iteT ?_
    refine ⟨_, rfl, p, 9, rfl, by decide, by decide, p1, fun H3 j k3 p3 _ _ => ⟨rfl, _, rfl, ?_⟩⟩
    have k13 := k1.trans k3
    refine ite2 (fun _ => ?_) (fun _ => ?_)
    · refine ⟨(by show 1 ≤ sizeLine; decide), fun a1 ha1 => ⟨(by show 1 ≤ sizeLine; decide), fun a2 ha2 => ⟨(by show 2 ≤ sizeLine; decide), fun l hl => ?_⟩⟩⟩
      have g1 : Same H3 (upd H3 a1 (.tup [.str "yes"])) := same_new ha1 _
      have g2 : Same (upd H3 a1 (.tup [.str "yes"])) (upd (upd H3 a1 (.tup [.str "yes"])) a2 (.tup [.str "no"])) := same_new ha2 _
      have g3 := same_new hl (.lst [.ref a1, .ref a2])
      have pl := ((p3.same g1).same g2).same g3
      refine ⟨_, rfl, p, 2, rfl, by decide, by decide, pl, fun H4 u k4 p4 u0 u2 => ?_⟩
      have nl : l ≠ p := ((p3.same g1).same g2).ne hl
      have hl4 : H4 l = some (.lst [.ref a1, .ref a2]) := k4 _ _ upd_same nl
      have t4 : TupS _ H4 := k4.tups pl
      have ha1' : H4 a1 = some (.tup [.str "yes"]) := t4 _ _ (g3 _ _ (g2 _ _ upd_same))
      have ha2' : H4 a2 = some (.tup [.str "no"]) := t4 _ _ (g3 _ _ upd_same)
      have kk : KeepBut p H H4 := k13.trans ((KeepBut.of (g1.trans (g2.trans g3))).trans k4)
      have hu : u = 0 ∨ u = 1 := by omega
      rcases hu with rfl | rfl
      · refine ⟨l, _, 0, .ref a1, rfl, rfl, SqL.of hl4, atI_nat (j := 0) rfl, ?_⟩
        exact q H4 (.ref a1) 1 _ kk p4 (.yes ha1') (by omega)
      · refine ⟨l, _, 1, .ref a2, rfl, rfl, SqL.of hl4, atI_nat (j := 1) rfl, ?_⟩
        exact q H4 (.ref a2) 1 _ kk p4 (.no ha2') (by omega)
    · refine ⟨_, rfl, _, rfl, p, (m : Int), rfl, by omega, by omega, p3, fun H4 j4 k4 p4 j0 jm => ?_⟩
      exact wishW H4 j4 (k13.trans k4) p4 j0 jm
  refine iteF ?_
  have en : ((n + 1 : Nat) : Int) - 1 = (n : Int) := by omega
  have e23 : ∀ r : Int, ([V.ref p, V.int (m : Int), V.int r, V.int (((n + 1 : Nat) : Int) - 1)] : List V) = [.ref p, .int (m : Int), .int r, .int (n : Int)] := fun r => by rw [en]
  refine ⟨_, rfl, way, 3, rfl, rfl, _, rfl, ?_⟩
  refine ite2 (fun _ => ?_) (fun _ => ?_)
  · -- not
    refine ⟨_, rfl, _, rfl, _, rfl, room, 1, rfl, rfl, _, rfl, _, 1, rfl, rfl, p, m, room - 1, n, e23 _, p1, hm1, hm8, by omega, by omega, hn1, by omega, fun H3 v z f k3 p3 d3 hz => ?_⟩
    refine ⟨(by show 2 ≤ sizeLine; decide), fun t ht => ?_⟩
    exact q _ (.ref t) (1 + z) _ (k1.trans (k3.trans (.of (same_new ht _)))) (p3.same (same_new ht _)) (.neg upd_same (d3.same (same_new ht _))) (by omega)
  refine ⟨_, rfl, way, 7, rfl, rfl, _, rfl, ?_⟩
  refine ite2 (fun _ => ?_) (fun _ => ?_)
  · -- and, or
    refine ⟨_, rfl, _, rfl, room, 1, rfl, rfl, 6, room - 1, rfl, ?_⟩
    generalize hmn : (if room - 1 < 6 then room - 1 else 6) = mn
    have mn1 : 1 ≤ mn ∧ mn ≤ 6 ∧ mn ≤ room - 1 := by
      rw [← hmn]
      split <;> omega
    refine ⟨p, mn, rfl, mn1.1, by omega, p1, fun H3 j k3 p3 j0 jm => ?_⟩
    refine ⟨1, j, rfl, rfl, ?_⟩
    have k13 := k1.trans k3
    refine ⟨_, rfl, 1 + j, rfl, by omega, by omega, fun D1 hD1 => ?_⟩
    have nD : D1 ≠ p := p3.ne hD1
    obtain ⟨sz, hsz⟩ : ∃ sz : Nat, (1 + j) = (sz : Int) := ⟨(1 + j).toNat, by omega⟩
    rw [hsz, Int.toNat_natCast]
    have sz1 : 1 ≤ sz ∧ sz ≤ 6 ∧ (sz : Int) ≤ room - 1 := by omega
    obtain ⟨e, he⟩ : ∃ e : Nat, (room - 1) / (sz : Int) = (e : Int) := ⟨((room - 1) / (sz : Int)).toNat, by
      have := Int.ediv_nonneg (a := room - 1) (b := (sz : Int)) (by omega) (by omega)
      omega⟩
    have emul : (sz : Int) * (e : Int) ≤ room - 1 := by
      rw [← he]
      exact Int.mul_ediv_self_le (by omega)
    have e1 : 1 ≤ e := by
      have : 1 ≤ (room - 1) / (sz : Int) := (Int.le_ediv_iff_mul_le (by omega)).mpr (by omega)
      omega
    have eroom : (e : Int) ≤ room - 1 := by
      rw [← he]
      exact Int.ediv_le_self _ (by omega)
    refine lc_range (lo := 0) (n := sz) (fun i H4 => ∃ L : List D3, KeepBut p H3 H4 ∧ PoolAt H4 p ∧ H4 D1 = some (.lst (L.map fun x => x.1)) ∧ L.length = i ∧ (∀ x ∈ L, DA m H4 n x.1 x.2.1 x.2.2) ∧ ∀ x ∈ L, x.2.1 ≤ e)
      ⟨[], .of (same_new hD1 _), p3.same (same_new hD1 _), upd_same, rfl, fun x hx => absurd hx (by simp), fun x hx => absurd hx (by simp)⟩ ?_ ?_
    · rintro i H4 hi ⟨L, k4, p4, hd, hl, dL, sL⟩
      refine ⟨rfl, ?_⟩
      refine tY ?_
      refine ⟨_, rfl, _, rfl, _, rfl, room, 1, rfl, rfl, _, rfl, _, (sz : Int), rfl, (by rw [← hsz]), (by show 0 < (sz : Int) ∧ (sz : Int) < 1073741824; omega), _, rfl, _, 1, rfl, rfl, p, m, (e : Int), n, ?_, p4, hm1, hm8, by omega, by omega, hn1, by omega, fun H5 v z f k5 p5 d5 hz => ?_⟩
      · show ([V.ref p, V.int (m : Int), V.int ((room - 1) / (sz : Int)), V.int (((n + 1 : Nat) : Int) - 1)] : List V) = _
        rw [he, en]
      have hd5 : H5 D1 = some (.lst (L.map fun x => x.1)) := k5 _ _ hd nD
      have ts : TupS H4 (upd H5 D1 (.lst (L.map (fun x => x.1) ++ [v]))) := fun a xs ha => tupS_put hd5 a xs (k5.tups p4 a xs ha)
      refine ⟨_, hd5, ?_, L ++ [(v, z, f)], (k4.trans k5).put hD1 _, p5.put nD _, ?_, ?_, ?_, ?_⟩
      · rw [List.length_map]
        exact small1000 (by omega)
      · rw [upd_same, List.map_append]
        rfl
      · rw [List.length_append, hl]
        rfl
      · intro x hx
        rcases List.mem_append.mp hx with hx | hx
        · exact (dL x hx).mono ts
        · rw [List.mem_singleton.mp hx]
          exact d5.mono (tupS_put hd5)
      · intro x hx
        rcases List.mem_append.mp hx with hx | hx
        · exact sL x hx
        · rw [List.mem_singleton.mp hx]
          show z ≤ e
          omega
    · rintro H4 ⟨L, k4, p4, hd, hl, dL, sL⟩
      refine ⟨(by show 2 ≤ sizeLine; decide), fun lw hlw => ?_⟩
      have g5 : Same H4 (upd H4 lw (.lst [.str "and", .str "or"])) := same_new hlw _
      have sum : (L.map fun x => x.2.1).sum ≤ sz * e := by
        have := sum_le_mul (fun x : D3 => x.2.1) e L sL
        rw [hl] at this
        exact this
      have tot : ((1 + (L.map fun x => x.2.1).sum : Nat) : Int) ≤ room := by
        have h2 : ((sz * e : Nat) : Int) ≤ room - 1 := by
          rw [Int.natCast_mul]
          exact emul
        omega
      have hw : way % 2 = 0 ∨ way % 2 = 1 := by omega
      rcases hw with hw | hw
      · refine ⟨_, rfl, way, 2, rfl, rfl, (by show (0 : Int) < 2; decide), lw, _, way % 2, .str "and", rfl, rfl, SqL.of upd_same, at_of (j := 0) (by rw [hw]; rfl) rfl, ?_⟩
        refine ⟨_, rfl, D1, _, rfl, .inl ⟨SqL.of (g5 _ _ hd), fun tl htl => ?_⟩⟩
        refine ⟨(by show 2 ≤ sizeLine; decide), fun t ht => ?_⟩
        have g6 := g5.trans ((same_new htl (.tup (L.map fun x => x.1))).trans (same_new ht (.tup [.str "and", .ref tl])))
        exact q _ (.ref t) _ _ (k13.trans (k4.trans (.of g6))) (p4.same g6) (.conj L upd_same ((same_new ht _) _ _ upd_same) (by omega) (by omega) fun x hx => (dL x hx).same g6) tot
      · refine ⟨_, rfl, way, 2, rfl, rfl, (by show (0 : Int) < 2; decide), lw, _, way % 2, .str "or", rfl, rfl, SqL.of upd_same, at_of (j := 1) (by rw [hw]; rfl) rfl, ?_⟩
        refine ⟨_, rfl, D1, _, rfl, .inl ⟨SqL.of (g5 _ _ hd), fun tl htl => ?_⟩⟩
        refine ⟨(by show 2 ≤ sizeLine; decide), fun t ht => ?_⟩
        have g6 := g5.trans ((same_new htl (.tup (L.map fun x => x.1))).trans (same_new ht (.tup [.str "or", .ref tl])))
        exact q _ (.ref t) _ _ (k13.trans (k4.trans (.of g6))) (p4.same g6) (.disj L upd_same ((same_new ht _) _ _ upd_same) (by omega) (by omega) fun x hx => (dL x hx).same g6) tot
  -- cases
  refine ⟨_, rfl, _, rfl, room, 2, rfl, rfl, _, 2, rfl, rfl, (by show (0 : Int) < 2 ∧ (2 : Int) < 1073741824; decide), _, 1, rfl, rfl, 4, (room - 2) / 2 + 1, rfl, ?_⟩
  generalize hmn : (if (room - 2) / 2 + 1 < 4 then (room - 2) / 2 + 1 else 4) = mn
  have mn1 : 1 ≤ mn ∧ mn ≤ 4 := by
    rw [← hmn]
    split <;> omega
  refine ⟨p, mn, rfl, mn1.1, by omega, p1, fun H3 j k3 p3 j0 jm => ?_⟩
  refine ⟨1, j, rfl, rfl, ?_⟩
  have k13 := k1.trans k3
  obtain ⟨sz, hsz⟩ : ∃ sz : Nat, (1 + j) = (sz : Int) := ⟨(1 + j).toNat, by omega⟩
  have sz1 : 1 ≤ sz ∧ sz ≤ 4 := by omega
  refine ⟨_, rfl, room, 1, rfl, rfl, _, rfl, 2, (sz : Int), rfl, (by rw [← hsz]), .inl ⟨by decide, by decide⟩, _, 1, rfl, rfl, _, _, rfl, rfl, (by show 0 < 2 * (sz : Int) + 1 ∧ 2 * (sz : Int) + 1 < 1073741824; omega), ?_⟩
  obtain ⟨e, he⟩ : ∃ e : Nat, (room - 1) / (2 * (sz : Int) + 1) = (e : Int) := ⟨((room - 1) / (2 * (sz : Int) + 1)).toNat, by
    have := Int.ediv_nonneg (a := room - 1) (b := 2 * (sz : Int) + 1) (by omega) (by omega)
    omega⟩
  have emul : (2 * (sz : Int) + 1) * (e : Int) ≤ room - 1 := by
    rw [← he]
    exact Int.mul_ediv_self_le (by omega)
  have eroom : (e : Int) ≤ room - 1 := by
    rw [← he]
    exact Int.ediv_le_self _ (by omega)
  refine ⟨_, rfl, _, 1, rfl, rfl, _, rfl, ?_⟩
  refine ite2 (fun _ => ?_) (fun he1 => ?_)
  · refine ⟨_, rfl, _, rfl, p, (m : Int), rfl, by omega, by omega, p3, fun H4 j4 k4 p4 j0 jm => ?_⟩
    exact wishW H4 j4 (k13.trans k4) p4 j0 jm
  have e1 : 1 ≤ e := by
    have h' : ¬ ((room - 1) / (2 * (sz : Int) + 1) < 1) := of_decide_eq_false (Bool.eq_false_iff.mpr he1)
    rw [he] at h'
    omega
  refine ⟨Nat.zero_le _, fun rl hrl => ?_⟩
  have nrl : rl ≠ p := p3.ne hrl
  refine ⟨_, rfl, (sz : Int), (by rw [← hsz]), by omega, by omega, ?_⟩
  rw [Int.toNat_natCast]
  refine for_range (lo := 0) (n := sz) (fun i σ H4 => ∃ y6 y10, ∃ L : List CRow, σ = [some (.ref p), some (.int (m : Int)), some (.int room), some (.int ((n + 1 : Nat) : Int)), some (.int way), some (.int (1 + j)), y6, none, some (.int ((room - 1) / (2 * (sz : Int) + 1))), some (.ref rl), y10] ∧
      KeepBut p H3 H4 ∧ PoolAt H4 p ∧ H4 rl = some (.lst (L.map fun x => V.ref x.1)) ∧ L.length = i ∧ (∀ x ∈ L, H4 x.1 = some (.tup [x.2.1.1, x.2.2.1])) ∧ (∀ x ∈ L, DA m H4 n x.2.1.1 x.2.1.2.1 x.2.1.2.2) ∧ (∀ x ∈ L, DA m H4 n x.2.2.1 x.2.2.2.1 x.2.2.2.2) ∧ ∀ x ∈ L, x.2.1.2.1 + x.2.2.2.1 ≤ 2 * e)
    ⟨none, none, [], rfl, .of (same_new hrl _), p3.same (same_new hrl _), upd_same, rfl, fun x hx => absurd hx (by simp), fun x hx => absurd hx (by simp), fun x hx => absurd hx (by simp), fun x hx => absurd hx (by simp)⟩ ?_ ?_
  · rintro i σ H4 hi ⟨y6, y10, L, rfl, k4, p4, hd, hl, hrw, d1, d2, sL⟩
    have evs : ([V.ref p, V.int (m : Int), V.int ((room - 1) / (2 * (sz : Int) + 1)), V.int (((n + 1 : Nat) : Int) - 1)] : List V) = [.ref p, .int (m : Int), .int (e : Int), .int (n : Int)] := by rw [he, en]
    refine ⟨_, rfl, _, rfl, _, rfl, _, rfl, _, 1, rfl, rfl, p, m, (e : Int), n, evs, p4, hm1, hm8, by omega, by omega, hn1, by omega, fun H5 v z f k5 p5 d5 hz => ?_⟩
    have hd5 : H5 rl = some (.lst (L.map fun x => V.ref x.1)) := k5 _ _ hd nrl
    refine ⟨.ref rl, rfl, .inl ⟨rfl, _, SqL.of hd5⟩, _, rfl, _, rfl, _, rfl, _, rfl, _, rfl, _, 1, rfl, rfl, p, m, (e : Int), n, evs, p5, hm1, hm8, by omega, by omega, hn1, by omega, fun H6 v2 z2 f2 k6 p6 d6 hz2 => ?_⟩
    refine ⟨(by show 2 ≤ sizeLine; decide), fun t ht => ?_⟩
    have g7 : Same H6 (upd H6 t (.tup [v, v2])) := same_new ht _
    have hd7 : (upd H6 t (.tup [v, v2])) rl = some (.lst (L.map fun x => V.ref x.1)) := g7 _ _ (k6 _ _ hd5 nrl)
    have ts : TupS H4 (upd (upd H6 t (.tup [v, v2])) rl (.lst (L.map (fun x => V.ref x.1) ++ [.ref t]))) := fun a xs ha => tupS_put hd7 a xs (g7 _ _ (k6.tups p5 a xs (k5.tups p4 a xs ha)))
    have ts5 : TupS H5 (upd (upd H6 t (.tup [v, v2])) rl (.lst (L.map (fun x => V.ref x.1) ++ [.ref t]))) := fun a xs ha => tupS_put hd7 a xs (g7 _ _ (k6.tups p5 a xs ha))
    have ts6 : TupS H6 (upd (upd H6 t (.tup [v, v2])) rl (.lst (L.map (fun x => V.ref x.1) ++ [.ref t]))) := fun a xs ha => tupS_put hd7 a xs (g7 _ _ ha)
    refine ⟨rl, _, _, rfl, rfl, hd7, ?_, ?_⟩
    · rw [List.length_map]
      exact small1000 (by omega)
    refine ⟨some (.int (0 + (i : Nat))), some v, L ++ [(t, (v, z, f), (v2, z2, f2))], rfl, (k4.trans (k5.trans (k6.trans (.of g7)))).put hrl _, (p6.same g7).put nrl _, ?_, ?_, ?_, ?_, ?_, ?_⟩
    · rw [upd_same, List.map_append]
      rfl
    · rw [List.length_append, hl]
      rfl
    · intro x hx
      rcases List.mem_append.mp hx with hx | hx
      · exact ts _ _ (hrw x hx)
      · rw [List.mem_singleton.mp hx]
        exact tupS_put hd7 _ _ upd_same
    · intro x hx
      rcases List.mem_append.mp hx with hx | hx
      · exact (d1 x hx).mono ts
      · rw [List.mem_singleton.mp hx]
        exact d5.mono ts5
    · intro x hx
      rcases List.mem_append.mp hx with hx | hx
      · exact (d2 x hx).mono ts
      · rw [List.mem_singleton.mp hx]
        exact d6.mono ts6
    · intro x hx
      rcases List.mem_append.mp hx with hx | hx
      · exact sL x hx
      · rw [List.mem_singleton.mp hx]
        show z + z2 ≤ 2 * e
        omega
  · rintro σ H4 ⟨y6, y10, L, rfl, k4, p4, hd, hl, hrw, d1, d2, sL⟩
    have evs : ([V.ref p, V.int (m : Int), V.int ((room - 1) / (2 * (sz : Int) + 1)), V.int (((n + 1 : Nat) : Int) - 1)] : List V) = [.ref p, .int (m : Int), .int (e : Int), .int (n : Int)] := by rw [he, en]
    refine ⟨_, rfl, rl, _, rfl, .inl ⟨SqL.of hd, fun tl htl => ?_⟩⟩
    have g5 : Same H4 (upd H4 tl (.tup (L.map fun x => V.ref x.1))) := same_new htl _
    refine ⟨_, rfl, _, rfl, _, rfl, _, rfl, _, 1, rfl, rfl, p, m, (e : Int), n, evs, p4.same g5, hm1, hm8, by omega, by omega, hn1, by omega, fun H6 v z f k6 p6 d6 hz => ?_⟩
    refine ⟨(by show 3 ≤ sizeLine; decide), fun t ht => ?_⟩
    have g7 : Same H6 (upd H6 t (.tup [.str "cases", .ref tl, v])) := same_new ht _
    have ts : TupS H4 (upd H6 t (.tup [.str "cases", .ref tl, v])) := fun a xs ha => g7 _ _ (k6.tups (p4.same g5) a xs (g5 _ _ ha))
    refine q _ (.ref t) _ _ (k13.trans (k4.trans ((KeepBut.of g5).trans (k6.trans (.of g7))))) (p6.same g7) (.cases L upd_same (g7 _ _ (k6.tups (p4.same g5) _ _ upd_same)) (by omega) (by omega) (fun x hx => ts _ _ (hrw x hx)) (fun x hx => (d1 x hx).mono ts) (fun x hx => (d2 x hx).mono ts) (d6.same g7)) ?_
    rw [sum_kids]
    have sum : (L.map fun x => x.2.1.2.1 + x.2.2.2.1).sum ≤ sz * (2 * e) := by
      have := sum_le_mul (fun x : CRow => x.2.1.2.1 + x.2.2.2.1) (2 * e) L sL
      rw [hl] at this
      exact this
    have h2 : ((sz * (2 * e) : Nat) : Int) + (e : Int) ≤ room - 1 := by
      have e3 : ((sz * (2 * e) : Nat) : Int) + (e : Int) = (2 * (sz : Int) + 1) * (e : Int) := by
        rw [Int.natCast_mul, Int.natCast_mul, Int.add_mul, Int.one_mul, ← Int.mul_assoc, Int.mul_comm (sz : Int)]
        rfl
      rw [e3]
      exact emul
    show ((1 + ((L.map fun x => x.2.1.2.1 + x.2.2.2.1).sum + z) : Nat) : Int) ≤ room
    omega
theorem ok_dec (D : DefOf K mg "_law_decision" (top 41) ["_law_pool_here", "_law_many", "_law_room", "_law_deep"]) (T : Txt K mg C) (cT : C8.Cal P w K mg base 1 "_law_take" spTake []) : ∀ n : Nat, C8.Cal P w K mg base (n + 1) "_law_decision" (spDec n) []
  | 0 => cal_never D fun vs H Q E h => by
    obtain ⟨p, m, room, n, _, _, _, _, _, _, h, h2, _⟩ := h
    omega
  | n + 1 => ok_dec1 (by omega) D T cT (ok_dec D T cT n)
end
end K29

/-! K29 14: _law_all_rows, _law_rows_of. -/
namespace K29
open PySem L2
open PyProof.Rows (envOfC)
/-! ### plain -/
def bitB (t j : Nat) : Bool := decide (V.int ((t / 2 ^ j % 2 : Nat) : Int) = V.int 1)
def rowOf (m t : Nat) : List Bool := (List.range m).map fun k => bitB t (m - 1 - k)
theorem rowOf_len (m t : Nat) : (rowOf m t).length = m := by
  unfold rowOf
  rw [List.length_map, List.length_range]
theorem nodup_rows {m : Nat} (h1 : 1 ≤ m) (h4 : m ≤ 4) : ((List.range (2 ^ m)).map (rowOf m)).Nodup := by
  have h : m = 1 ∨ m = 2 ∨ m = 3 ∨ m = 4 := by omega
  rcases h with rfl | rfl | rfl | rfl <;> decide +kernel
theorem pow4 {m : Nat} (h1 : 1 ≤ m) (h4 : m ≤ 4) : 2 ≤ 2 ^ m ∧ 2 ^ m ≤ 16 := by
  have h : m = 1 ∨ m = 2 ∨ m = 3 ∨ m = 4 := by omega
  rcases h with rfl | rfl | rfl | rfl <;> decide
section
variable {X : Cx} {K : PySem.W.Frag}
def rTupOf (K : PySem.W.Frag) : List V → Hp → VK → Prop := fun xs H Q => ∃ p ys, xs = [.ref p] ∧ ((SqL K H p ys ∧ ∀ l, H l = none → Q (.ref l) (upd H l (.tup ys))) ∨ (SqT K H p ys ∧ Q (.ref p) H))
theorem tupof_K (hK : X.K = K) : CallR X (.type "tuple") (rTupOf K) := hK ▸ call_tuple_of
end
theorem RowsAt.keep {H H' : Hp} {p l : Addr} {L : RL} (r : RowsAt H l L) (k : KeepBut p H H') (hp : PoolAt H p) (n : l ≠ p) : RowsAt H' l L := ⟨k _ _ r.ob n, fun x hx => k.tups hp _ _ (r.row x hx)⟩
theorem RowsAt.other {H : Hp} {l q : Addr} {L : RL} (r : RowsAt H l L) (n : l ≠ q) {o : HO} (t : TupS H (upd H q o)) : RowsAt (upd H q o) l L := ⟨by rw [upd_ne n]; exact r.ob, fun x hx => t _ _ (r.row x hx)⟩
section
variable {P : Program} {w : World} {K : PySem.W.Frag} {mg : Str → Option Value} {base : Heap} {C : Addr}
/-! ### _law_all_rows -/
def spLawAll : Sp := fun vs H Q _ => ∃ m : Nat, vs = [.int (m : Int)] ∧ 1 ≤ m ∧ m ≤ 4 ∧ ∀ H' l (L : RL), H l = none → Same H H' → RowsAt H' l L → L.map (fun x => x.2) = (List.range (2 ^ m)).map (rowOf m) → Q (.ref l) H'
theorem sc42 : FnScope ["_law_many", "_law_number", "_law_k"] ["_law_many"] (C8.fnScope (top 42)) := C8.fnScope_by (by decide +kernel)
/-- the outer comprehension's scope -/
def osc : Scope := { kind := .function, names := [(".0", .local), ("_law_number", .cell), ("tuple", .globalImplicit), ("range", .globalImplicit), ("_law_many", .free)], isGenerator := false, isCoroutine := false, more := [] }
theorem ok_lawall (D : DefOf K mg "_law_all_rows" (top 42) ["_law_many"]) (T : Txt K mg C) : C8.Cal P w K mg base 1 "_law_all_rows" spLawAll [] := by
  refine cal_of D sc42 (fun vs H Q E h => ?_) (fun fA cdv A outer s H vs Q E hr h => ?_)
  · obtain ⟨m, rfl, _⟩ := h
    rfl
  obtain ⟨m, rfl, h1, h4, q⟩ := h
  refine ⟨_, pss_one (ps_ret (pe_lc (own := [("_law_number", 1)]) (g := gName 1) (tt := tYes) rfl sc42.nd (pi_range1 rfl T.range (pa_cons (pe_op op_shl pe_int (pv 0)) pa_nil)) (blkOk_by (N := ["_law_many", "_law_number", "_law_k"]) (sc := C8.fnScope (top 42)) (by decide +kernel))
    (fun _ _ _ _ _ => pg_name (i := 1) sc42.nd rfl (Or.inr rfl)) (fun _ _ _ _ _ => pts_nil)
    (fun _ _ _ _ _ => pe_callTy (r := rTupOf K) (tupof_K rfl) (by rfl) T.tuple (by decide +kernel) (pa_cons
      (pe_lc (own := [("_law_k", 2)]) (g := gName 2) (tt := tYes) rfl sc42.nd (pi_range1 rfl T.range (pa_cons (pv 0) pa_nil)) (blkOk_by (N := ["_law_many", "_law_number", "_law_k"]) (sc := relS osc (C8.fnScope (top 42))) (by decide +kernel))
        (fun _ _ _ _ _ => pg_name (i := 2) sc42.nd rfl (Or.inl rfl)) (fun _ _ _ _ _ => pts_nil)
        (fun _ _ _ _ _ => pe_cmpR op_eq (pe_op op_odd (pe_op op_shrN (pv 1) (pe_op op_sub (pe_op op_sub (pv 0) pe_int) (pv 2))) pe_int) pe_int (nomark _))) pa_nil)))), ?_⟩
  have ps := pow4 h1 h4
  have e2 : (1 : Int) * 2 ^ (m : Int).toNat = ((2 ^ m : Nat) : Int) := by
    rw [Int.one_mul, Int.toNat_natCast]
    exact (Int.natCast_pow 2 m).symm
  refine ⟨_, rfl, 1, (m : Int), rfl, rfl, (by unfold CPow; refine ⟨by omega, by omega, by decide⟩), _, rfl, ?_, ?_, fun D1 hD1 => ?_⟩
  · show -(2 ^ 62) ≤ (1 : Int) * 2 ^ (m : Int).toNat
    rw [e2]
    omega
  · show (1 : Int) * 2 ^ (m : Int).toNat < 2 ^ 62
    rw [e2]
    omega
  have e3 : ((1 : Int) * 2 ^ (m : Int).toNat).toNat = 2 ^ m := by
    rw [e2, Int.toNat_natCast]
  rw [e3]
  refine lc_range (lo := 0) (n := 2 ^ m) (fun i H2 => ∃ L : RL, Same H H2 ∧ RowsAt H2 D1 L ∧ L.map (fun x => x.2) = (List.range i).map (rowOf m))
    ⟨[], same_new hD1 _, ⟨upd_same, fun x hx => absurd hx (by simp)⟩, rfl⟩ ?_ ?_
  · rintro i H2 hi ⟨L, g2, rl, el⟩
    refine ⟨rfl, ?_⟩
    refine tY ?_
    have hl : L.length = i := by
      have := congrArg List.length el
      rw [List.length_map, List.length_map, List.length_range] at this
      exact this
    refine ⟨_, rfl, (m : Int), rfl, by omega, by omega, fun D2 hD2 => ?_⟩
    rw [Int.toNat_natCast]
    refine lc_range (lo := 0) (n := m) (fun j H3 => Same H2 H3 ∧ H3 D2 = some (.lst (bls ((List.range j).map fun k => bitB i (m - 1 - k))))) ⟨same_new hD2 _, upd_same⟩ ?_ ?_
    · rintro j H3 hj ⟨g3, hd⟩
      refine ⟨rfl, ?_⟩
      refine tY ?_
      have ei : (0 : Int) + (i : Nat) = (i : Nat) := Int.zero_add _
      have ej : (m : Int) - 1 - (0 + (j : Nat)) = ((m - 1 - j : Nat) : Int) := by omega
      have eb : ((i : Nat) : Int) / 2 ^ (m - 1 - j) = ((i / 2 ^ (m - 1 - j) : Nat) : Int) := by
        rw [Int.natCast_ediv, Int.natCast_pow]
        rfl
      refine ⟨_, rfl, _, rfl, _, 1, rfl, rfl, _, rfl, _, _, rfl, rfl, (i : Int), m - 1 - j, (by rw [ei]), (by rw [← ej]), i / 2 ^ (m - 1 - j), (by rw [eb]), rfl, rfl, _, hd, ?_, same_put g3 hD2 _, ?_⟩
      · rw [List.length_map, List.length_map, List.length_range]
        exact small1000 (by omega)
      · rw [upd_same, List.range_succ, List.map_append]
        show _ = some (HO.lst (((List.range j).map (fun k => bitB i (m - 1 - k)) ++ [bitB i (m - 1 - j)]).map V.bl))
        rw [List.map_append]
        rfl
    · rintro H3 ⟨g3, hd⟩
      refine ⟨D2, _, rfl, .inl ⟨SqL.of hd, fun t ht => ?_⟩⟩
      have g4 := g3.trans (same_new ht (.tup (bls ((List.range m).map fun k => bitB i (m - 1 - k)))))
      have r4 := rl.same g4
      refine ⟨_, r4.ob, ?_, L ++ [(t, rowOf m i)], same_put (g2.trans g4) hD1 _, r4.push (x := (t, rowOf m i)) upd_same, ?_⟩
      · rw [List.length_map]
        exact small1000 (by omega)
      · rw [List.range_succ, List.map_append, List.map_append, el]
        rfl
  · rintro H2 ⟨L, g2, rl, el⟩
    exact q H2 D1 L hD1 g2 rl el
end
end K29

/-! K29 15: _law_rows_of, _law_case. -/
namespace K29
open PySem L2
open PyProof.Rows (envOfC)
/-- good rows for m wishes -/
structure GoodR (m : Nat) (L : RL) : Prop where
  ne : L ≠ []
  nd : (L.map fun x => x.2).Nodup
  len : ∀ x ∈ L, x.2.length = m
  sz : L.length ≤ 16
theorem RowsAt.nil {H : Hp} {p : Addr} : RowsAt (upd H p (.lst [])) p [] := ⟨upd_same, fun x hx => absurd hx (by simp)⟩
theorem map_take1 {L : RL} {n : Nat} : (L.map fun x => V.ref x.1).take n = (L.take n).map fun x => V.ref x.1 := List.map_take.symm
section
variable {P : Program} {w : World} {K : PySem.W.Frag} {mg : Str → Option Value} {base : Heap} {C : Addr}
/-! ### _law_rows_of -/
def spRowsOf : Sp := fun vs H Q _ => ∃ p, ∃ m : Nat, vs = [.ref p, .int (m : Int), .int 16] ∧ PoolAt H p ∧ 1 ≤ m ∧ m ≤ 4 ∧ ∀ H' l (L : RL), KeepBut p H H' → PoolAt H' p → l ≠ p → RowsAt H' l L → GoodR m L → Q (.ref l) H'
theorem sc43 : FnScope ["_law_pool_here", "_law_many", "_law_most", "_law_every", "_law_way", "_law_line", "_law_some", "_law_at", "_law_found"] ["_law_pool_here", "_law_many", "_law_most"] (C8.fnScope (top 43)) := C8.fnScope_by (by decide +kernel)
theorem ok_rowsof (D : DefOf K mg "_law_rows_of" (top 43) ["_law_pool_here", "_law_many", "_law_most"]) (T : Txt K mg C) (cA : C8.Cal P w K mg base 1 "_law_all_rows" spLawAll []) (cT : C8.Cal P w K mg base 1 "_law_take" spTake []) :
    C8.Cal P w K mg base 2 "_law_rows_of" spRowsOf [] := by
  refine cal_of D sc43 (fun vs H Q E h => ?_) (fun fA cdv A outer s H vs Q E hr h => ?_)
  · obtain ⟨p, m, rfl, _⟩ := h
    rfl
  obtain ⟨p, m, rfl, hp, h1, h4, q⟩ := h
  refine ⟨_, pss_cons (ps_set (i := 3) sc43.nd rfl (Or.inl rfl) (C8.pe_c cA hr (by decide) (by rfl) (pa_cons (pv 1) pa_nil)))
    (pss_cons (ps_set (i := 4) sc43.nd rfl (Or.inl rfl) (C8.pe_c cT hr (by decide) (by rfl) (pa_cons (pv 0) (pa_cons pe_int pa_nil))))
    (C8.pss_cut (ps_if (PW.pt (pw_and (pt_cmpR op_eq (pv 4) pe_int (nomark _)) (pw_and1 (pt_cmpR op_le (pe_len T.len (pv 3)) (pv 2) (nomark _))))) (pss_one (ps_ret (pv 3))) pss_nil)
    (pss_cons (ps_setLc (i := 6) (own := [("_law_line", 5)]) (g := gName 5) rfl sc43.nd rfl rfl (sw_true rfl rfl rfl (by decide +kernel)) (pi_list (pv 3)) (blkOk_by (N := ["_law_pool_here", "_law_many", "_law_most", "_law_every", "_law_way", "_law_line", "_law_some", "_law_at", "_law_found"]) (sc := C8.fnScope (top 43)) (by decide +kernel))
      (fun _ _ _ _ _ => pg_name (i := 5) sc43.nd rfl (Or.inl rfl)) (fun _ _ _ _ _ => pts_one (pt_cmpR op_gt (C8.pe_c (sp := spTake) cT hr (by decide) (by rfl) (pa_cons (pv 0) (pa_cons pe_int pa_nil))) pe_int (nomark _))) (fun _ _ _ _ _ => pv 5))
    (C8.pss_cut (ps_if (pt_cmpR op_eq (pv 4) pe_int (nomark _)) (pss_one (ps_setLc (i := 6) (own := [("_law_line", 5)]) (g := gName 5) rfl sc43.nd rfl rfl (sw_true rfl rfl rfl (by decide +kernel)) (pi_list (pv 3)) (blkOk_by (N := ["_law_pool_here", "_law_many", "_law_most", "_law_every", "_law_way", "_law_line", "_law_some", "_law_at", "_law_found"]) (sc := C8.fnScope (top 43)) (by decide +kernel))
      (fun _ _ _ _ _ => pg_name (i := 5) sc43.nd rfl (Or.inl rfl)) (fun _ _ _ _ _ => pts_one (pt_cmpR op_eq (C8.pe_c (sp := spTake) cT hr (by decide) (by rfl) (pa_cons (pv 0) (pa_cons pe_int pa_nil))) pe_int (nomark _))) (fun _ _ _ _ _ => pv 5))) pss_nil)
    (C8.pss_cut (ps_if (pt_cmpR op_eq (pv 4) pe_int (nomark _))
      (pss_cons (ps_set (i := 7) sc43.nd rfl (Or.inr rfl) (C8.pe_c cT hr (by decide) (by rfl) (pa_cons (pv 0) (pa_cons (pv 1) pa_nil))))
      (pss_one (ps_setLc (i := 6) (own := [("_law_line", 5)]) (g := gName 5) rfl sc43.nd rfl rfl (sw_true rfl rfl rfl (by decide +kernel)) (pi_list (pv 6)) (blkOk_by (N := ["_law_pool_here", "_law_many", "_law_most", "_law_every", "_law_way", "_law_line", "_law_some", "_law_at", "_law_found"]) (sc := C8.fnScope (top 43)) (by decide +kernel))
        (fun _ _ _ _ _ => pg_name (i := 5) sc43.nd rfl (Or.inl rfl)) (fun _ _ _ _ _ => pts_one (pt_mid (PW.pt (pw_or (pt_cmpR op_eq (pe_ix (r := rIxT K) ix_tup (pv 5) (pv 7) (fun _ _ => rfl)) (pe_ix (r := rIxT K) ix_tup (pv 5) pe_int (fun _ _ => rfl)) (nomark _)) (pw_or1 (pt_val (pe_ix (r := rIxT K) ix_tup (pv 5) (pe_un un_neg pe_int) (fun _ _ => rfl)))))))) (fun _ _ _ _ _ => pv 5)))) pss_nil)
    (C8.pss_cut (ps_if (pt_cmpR (op_eqE hr.units) (pv 6) (pe_lst pa_nil) (nomark _)) (pss_one (ps_set (i := 6) sc43.nd rfl (Or.inl rfl) (pe_slice sl_list (pv 3) po_none (po_some pe_int)))) pss_nil)
    (pss_cons (ps_set (i := 8) sc43.nd rfl (Or.inl rfl) (pe_lst pa_nil))
    (pss_cons (ps_for PassesOwn.never rfl (pi_list (pv 6)) (pg_name (i := 5) sc43.nd rfl (Or.inl rfl))
      (pss_one (ps_expr (pe_bm PySem.F.plainAttrs_list PySem.F.slot_list_insert PySem.F.type_list_insert mt_insert (pv 8) (pa_cons (C8.pe_c cT hr (by decide) (by rfl) (pa_cons (pv 0) (pa_cons (pe_op op_add (pe_len T.len (pv 8)) pe_int) pa_nil))) (pa_cons (pv 5) pa_nil))))))
    (pss_one (ps_ret (pe_slice sl_list (pv 8) po_none (po_some (pv 2))))))))))))), ?_⟩
  have p4 := pow4 h1 h4
  -- every
  refine ⟨_, rfl, m, rfl, h1, h4, fun H1 ev E nev g1 re eE => ?_⟩
  have hE : E.length = 2 ^ m := by
    have := congrArg List.length eE
    rw [List.length_map, List.length_map, List.length_range] at this
    exact this
  have nev' : ev ≠ p := hp.ne nev
  have ndE : (E.map fun x => x.2).Nodup := by rw [eE]; exact nodup_rows h1 h4
  have lenE : ∀ x ∈ E, x.2.length = m := fun x hx => by
    have : x.2 ∈ (List.range (2 ^ m)).map (rowOf m) := eE ▸ List.mem_map.mpr ⟨x, hx, rfl⟩
    obtain ⟨t, _, ht⟩ := List.mem_map.mp this
    rw [← ht]
    exact rowOf_len m t
  have gE : GoodR m E := ⟨fun e => by rw [e] at hE; have : 0 = 2 ^ m := hE; omega, ndE, lenE, by omega⟩
  -- way
  refine ⟨_, rfl, p, 4, rfl, by decide, by decide, hp.same g1, fun H2 way k2 p2 w0 w4 => ?_⟩
  have k02 : KeepBut p H H2 := (KeepBut.of g1).trans k2
  have re2 := re.keep k2 (hp.same g1) nev'
  refine ⟨fun σ H3 => σ = [some (.ref p), some (.int (m : Int)), some (.int 16), some (.ref ev), some (.int way), none, none, none, none] ∧ H3 = H2, ?_, ?_⟩
  · refine ⟨_, rfl, rfl, _, rfl, ?_⟩
    refine ite2 (fun _ => ?_) (fun _ => ?_)
    · refine ⟨_, rfl, ev, _, rfl, .inl (SqL.of re2.ob), _, rfl, _, 16, rfl, rfl, _, rfl, ?_⟩
      refine ite2 (fun _ => ?_) (fun _ => ⟨rfl, rfl⟩)
      exact ⟨_, rfl, q H2 ev E k02 p2 nev' re2 gE⟩
    · refine iteF ?_
      exact ⟨rfl, rfl⟩
  rintro σ H3 ⟨rfl, rfl⟩
  -- some
  have comp : ∀ (H4 : Hp) (S0 : RL) (so : Addr) (Dd : Addr), H4 Dd = none → PoolAt H4 p → so ≠ p → RowsAt H4 so S0 → Dd ≠ p ∧ Dd ≠ so ∧ Dd ≠ ev ∨ True := fun _ _ _ _ _ _ _ _ => .inr True.intro
  refine ⟨_, rfl, ev, rfl, ⟨_, SqL.of re2.ob⟩, fun D1 hD1 => ?_⟩
  have nD1 : D1 ≠ p := p2.ne hD1
  have evD1 : ev ≠ D1 := ne_of_none re2.ob hD1
  refine lc_list (K := K) (a := ev) (xs := E.map fun x => V.ref x.1) (fun i H4 => ∃ S : RL, KeepBut p H3 H4 ∧ PoolAt H4 p ∧ RowsAt H4 ev E ∧ RowsAt H4 D1 S ∧ S.Sublist (E.take i))
    ⟨[], .of (same_new hD1 _), p2.same (same_new hD1 _), re2.same (same_new hD1 _), .nil, List.Sublist.slnil⟩ (fun i H4 _ ⟨_, _, _, r, _⟩ => SqL.of r.ob) ?_ ?_
  · rintro i x H4 hx ⟨S, k4, p4', r4, s4, sub⟩
    obtain ⟨e, he, rfl, hm, hi⟩ := ref_at hx
    have et : E.take (i + 1) = E.take i ++ [e] := by rw [List.take_add_one, he]; rfl
    refine ⟨rfl, ?_⟩
    refine ⟨_, rfl, p, 4, rfl, by decide, by decide, p4', fun H5 j k5 p5 _ _ => ⟨j, 0, rfl, rfl, _, rfl, ?_⟩⟩
    have r5 := r4.keep k5 p4' nev'
    have s5 := s4.keep k5 p4' nD1
    refine ite2 (fun _ => ?_) (fun _ => ?_)
    · refine ⟨_, rfl, _, s5.ob, ?_, S ++ [e], (k4.trans k5).put hD1 _, p5.put nD1 _, r5.other evD1 (tupS_put s5.ob), s5.push (r5.row e hm), ?_⟩
      · rw [List.length_map]
        have := sub.length_le
        rw [List.length_take] at this
        exact small1000 (by omega)
      · rw [et]
        exact sub.append (List.Sublist.refl _)
    · refine ⟨S, k4.trans k5, p5, r5, s5, ?_⟩
      rw [et]
      exact sub.trans (List.sublist_append_left _ _)
  rintro H4 ⟨S, k4, p4', r4, s4, sub⟩
  rw [List.length_map, List.take_length] at sub
  -- the state behind each of the ifs
  refine ⟨fun σ H5 => ∃ so, ∃ S : RL, σ = [some (.ref p), some (.int (m : Int)), some (.int 16), some (.ref ev), some (.int way), none, some (.ref so), none, none] ∧ KeepBut p H3 H5 ∧ PoolAt H5 p ∧ RowsAt H5 ev E ∧ so ≠ p ∧ RowsAt H5 so S ∧ S.Sublist E, ?_, ?_⟩
  · refine ⟨_, rfl, rfl, _, rfl, ?_⟩
    refine ite2 (fun _ => ?_) (fun _ => ⟨D1, S, rfl, k4, p4', r4, nD1, s4, sub⟩)
    refine ⟨_, rfl, ev, rfl, ⟨_, SqL.of r4.ob⟩, fun D2 hD2 => ?_⟩
    have nD2 : D2 ≠ p := p4'.ne hD2
    have evD2 : ev ≠ D2 := ne_of_none r4.ob hD2
    refine lc_list (K := K) (a := ev) (xs := E.map fun x => V.ref x.1) (fun i H5 => ∃ S : RL, KeepBut p H4 H5 ∧ PoolAt H5 p ∧ RowsAt H5 ev E ∧ RowsAt H5 D2 S ∧ S.Sublist (E.take i))
      ⟨[], .of (same_new hD2 _), p4'.same (same_new hD2 _), r4.same (same_new hD2 _), .nil, List.Sublist.slnil⟩ (fun i H5 _ ⟨_, _, _, r, _⟩ => SqL.of r.ob) ?_ ?_
    · rintro i x H5 hx ⟨S, k5, p5, r5, s5, sub⟩
      obtain ⟨e, he, rfl, hm, hi⟩ := ref_at hx
      have et : E.take (i + 1) = E.take i ++ [e] := by rw [List.take_add_one, he]; rfl
      refine ⟨rfl, ?_⟩
      refine ⟨_, rfl, p, 2, rfl, by decide, by decide, p5, fun H6 j k6 p6 _ _ => ⟨rfl, _, rfl, ?_⟩⟩
      have r6 := r5.keep k6 p5 nev'
      have s6 := s5.keep k6 p5 nD2
      refine ite2 (fun _ => ?_) (fun _ => ?_)
      · refine ⟨_, rfl, _, s6.ob, ?_, S ++ [e], (k5.trans k6).put hD2 _, p6.put nD2 _, r6.other evD2 (tupS_put s6.ob), s6.push (r6.row e hm), ?_⟩
        · rw [List.length_map]
          have := sub.length_le
          rw [List.length_take] at this
          exact small1000 (by omega)
        · rw [et]
          exact sub.append (List.Sublist.refl _)
      · refine ⟨S, k5.trans k6, p6, r6, s6, ?_⟩
        rw [et]
        exact sub.trans (List.sublist_append_left _ _)
    · rintro H5 ⟨S, k5, p5, r5, s5, sub⟩
      rw [List.length_map, List.take_length] at sub
      exact ⟨D2, S, rfl, k4.trans k5, p5, r5, nD2, s5, sub⟩
  clear k4 p4' r4 s4 sub nD1 evD1 hD1
  rintro σ H5 ⟨so, S, rfl, k5, p5, r5, nso, s5, sub5⟩
  refine ⟨fun σ H6 => ∃ so, ∃ S : RL, ∃ y7, σ = [some (.ref p), some (.int (m : Int)), some (.int 16), some (.ref ev), some (.int way), none, some (.ref so), y7, none] ∧ KeepBut p H3 H6 ∧ PoolAt H6 p ∧ RowsAt H6 ev E ∧ so ≠ p ∧ RowsAt H6 so S ∧ S.Sublist E, ?_, ?_⟩
  · refine ⟨_, rfl, rfl, _, rfl, ?_⟩
    refine ite2 (fun _ => ?_) (fun _ => ⟨so, S, none, rfl, k5, p5, r5, nso, s5, sub5⟩)
    refine ⟨_, rfl, _, rfl, p, (m : Int), rfl, by omega, by omega, p5, fun H6 at' k6 p6 a0 am => ?_⟩
    have r6 := r5.keep k6 p5 nev'
    have s6 := s5.keep k6 p5 nso
    obtain ⟨i0, rfl⟩ := Int.eq_ofNat_of_zero_le a0
    refine ⟨_, rfl, so, rfl, ⟨_, SqL.of s6.ob⟩, fun D2 hD2 => ?_⟩
    have nD2 : D2 ≠ p := p6.ne hD2
    have soD2 : so ≠ D2 := ne_of_none s6.ob hD2
    refine lc_list (K := K) (a := so) (xs := S.map fun x => V.ref x.1) (fun i H7 => ∃ S2 : RL, Same H6 H7 ∧ RowsAt H7 D2 S2 ∧ S2.Sublist (S.take i))
      ⟨[], same_new hD2 _, .nil, List.Sublist.slnil⟩ (fun i H7 _ ⟨_, g, _⟩ => SqL.of (g _ _ s6.ob)) ?_ ?_
    · rintro i x H7 hx ⟨S2, g7, s7, sub⟩
      obtain ⟨e, he, rfl, hm, hi⟩ := ref_at hx
      have et : S.take (i + 1) = S.take i ++ [e] := by rw [List.take_add_one, he]; rfl
      have hrow := g7 _ _ (s6.row e hm)
      have hle := lenE e (sub5.subset hm)
      have hS : S.length ≤ 16 := by
        have := sub5.length_le
        omega
      have b0 : 0 < e.2.length := by omega
      have bi : i0 < e.2.length := by omega
      have hne : e.2 ≠ [] := fun z => by
        rw [z] at b0
        cases b0
      have elast : atI (bls e.2) (-1) = some (.bl (e.2.getLast hne)) := by
        have e5 : bls e.2 = bls e.2.dropLast ++ [.bl (e.2.getLast hne)] := by
          show e.2.map V.bl = _
          conv => lhs; rw [← List.dropLast_concat_getLast hne]
          rw [List.map_append]
          rfl
        rw [e5]
        exact atI_last _ _
      refine ⟨rfl, ?_⟩
      refine ⟨fun b H8 => H8 = H7, ?_, ?_⟩
      · refine ⟨_, rfl, _, rfl, e.1, _, ((i0 : Nat) : Int), .bl e.2[i0], rfl, rfl, SqT.of hrow, atI_nat (by rw [List.getElem?_map, List.getElem?_eq_getElem bi]; rfl), ?_⟩
        refine ⟨_, rfl, e.1, _, 0, .bl e.2[0], rfl, rfl, SqT.of hrow, atI_nat (j := 0) (by rw [List.getElem?_map, List.getElem?_eq_getElem b0]; rfl), rfl, _, rfl, ?_⟩
        refine ite2 (fun _ => rfl) (fun _ => ?_)
        exact ⟨_, rfl, 1, rfl, e.1, _, -1, _, rfl, rfl, SqT.of hrow, elast, _, rfl, rfl⟩
      rintro b H8 rfl
      cases b with
      | true =>
        refine iteT ?_
        refine ⟨_, rfl, _, s7.ob, ?_, S2 ++ [e], same_put g7 hD2 _, s7.push hrow, ?_⟩
        · rw [List.length_map]
          have := sub.length_le
          rw [List.length_take] at this
          exact small1000 (by omega)
        · rw [et]
          exact sub.append (List.Sublist.refl _)
      | false =>
        refine iteF ?_
        refine ⟨S2, g7, s7, ?_⟩
        rw [et]
        exact sub.trans (List.sublist_append_left _ _)
    · rintro H7 ⟨S2, g7, s7, sub⟩
      rw [List.length_map, List.take_length] at sub
      exact ⟨D2, S2, _, rfl, k5.trans (k6.trans (.of g7)), p6.same g7, r6.same g7, nD2, s7, sub.trans sub5⟩
  clear k5 p5 r5 s5 sub5 nso
  rintro σ H6 ⟨so, S, y7, rfl, k6, p6, r6, nso, s6, sub6⟩
  refine ⟨fun σ H7 => ∃ so, ∃ S : RL, ∃ y7, σ = [some (.ref p), some (.int (m : Int)), some (.int 16), some (.ref ev), some (.int way), none, some (.ref so), y7, none] ∧ KeepBut p H3 H7 ∧ PoolAt H7 p ∧ so ≠ p ∧ RowsAt H7 so S ∧ GoodR m S, ?_, ?_⟩
  · have good : S ≠ [] → GoodR m S := fun h => ⟨h, (sub6.map _).nodup ndE, fun x hx => lenE x (sub6.subset hx), by have := sub6.length_le; omega⟩
    refine ⟨_, rfl, Nat.zero_le _, fun e he => ?_⟩
    have g1 := same_new he (.lst [])
    refine ⟨so, e, _, rfl, rfl, SqL.of (g1 _ _ s6.ob), SqL.of upd_same, _, rfl, ?_⟩
    cases S with
    | nil =>
      refine iteT ?_
      refine ⟨_, rfl, 1, rfl, ev, _, rfl, SqL.of (g1 _ _ r6.ob), fun l hl => ?_⟩
      have g2 := g1.trans (same_new hl (.lst (cutV (E.map fun x => V.ref x.1) none (some 1))))
      have sub1 : (E.take 1).Sublist E := List.take_sublist _ _
      refine ⟨l, E.take 1, y7, rfl, k6.trans (.of g2), p6.same g2, (p6.same g1).ne hl, ⟨?_, fun x hx => g2 _ _ (r6.row x (sub1.subset hx))⟩, ⟨fun z => ?_, (sub1.map _).nodup ndE, fun x hx => lenE x (sub1.subset hx), by rw [List.length_take]; omega⟩⟩
      · rw [upd_same]
        have e6 : cutV (E.map fun x => V.ref x.1) none (some 1) = (E.map fun x => V.ref x.1).take 1 := cut_to (w := 1) (by rw [List.length_map]; omega)
        rw [e6, map_take1]
      · have := congrArg List.length z
        rw [List.length_take] at this
        have h0 : ([] : RL).length = 0 := rfl
        omega
    | cons x t =>
      refine iteF ?_
      exact ⟨so, x :: t, y7, rfl, k6.trans (.of g1), p6.same g1, nso, s6.same g1, good (by simp)⟩
  clear k6 p6 r6 s6 sub6 nso
  rintro σ H7 ⟨so, S, y7, rfl, k7, p7, nso, s7, gS⟩
  -- found
  refine ⟨Nat.zero_le _, fun fo hfo => ?_⟩
  have nfo : fo ≠ p := p7.ne hfo
  have sofo : so ≠ fo := ne_of_none s7.ob hfo
  have g8 := same_new hfo (.lst [])
  refine ⟨_, rfl, so, rfl, ⟨_, SqL.of (g8 _ _ s7.ob)⟩, ?_⟩
  refine for_list (K := K) (a := so) (xs := S.map fun x => V.ref x.1) (fun i σ H8 => ∃ y5, ∃ F : RL, σ = [some (.ref p), some (.int (m : Int)), some (.int 16), some (.ref ev), some (.int way), y5, some (.ref so), y7, some (.ref fo)] ∧ KeepBut p H7 H8 ∧ PoolAt H8 p ∧ RowsAt H8 so S ∧ RowsAt H8 fo F ∧ F.Perm (S.take i))
    ⟨none, [], rfl, .of g8, p7.same g8, s7.same g8, .nil, .refl _⟩ (fun i σ H8 _ ⟨_, _, _, _, _, r, _⟩ => SqL.of r.ob) ?_ ?_
  · rintro i x σ H8 hx ⟨y5, F, rfl, k8, p8, s8, f8, pm⟩
    obtain ⟨e, he, rfl, hm, hi⟩ := ref_at hx
    have hF : F.length = i := by
      have := pm.length_eq
      rw [List.length_take] at this
      omega
    have hS := gS.sz
    refine ⟨.ref fo, rfl, .inl ⟨rfl, _, SqL.of f8.ob⟩, _, rfl, _, rfl, fo, _, rfl, .inl (SqL.of f8.ob), _, 1, rfl, rfl, p, _, rfl, ?_, ?_, p8, fun H9 j k9 p9 j0 jl => ?_⟩
    · rw [List.length_map]
      omega
    · rw [List.length_map]
      omega
    rw [List.length_map] at jl
    have f9 := f8.keep k9 p8 nfo
    have s9 := s8.keep k9 p8 nso
    refine ⟨_, rfl, fo, _, j, .ref e.1, rfl, rfl, f9.ob, ?_, j0, by omega, ?_⟩
    · rw [List.length_map]
      exact small1000 (by omega)
    refine ⟨_, F.take j.toNat ++ [e] ++ F.drop j.toNat, rfl, (k8.trans k9).put hfo _, p9.put nfo _, s9.other sofo (tupS_put f9.ob), ⟨?_, fun x hx => ?_⟩, ?_⟩
    · rw [upd_same, List.map_append, List.map_append, List.map_take, List.map_drop]
      rfl
    · refine tup_put f9.ob ?_
      rcases List.mem_append.mp hx with hx | hx
      · rcases List.mem_append.mp hx with hx | hx
        · exact f9.row x (List.mem_of_mem_take hx)
        · rw [List.mem_singleton.mp hx]
          exact s9.row e hm
      · exact f9.row x (List.mem_of_mem_drop hx)
    · have e7 : (F.take j.toNat ++ [e] ++ F.drop j.toNat).Perm (F ++ [e]) := by
        rw [List.append_assoc]
        refine (List.perm_append_comm.append_left _).trans ?_
        rw [← List.append_assoc, List.take_append_drop]
      rw [List.take_add_one, he]
      exact e7.trans (pm.append_right _)
  · rintro σ H8 ⟨y5, F, rfl, k8, p8, s8, f8, pm⟩
    rw [List.length_map, List.take_length] at pm
    have hF : F.length ≤ 16 := by
      rw [pm.length_eq]
      exact gS.sz
    refine ⟨_, rfl, _, rfl, (16 : Int), rfl, fo, _, rfl, SqL.of f8.ob, fun l hl => ?_⟩
    have e6 : cutV (F.map fun x => V.ref x.1) none (some 16) = F.map fun x => V.ref x.1 := by
      unfold cutV
      have h16 : HT.sIx (F.map fun x => V.ref x.1).length (F.map fun x => V.ref x.1).length (some 16) = min 16 (F.map fun x => V.ref x.1).length := HT.sIx_nat _ _ 16
      rw [HT.sIx_none, h16, List.drop_zero, Nat.sub_zero]
      refine List.take_of_length_le ?_
      rw [List.length_map]
      omega
    have g9 := same_new hl (.lst (cutV (F.map fun x => V.ref x.1) none (some 16)))
    refine q _ l F (k02.trans (k7.trans (k8.trans (.of g9)))) (p8.same g9) (p8.ne hl) ⟨by rw [upd_same, e6], fun x hx => g9 _ _ (f8.row x hx)⟩ ⟨fun z => ?_, ?_, fun x hx => gS.len x (pm.mem_iff.mp hx), hF⟩
    · rw [z] at pm
      exact gS.ne (List.nil_perm.mp pm)
    · exact (pm.map (fun x => x.2)).nodup_iff.mpr gS.nd
end
end K29

/-! K29 16: _law_case; rows and pairs as data; the plain law. -/
namespace K29
open PySem L2
open PyProof.Rows (envOfC)
/-! ### rows and pairs as data -/
def encB (r : List Bool) : PyData := .tuple (r.map .bool)
def encQ (u : List Bool × List Bool) : PyData := .tuple [encB u.1, encB u.2]
theorem eqvAll_bools : ∀ a b : List Bool, PyData.eqvAll (a.map .bool) (b.map .bool) = decide (a = b)
  | [], [] => by simp [PyData.eqvAll]
  | [], _ :: _ => by simp [PyData.eqvAll]
  | _ :: _, [] => by simp [PyData.eqvAll]
  | x :: a, y :: b => by
    rw [List.map_cons, List.map_cons]
    simp only [PyData.eqvAll, PyData.eqv]
    rw [eqvAll_bools a b]
    cases x <;> cases y <;> simp
theorem eqv_encB (a b : List Bool) : PyData.eqv (encB a) (encB b) = decide (a = b) := by
  unfold encB
  simp only [PyData.eqv]
  exact eqvAll_bools a b
theorem eqv_encQ (u v : List Bool × List Bool) : PyData.eqv (encQ u) (encQ v) = decide (u = v) := by
  obtain ⟨a, b⟩ := u
  obtain ⟨a', b'⟩ := v
  unfold encQ
  simp only [PyData.eqv, PyData.eqvAll]
  rw [eqv_encB, eqv_encB]
  by_cases h1 : a = a'
  · by_cases h2 : b = b'
    · subst h1 h2
      simp
    · simp [h2]
  · simp [h1]
theorem lay_bools : ∀ r : List Bool, PyData.canLayAll0 (r.map .bool) = true
  | [] => by simp [PyData.canLayAll0]
  | x :: r => by
    rw [List.map_cons]
    simp only [PyData.canLayAll0, PyData.canLay0]
    rw [lay_bools r]
    rfl
theorem lay_encB (r : List Bool) : (encB r).canLay0 = true := by
  unfold encB
  simp only [PyData.canLay0]
  exact lay_bools r
theorem depth_encB (r : List Bool) : (encB r).depth ≤ 1 := by
  unfold encB
  simp only [PyData.depth, depth_bools]
  decide
theorem lay_encQ (u : List Bool × List Bool) : (encQ u).canLay0 = true := by
  unfold encQ
  simp only [PyData.canLay0, PyData.canLayAll0, lay_encB]
  rfl
theorem depth_encQ (u : List Bool × List Bool) : (encQ u).depth ≤ 2 := by
  have h1 := depth_encB u.1
  have h2 := depth_encB u.2
  unfold encQ
  simp only [PyData.depth, PyData.depthAll]
  omega
theorem shaped_encB (r : List Bool) : SeqAt.shaped (encB r) = true := by
  have h := depth_encB r
  show ((encB r).canLay0 && decide ((encB r).depth ≤ 64)) = true
  rw [lay_encB, decide_eq_true (by omega)]
  rfl
theorem shaped_encQ (u : List Bool × List Bool) : SeqAt.shaped (encQ u) = true := by
  have h := depth_encQ u
  show ((encQ u).canLay0 && decide ((encQ u).depth ≤ 64)) = true
  rw [lay_encQ, decide_eq_true (by omega)]
  rfl
theorem lay_list {α : Type} {enc : α → PyData} (h : ∀ x, (enc x).canLay0 = true) : ∀ l : List α, PyData.canLayAll0 (l.map enc) = true
  | [] => by simp [PyData.canLayAll0]
  | x :: l => by
    rw [List.map_cons]
    simp only [PyData.canLayAll0]
    rw [h x, lay_list h l]
    rfl
theorem depth_list {α : Type} {enc : α → PyData} (h : ∀ x, (enc x).depth ≤ 2) : ∀ l : List α, PyData.depthAll (l.map enc) ≤ 2
  | [] => by simp [PyData.depthAll]
  | x :: l => by
    have h1 := depth_list h l
    have h2 := h x
    rw [List.map_cons]
    simp only [PyData.depthAll]
    omega
theorem shaped_list {α : Type} {enc : α → PyData} (h : ∀ x, (enc x).canLay0 = true) (h2 : ∀ x, (enc x).depth ≤ 2) (l : List α) : SeqAt.shaped (.list (l.map enc)) = true := by
  have d := depth_list h2 l
  have e : PyData.depth (.list (l.map enc)) ≤ 64 := by
    simp only [PyData.depth]
    omega
  show (PyData.canLay0 (.list (l.map enc)) && decide (PyData.depth (.list (l.map enc)) ≤ 64)) = true
  rw [decide_eq_true e, Bool.and_true]
  simp only [PyData.canLay0]
  exact lay_list h l
theorem dp_bools {K : PySem.W.Frag} {H : Hp} : ∀ r : List Bool, DpAll K H (bls r) (r.map .bool)
  | [] => .nil
  | b :: r => .cons (.bl b) (dp_bools r)
theorem dp_row {K : PySem.W.Frag} {H : Hp} {a : Addr} {r : List Bool} (h : H a = some (.tup (bls r))) : Dp K H (.ref a) (encB r) := .tup (SqT.of h) (dp_bools r)
theorem dp_pair {K : PySem.W.Frag} {H : Hp} {x : PR} (o : PairOk H x) : Dp K H (.ref x.1) (encQ (x.2.1.2, x.2.2.2)) := .tup (SqT.of o.tup) (.cons (dp_row o.one) (.cons (dp_row o.other) .nil))
theorem dp_pairs {K : PySem.W.Frag} {H : Hp} {p : Addr} {L : List PR} (r : PairsAt H p L) : Dp K H (.ref p) (.list ((pcon L).map encQ)) := by
  refine .lst (SqL.of r.ob) ?_
  have ok := r.ok
  clear r
  induction L with
  | nil => exact .nil
  | cons x t ih => exact .cons (dp_pair (ok x List.mem_cons_self)) (ih fun y hy => ok y (List.mem_cons_of_mem _ hy))
theorem dp_rows {K : PySem.W.Frag} {H : Hp} {p : Addr} {L : RL} (r : RowsAt H p L) : Dp K H (.ref p) (.list ((L.map fun x => x.2).map encB)) := by
  refine .lst (SqL.of r.ob) ?_
  have ok := r.row
  clear r
  induction L with
  | nil => exact .nil
  | cons x t ih => exact .cons (dp_row (ok x List.mem_cons_self)) (ih fun y hy => ok y (List.mem_cons_of_mem _ hy))
theorem any_enc {α : Type} [DecidableEq α] {enc : α → PyData} (he : ∀ a b, PyData.eqv (enc a) (enc b) = decide (a = b)) (l : List α) (x : α) (h : x ∈ l) : ((l.map enc).any fun z => PyData.eqv z (enc x)) = true := by
  rw [List.any_eq_true]
  exact ⟨enc x, List.mem_map.mpr ⟨x, h, rfl⟩, by rw [he, decide_eq_true rfl]⟩
theorem inV_mem {ws : List Nat} {k : Nat} : inV (.int (k : Nat)) (ws.map fun k => V.int (k : Nat)) = decide (k ∈ ws) := by
  unfold inV
  induction ws with
  | nil => rfl
  | cons x t ih =>
    rw [List.map_cons, List.any_cons, ih]
    show (((x : Nat) : Int) == ((k : Nat) : Int) || decide (k ∈ t)) = _
    by_cases e : k = x
    · subst e
      simp
    · have e2 : ¬ ((x : Int) = (k : Int)) := fun z => e (by omega)
      simp [e, e2]
theorem flat_ints (ws : List Nat) : (ws.map fun k => V.int (k : Nat)).all flatV = true := by
  rw [List.all_eq_true]
  intro x hx
  obtain ⟨k, _, rfl⟩ := List.mem_map.mp hx
  rfl
/-! ### the plain law -/
section
variable {R Rw : List (List Bool)} {f : Fn} {m k : Nat} {a b : List Bool}
/-- each pair is a loose pair -/
theorem pair_loose (hk : k < m) (hR : ∀ r ∈ R, r.length = m) (h : IsPair R f k a b) : IsLoose R f k a b := by
  obtain ⟨⟨h1, h2, h3, h4⟩, h5⟩ := h
  have hl : k < a.length := by
    rw [hR a h1]
    exact hk
  subst h4
  refine ⟨h1, h2, sway_iff.mpr h5, sway_iff.mpr ?_, h3, ?_, fun e => h5 e.symm⟩
  · rw [flip_flip hl]
    exact fun e => h5 e.symm
  · rw [flip_at hl, h3]
    rfl
theorem pair_wider (hs : ∀ r ∈ R, r ∈ Rw) (h : IsPair R f k a b) : IsPair Rw f k a b := ⟨⟨hs _ h.1.1, hs _ h.1.2.1, h.1.2.2⟩, h.2⟩
theorem loose_wider (hs : ∀ r ∈ R, r ∈ Rw) (h : IsLoose R f k a b) : IsLoose Rw f k a b := ⟨hs _ h.1, hs _ h.2.1, h.2.2⟩
/-- with all rows a row in which a wish has sway is in a pair -/
theorem sway_pair (hk : k < m) (hw : ∀ r, r ∈ Rw ↔ r.length = m) {r : List Bool} (h1 : r ∈ Rw) (h : sway f r k = true) : ∃ a b, IsPair Rw f k a b := by
  have hl : k < r.length := by
    rw [(hw r).mp h1]
    exact hk
  have hf : flip r k ∈ Rw := (hw _).mpr (by rw [flip_len]; exact (hw r).mp h1)
  have hne := sway_iff.mp h
  cases e : r.getD k false with
  | false => exact ⟨r, flip r k, ⟨h1, hf, e, rfl⟩, hne⟩
  | true => exact ⟨flip r k, r, ⟨hf, h1, by rw [flip_at hl, e]; rfl, (flip_flip hl).symm⟩, fun z => hne z.symm⟩
end
section
variable {P : Program} {w : World} {K : PySem.W.Frag} {mg : Str → Option Value} {base : Heap} {C : Addr}
/-! ### _law_case -/
def spCase : Sp := fun vs H Q _ => ∃ p, vs = [.ref p, .int 4, .int 16] ∧ PoolAt H p ∧
  ∀ H' l (m : Nat) dv z f rl (L : RL), KeepBut p H H' → H' l = some (.lst [.int (m : Int), dv, .ref rl]) → DA m H' 6 dv z f → z ≤ 60 → 1 ≤ m → m ≤ 4 → RowsAt H' rl L → GoodR m L → Q (.ref l) H'
theorem sc44 : FnScope ["_law_pool_here", "_law_wishes", "_law_most", "_law_many", "_law_decision_here"] ["_law_pool_here", "_law_wishes", "_law_most"] (C8.fnScope (top 44)) := C8.fnScope_by (by decide +kernel)
theorem ok_case (D : DefOf K mg "_law_case" (top 44) ["_law_pool_here", "_law_wishes", "_law_most"]) (cT : C8.Cal P w K mg base 1 "_law_take" spTake []) (cD : C8.Cal P w K mg base 7 "_law_decision" (spDec 6) []) (cR : C8.Cal P w K mg base 2 "_law_rows_of" spRowsOf []) :
    C8.Cal P w K mg base 8 "_law_case" spCase [] := by
  refine cal_of D sc44 (fun vs H Q E h => ?_) (fun fA cdv A outer s H vs Q E hr h => ?_)
  · obtain ⟨p, rfl, _⟩ := h
    rfl
  obtain ⟨p, rfl, hp, q⟩ := h
  refine ⟨_, pss_cons (ps_set (i := 3) sc44.nd rfl (Or.inl rfl) (pe_op op_add pe_int (C8.pe_c cT hr (by decide) (by rfl) (pa_cons (pv 0) (pa_cons (pv 1) pa_nil)))))
    (pss_cons (ps_set (i := 4) sc44.nd rfl (Or.inl rfl) (C8.pe_c cD hr (by decide) (by rfl) (pa_cons (pv 0) (pa_cons (pv 3) (pa_cons (pe_op op_add pe_int (C8.pe_c cT hr (by decide) (by rfl) (pa_cons (pv 0) (pa_cons pe_int pa_nil)))) (pa_cons (pe_op op_add pe_int (C8.pe_c cT hr (by decide) (by rfl) (pa_cons (pv 0) (pa_cons pe_int pa_nil)))) pa_nil))))))
    (pss_one (ps_ret (pe_lst (pa_cons (pv 3) (pa_cons (pv 4) (pa_cons (C8.pe_c cR hr (by decide) (by rfl) (pa_cons (pv 0) (pa_cons (pv 3) (pa_cons (pv 2) pa_nil)))) pa_nil))))))), ?_⟩
  refine ⟨_, rfl, _, rfl, p, 4, rfl, by decide, by decide, hp, fun H1 j k1 p1 j0 j4 => ⟨1, j, rfl, rfl, ?_⟩⟩
  obtain ⟨m, hm⟩ : ∃ m : Nat, (1 + j) = (m : Int) := ⟨(1 + j).toNat, by omega⟩
  refine ⟨_, rfl, _, rfl, _, rfl, p, 30, rfl, by decide, by decide, p1, fun H2 j2 k2 p2 j20 j21 => ⟨2, j2, rfl, rfl, ?_⟩⟩
  refine ⟨_, rfl, p, 5, rfl, by decide, by decide, p2, fun H3 j3 k3 p3 j30 j31 => ⟨2, j3, rfl, rfl, ?_⟩⟩
  obtain ⟨n, hn⟩ : ∃ n : Nat, (2 + j3) = (n : Int) := ⟨(2 + j3).toNat, by omega⟩
  refine ⟨p, m, 2 + j2, n, (by rw [← hm, ← hn]; rfl), p3, by omega, by omega, by omega, by omega, by omega, by omega, fun H4 v z f k4 p4 d4 hz => ?_⟩
  refine ⟨_, rfl, _, rfl, _, rfl, _, rfl, _, rfl, p, m, (by rw [← hm]; rfl), p4, by omega, by omega, fun H5 rl L k5 p5 nrl r5 gL => ?_⟩
  refine ⟨(by show 3 ≤ sizeLine; decide), fun l hl => ?_⟩
  have g6 := same_new hl (.lst [.int (1 + j), v, .ref rl])
  refine q _ l m v z f rl L (k1.trans (k2.trans (k3.trans (k4.trans (k5.trans (.of g6)))))) ?_ ((d4.mono (k5.tups p4)).same g6 |>.up (by omega)) (by omega) (by omega) (by omega) (r5.same g6) gL
  rw [upd_same, ← hm]
end
end K29

/-! K29 17: _law_wish_right. -/
namespace K29
open PySem L2
open PyProof.Rows (envOfC)
theorem room65 {A : Around} {k : Nat} (r : Room k A) : A.units + 65 < cLine := by
  have := r.un
  omega
theorem empty_iff {L : List PR} {Pr : List Bool → List Bool → Prop} (h : ∀ a b, (a, b) ∈ pcon L ↔ Pr a b) : (L.map fun x => V.ref x.1).isEmpty = true ↔ ∀ a b, ¬ Pr a b := by
  cases L with
  | nil => exact ⟨fun _ a b hab => absurd ((h a b).mpr hab) (by simp [pcon]), fun _ => rfl⟩
  | cons x t => exact ⟨fun e => (by cases e), fun hn => absurd ((h x.2.1.2 x.2.2.2).mp List.mem_cons_self) (hn _ _)⟩
section
variable {P : Program} {w : World} {K : PySem.W.Frag} {mg : Str → Option Value} {base : Heap} {C : Addr}
def spRight (P : Program) (w : World) (C : Addr) : Sp := fun vs H Q _ => ∃ p1 p2, ∃ m : Nat, ∃ f xs xw rl, ∃ L : RL, ∃ k : Nat, vs = [.ref p1, .ref p2, .ref rl, .int (k : Int)] ∧ CaseAt P w C H p1 m f xs ∧ CaseAt P w C H p2 m f xw ∧ RowsAt H rl L ∧ k < m ∧ xs.length ≤ 16 ∧ xw.length ≤ 16 ∧
  (∀ r, r ∈ rowsOf xs ↔ r ∈ L.map fun x => x.2) ∧ (∀ r, r ∈ rowsOf xw ↔ r.length = m) ∧ ∀ H', Same H H' → Q (.bl true) H'
abbrev nmR : List Str := ["_law_made", "_law_wider", "_law_rows", "_law_wish", "_law_strict", "_law_loose", "_law_one", "_law_other", "_law_word", "_law_swayed", "_law_pair", "_law_line"]
theorem sc45 : FnScope nmR ["_law_made", "_law_wider", "_law_rows", "_law_wish"] (C8.fnScope (top 45)) := C8.fnScope_by (by decide +kernel)
theorem ok_right (D : DefOf K mg "_law_wish_right" (top 45) ["_law_made", "_law_wider", "_law_rows", "_law_wish"]) (cP : C8.Cal P w K mg base 14 "pairs" (spPairs P w C) []) (cL : C8.Cal P w K mg base 15 "loose_pairs" (spLoose P w C) [])
    (cS : C8.Cal P w K mg base 15 "swaying" (spSwaying P w C) []) (cA : C8.Cal P w K mg base 15 "alone" (spAlone P w C) []) (cR : C8.Met P w K mg base 1 C "rows" (spRows P w C) []) : C8.Cal P w K mg base 16 "_law_wish_right" (spRight P w C) [] := by
  refine cal_of D sc45 (fun vs H Q E h => ?_) (fun fA cdv A outer s H vs Q E hr h => ?_)
  · obtain ⟨p1, p2, m, f, xs, xw, rl, L, k, rfl, _⟩ := h
    rfl
  obtain ⟨p1, p2, m, f, xs, xw, rl, L, k, rfl, c1, c2, rr, hk, h16, h16w, hRL, hW, q⟩ := h
  have hu := room65 hr
  refine ⟨_, pss_cons (ps_set (i := 4) sc45.nd rfl (Or.inl rfl) (C8.pe_c cP hr (by decide) (by rfl) (pa_cons (pv 0) (pa_cons (pv 3) pa_nil))))
    (pss_cons (ps_set (i := 5) sc45.nd rfl (Or.inr rfl) (C8.pe_c cL hr (by decide) (by rfl) (pa_cons (pv 0) (pa_cons (pv 3) pa_nil))))
    (pss_cons (ps_if (pt_cmpR (op_neE hr.units) (pe_lc (own := [("_law_pair", 10)]) (g := gName 10) rfl sc45.nd (pi_list (pv 4)) (blkOk_by (N := nmR) (sc := C8.fnScope (top 45)) (by decide +kernel))
        (fun _ _ _ _ _ => pg_name (i := 10) sc45.nd rfl (Or.inl rfl)) (fun _ _ _ _ _ => pts_one (pt_cmpR (r := rNotInD K) (op_notInD hu) (pv 10) (pv 5) (by rfl))) (fun _ _ _ _ _ => pv 10)) (pe_lst pa_nil) (nomark _)) (pss_one (ps_ret pe_bl)) pss_nil)
    (pss_cons (ps_if (pt_cmpR (op_neE hr.units) (pe_lc (own := [("_law_pair", 10)]) (g := gName 10) rfl sc45.nd (pi_list (pv 4)) (blkOk_by (N := nmR) (sc := C8.fnScope (top 45)) (by decide +kernel))
        (fun _ _ _ _ _ => pg_name (i := 10) sc45.nd rfl (Or.inl rfl)) (fun _ _ _ _ _ => pts_one (pt_cmpR (r := rNotInD K) (op_notInD hu) (pv 10) (C8.pe_c (sp := spPairs P w C) cP hr (by decide) (by rfl) (pa_cons (pv 1) (pa_cons (pv 3) pa_nil))) (by rfl))) (fun _ _ _ _ _ => pv 10)) (pe_lst pa_nil) (nomark _)) (pss_one (ps_ret pe_bl)) pss_nil)
    (pss_cons (ps_if (pt_cmpR (op_neE hr.units) (pe_lc (own := [("_law_pair", 10)]) (g := gName 10) rfl sc45.nd (pi_list (pv 5)) (blkOk_by (N := nmR) (sc := C8.fnScope (top 45)) (by decide +kernel))
        (fun _ _ _ _ _ => pg_name (i := 10) sc45.nd rfl (Or.inl rfl)) (fun _ _ _ _ _ => pts_one (pt_cmpR (r := rNotInD K) (op_notInD hu) (pv 10) (C8.pe_c (sp := spLoose P w C) cL hr (by decide) (by rfl) (pa_cons (pv 1) (pa_cons (pv 3) pa_nil))) (by rfl))) (fun _ _ _ _ _ => pv 10)) (pe_lst pa_nil) (nomark _)) (pss_one (ps_ret pe_bl)) pss_nil)
    (pss_cons (ps_if (pt_cmpR (op_neE hr.units) (pe_lc (own := [("_law_pair", 10)]) (g := gName 10) rfl sc45.nd (pi_list (pv 5)) (blkOk_by (N := nmR) (sc := C8.fnScope (top 45)) (by decide +kernel))
        (fun _ _ _ _ _ => pg_name (i := 10) sc45.nd rfl (Or.inl rfl))
        (fun _ _ _ _ _ => pts_one (PW.pt (pw_or (pt_cmpR (r := rNotInD K) (op_notInD hu) (pe_ix (r := rIxT K) ix_tup (pv 10) pe_int (fun _ _ => rfl)) (pv 2) (by rfl)) (pw_or1 (pt_cmpR (r := rNotInD K) (op_notInD hu) (pe_ix (r := rIxT K) ix_tup (pv 10) pe_int (fun _ _ => rfl)) (pv 2) (by rfl)))))) (fun _ _ _ _ _ => pv 10)) (pe_lst pa_nil) (nomark _)) (pss_one (ps_ret pe_bl)) pss_nil)
    (pss_cons (ps_if (pt_cmpR op_ne (pe_cmpR (op_eqE hr.units) (C8.pe_c cL hr (by decide) (by rfl) (pa_cons (pv 1) (pa_cons (pv 3) pa_nil))) (pe_lst pa_nil) (nomark _)) (pe_cmpR (op_eqE hr.units) (C8.pe_c cP hr (by decide) (by rfl) (pa_cons (pv 1) (pa_cons (pv 3) pa_nil))) (pe_lst pa_nil) (nomark _)) (nomark _)) (pss_one (ps_ret pe_bl)) pss_nil)
    (pss_cons (ps_for PassesOwn.never rfl (pi_list (pv 5)) (pg_tup rfl (pgs_cons (pg_name (i := 6) sc45.nd rfl (Or.inl rfl)) (pgs_cons (pg_name (i := 7) sc45.nd rfl (Or.inl rfl)) pgs_nil)))
      (pss_one (ps_if (PW.pt (pw_or (pt_cmpR op_notIn_seq (pv 3) (C8.pe_c cS hr (by decide) (by rfl) (pa_cons (pv 0) (pa_cons (pv 6) pa_nil))) (by rfl)) (pw_or1 (pt_cmpR op_notIn_seq (pv 3) (C8.pe_c cS hr (by decide) (by rfl) (pa_cons (pv 0) (pa_cons (pv 7) pa_nil))) (by rfl))))) (pss_one (ps_ret pe_bl)) pss_nil)))
    (pss_cons (ps_set (i := 8) sc45.nd rfl (Or.inl rfl) (pe_ix ix_tup (C8.pe_c cA hr (by decide) (by rfl) (pa_cons (pv 1) (pa_cons (pv 3) pa_nil))) pe_int (fun _ _ => rfl)))
    (pss_cons (ps_setLc (i := 9) (own := [("_law_line", 11)]) (g := gName 11) rfl sc45.nd rfl rfl (sw_true rfl rfl rfl (by decide +kernel)) (pi_list (C8.pe_mt0 cR hr (by decide) (pv 1))) (blkOk_by (N := nmR) (sc := C8.fnScope (top 45)) (by decide +kernel))
      (fun _ _ _ _ _ => pg_name (i := 11) sc45.nd rfl (Or.inl rfl)) (fun _ _ _ _ _ => pts_one (pt_cmpR (r := rIn K false) op_in_seq (pv 3) (C8.pe_c (sp := spSwaying P w C) cS hr (by decide) (by rfl) (pa_cons (pv 1) (pa_cons (pv 11) pa_nil))) (by rfl))) (fun _ _ _ _ _ => pv 11))
    (pss_one (ps_ret (pe_and (pe_cmpR op_eq (pe_cmpR op_eq (pv 8) pe_str (nomark _)) (pe_cmpR (op_eqE hr.units) (pv 9) (pe_lst pa_nil) (nomark _)) (nomark _))
      (pe_one (pe_cmpR op_eq (pe_cmpR op_eq (pv 8) pe_str (nomark _)) (pe_cmpR (op_eqE hr.units) (C8.pe_c cP hr (by decide) (by rfl) (pa_cons (pv 1) (pa_cons (pv 3) pa_nil))) (pe_lst pa_nil) (nomark _)) (nomark _))))))))))))))), ?_⟩
  -- plain facts
  have lenR : ∀ r ∈ rowsOf xs, r.length = m := fun r hr => by
    obtain ⟨x, hx, rfl⟩ := List.mem_map.mp hr
    exact c1.len x hx
  have sub : ∀ r ∈ rowsOf xs, r ∈ rowsOf xw := fun r hr => (hW r).mpr (lenR r hr)
  have lenW : ∀ r ∈ rowsOf xw, r.length = m := fun r hr => (hW r).mp hr
  obtain ⟨dx2, dv2, d2, z2, hp2, _, _⟩ := c2.ex
  -- strict, loose
  refine ⟨_, rfl, _, rfl, p1, m, f, xs, k, rfl, c1, hk, by omega, fun H1 sl SL _ g1 ps hps hsl => ?_⟩
  refine ⟨_, rfl, _, rfl, p1, m, f, xs, k, rfl, c1.same g1, hk, h16, fun H2 ll LL _ g2 pl hpl hll => ?_⟩
  have ps2 := ps.same g2
  have g02 := g1.trans g2
  -- first
  refine ⟨_, rfl, sl, rfl, ⟨_, SqL.of ps2.ob⟩, fun D1 hD1 => ?_⟩
  refine lc_list (K := K) (a := sl) (xs := SL.map fun x => V.ref x.1) (fun i H3 => Same H2 H3 ∧ H3 D1 = some (.lst [])) ⟨same_new hD1 _, upd_same⟩ (fun i H3 _ ⟨g, _⟩ => SqL.of (g _ _ ps2.ob)) ?_ ?_
  · rintro i x H3 hx ⟨g3, hd⟩
    obtain ⟨e, he, rfl, hm, hi⟩ := pr_at hx
    have hin : (e.2.1.2, e.2.2.2) ∈ pcon LL := (hpl _ _).mpr (pair_loose hk lenR ((hps _ _).mp (List.mem_map.mpr ⟨e, hm, rfl⟩)))
    refine ⟨rfl, ?_⟩
    refine ⟨_, rfl, _, rfl, encQ (e.2.1.2, e.2.2.2), (pcon LL).map encQ, dp_pair ((ps2.ok e hm).tups (.of g3)), dp_pairs (pl.same g3), shaped_encQ _, shaped_list lay_encQ depth_encQ _, false, ?_, ?_⟩
    · rw [any_enc eqv_encQ _ _ hin]
      rfl
    refine iteF ?_
    exact ⟨g3, hd⟩
  rintro H3 ⟨g3, hd3⟩
  refine ⟨Nat.zero_le _, fun e3 he3 => ?_⟩
  have g4 := g3.trans (same_new he3 (.lst []))
  refine ⟨D1, e3, [], rfl, rfl, SqL.of ((same_new he3 _) _ _ hd3), SqL.of upd_same, false, rfl, ?_⟩
  refine iteF ?_
  generalize upd H3 e3 (.lst []) = H4 at g4 ⊢
  have ps4 := ps2.same g4
  have pl4 := pl.same g4
  have c14 := c1.same (g02.trans g4)
  have c24 := c2.same (g02.trans g4)
  -- second
  refine ⟨_, rfl, sl, rfl, ⟨_, SqL.of ps4.ob⟩, fun D2 hD2 => ?_⟩
  refine lc_list (K := K) (a := sl) (xs := SL.map fun x => V.ref x.1) (fun i H5 => Same H4 H5 ∧ H5 D2 = some (.lst [])) ⟨same_new hD2 _, upd_same⟩ (fun i H5 _ ⟨g, _⟩ => SqL.of (g _ _ ps4.ob)) ?_ ?_
  · rintro i x H5 hx ⟨g5, hd⟩
    obtain ⟨e, he, rfl, hm, hi⟩ := pr_at hx
    refine ⟨rfl, ?_⟩
    refine ⟨_, rfl, _, rfl, _, rfl, p2, m, f, xw, k, rfl, c24.same g5, hk, by omega, fun H6 l6 L6 _ g6 p6 hp6 _ => ?_⟩
    have hin : (e.2.1.2, e.2.2.2) ∈ pcon L6 := (hp6 _ _).mpr (pair_wider sub ((hps _ _).mp (List.mem_map.mpr ⟨e, hm, rfl⟩)))
    refine ⟨encQ (e.2.1.2, e.2.2.2), (pcon L6).map encQ, dp_pair ((ps4.ok e hm).tups (.of (g5.trans g6))), dp_pairs p6, shaped_encQ _, shaped_list lay_encQ depth_encQ _, false, ?_, ?_⟩
    · rw [any_enc eqv_encQ _ _ hin]
      rfl
    refine iteF ?_
    exact ⟨g5.trans g6, g6 _ _ hd⟩
  rintro H5 ⟨g5, hd5⟩
  refine ⟨Nat.zero_le _, fun e5 he5 => ?_⟩
  have g6 := g5.trans (same_new he5 (.lst []))
  refine ⟨D2, e5, [], rfl, rfl, SqL.of ((same_new he5 _) _ _ hd5), SqL.of upd_same, false, rfl, ?_⟩
  refine iteF ?_
  generalize upd H5 e5 (.lst []) = H6 at g6 ⊢
  have pl6 := pl4.same g6
  have c16 := c14.same g6
  have c26 := c24.same g6
  have g06 := g02.trans (g4.trans g6)
  -- third
  refine ⟨_, rfl, ll, rfl, ⟨_, SqL.of pl6.ob⟩, fun D3 hD3 => ?_⟩
  refine lc_list (K := K) (a := ll) (xs := LL.map fun x => V.ref x.1) (fun i H7 => Same H6 H7 ∧ H7 D3 = some (.lst [])) ⟨same_new hD3 _, upd_same⟩ (fun i H7 _ ⟨g, _⟩ => SqL.of (g _ _ pl6.ob)) ?_ ?_
  · rintro i x H7 hx ⟨g7, hd⟩
    obtain ⟨e, he, rfl, hm, hi⟩ := pr_at hx
    refine ⟨rfl, ?_⟩
    refine ⟨_, rfl, _, rfl, _, rfl, p2, m, f, xw, k, rfl, c26.same g7, hk, h16w, fun H8 l8 L8 _ g8 p8 hp8 _ => ?_⟩
    have hin : (e.2.1.2, e.2.2.2) ∈ pcon L8 := (hp8 _ _).mpr (loose_wider sub ((hpl _ _).mp (List.mem_map.mpr ⟨e, hm, rfl⟩)))
    refine ⟨encQ (e.2.1.2, e.2.2.2), (pcon L8).map encQ, dp_pair ((pl6.ok e hm).tups (.of (g7.trans g8))), dp_pairs p8, shaped_encQ _, shaped_list lay_encQ depth_encQ _, false, ?_, ?_⟩
    · rw [any_enc eqv_encQ _ _ hin]
      rfl
    refine iteF ?_
    exact ⟨g7.trans g8, g8 _ _ hd⟩
  rintro H7 ⟨g7, hd7⟩
  refine ⟨Nat.zero_le _, fun e7 he7 => ?_⟩
  have g8 := g7.trans (same_new he7 (.lst []))
  refine ⟨D3, e7, [], rfl, rfl, SqL.of ((same_new he7 _) _ _ hd7), SqL.of upd_same, false, rfl, ?_⟩
  refine iteF ?_
  generalize upd H7 e7 (.lst []) = H8 at g8 ⊢
  have pl8 := pl6.same g8
  have c18 := c16.same g8
  have c28 := c26.same g8
  have g08 := g06.trans g8
  have rr8 := rr.same g08
  -- fourth
  refine ⟨_, rfl, ll, rfl, ⟨_, SqL.of pl8.ob⟩, fun D4 hD4 => ?_⟩
  refine lc_list (K := K) (a := ll) (xs := LL.map fun x => V.ref x.1) (fun i H9 => Same H8 H9 ∧ H9 D4 = some (.lst [])) ⟨same_new hD4 _, upd_same⟩ (fun i H9 _ ⟨g, _⟩ => SqL.of (g _ _ pl8.ob)) ?_ ?_
  · rintro i x H9 hx ⟨g9, hd⟩
    obtain ⟨e, he, rfl, hm, hi⟩ := pr_at hx
    have il := (hpl e.2.1.2 e.2.2.2).mp (List.mem_map.mpr ⟨e, hm, rfl⟩)
    have oe := (pl8.ok e hm).tups (.of g9)
    have rr9 := rr8.same g9
    refine ⟨rfl, ?_⟩
    refine ⟨_, rfl, e.1, _, 0, _, rfl, rfl, SqT.of oe.tup, atI_nat (j := 0) rfl, _, rfl, encB e.2.1.2, (L.map fun x => x.2).map encB, dp_row oe.one, dp_rows rr9, shaped_encB _, shaped_list lay_encB (fun x => Nat.le_succ_of_le (depth_encB x)) _, false, ?_, ?_⟩
    · rw [any_enc eqv_encB _ _ ((hRL _).mp il.1)]
      rfl
    refine iteF ?_
    refine ⟨_, rfl, e.1, _, 1, _, rfl, rfl, SqT.of oe.tup, atI_nat (j := 1) rfl, _, rfl, encB e.2.2.2, (L.map fun x => x.2).map encB, dp_row oe.other, dp_rows rr9, shaped_encB _, shaped_list lay_encB (fun x => Nat.le_succ_of_le (depth_encB x)) _, false, ?_, ?_⟩
    · rw [any_enc eqv_encB _ _ ((hRL _).mp il.2.1)]
      rfl
    refine iteF ?_
    exact ⟨g9, hd⟩
  rintro H9 ⟨g9, hd9⟩
  refine ⟨Nat.zero_le _, fun e9 he9 => ?_⟩
  have g10 := g9.trans (same_new he9 (.lst []))
  refine ⟨D4, e9, [], rfl, rfl, SqL.of ((same_new he9 _) _ _ hd9), SqL.of upd_same, false, rfl, ?_⟩
  refine iteF ?_
  generalize upd H9 e9 (.lst []) = H10 at g10 ⊢
  have pl10 := pl8.same g10
  have c110 := c18.same g10
  have c210 := c28.same g10
  have g010 := g08.trans g10
  -- fifth
  refine ⟨_, rfl, _, rfl, p2, m, f, xw, k, rfl, c210, hk, h16w, fun H11 l11 L11 _ g11 p11 hp11 _ => ?_⟩
  refine ⟨Nat.zero_le _, fun e11 he11 => ?_⟩
  have ga := same_new he11 (.lst [])
  refine ⟨l11, e11, _, rfl, rfl, SqL.of (ga _ _ p11.ob), SqL.of upd_same, ?_⟩
  refine ⟨_, rfl, _, rfl, p2, m, f, xw, k, rfl, c210.same (g11.trans ga), hk, by omega, fun H12 l12 L12 _ g12 p12 hp12 _ => ?_⟩
  refine ⟨Nat.zero_le _, fun e12 he12 => ?_⟩
  have gb := same_new he12 (.lst [])
  refine ⟨l12, e12, _, rfl, rfl, SqL.of (gb _ _ p12.ob), SqL.of upd_same, rfl, ?_⟩
  have hEq : (L11.map fun x => V.ref x.1).isEmpty = (L12.map fun x => V.ref x.1).isEmpty := by
    rw [Bool.eq_iff_iff, empty_iff hp11, empty_iff hp12]
    constructor
    · intro hn a b hab
      exact hn a b (pair_loose hk lenW hab)
    · intro hn a b hab
      obtain ⟨a', b', h'⟩ := sway_pair hk hW hab.1 hab.2.2.1
      exact hn a' b' h'
  refine ⟨_, rfl, ?_⟩
  rw [hEq, decide_eq_true rfl]
  refine iteF ?_
  have g13 : Same H10 (upd H12 e12 (.lst [])) := g11.trans (ga.trans (g12.trans gb))
  generalize upd H12 e12 (.lst []) = H13 at g13 ⊢
  have pl13 := pl10.same g13
  have c113 := c110.same g13
  have c213 := c210.same g13
  have g013 := g010.trans g13
  -- the loop
  refine ⟨_, rfl, ll, rfl, ⟨_, SqL.of pl13.ob⟩, ?_⟩
  refine for_list (K := K) (a := ll) (xs := LL.map fun x => V.ref x.1) (fun i σ H14 => ∃ y6 y7, σ = [some (.ref p1), some (.ref p2), some (.ref rl), some (.int (k : Nat)), some (.ref sl), some (.ref ll), y6, y7, none, none, none, none] ∧ Same H13 H14)
    ⟨none, none, rfl, Same.refl _⟩ (fun i σ H14 _ ⟨_, _, _, g⟩ => SqL.of (g _ _ pl13.ob)) ?_ ?_
  · rintro i x σ H14 hx ⟨y6, y7, rfl, g14⟩
    obtain ⟨e, he, rfl, hm, hi⟩ := pr_at hx
    have il := (hpl e.2.1.2 e.2.2.2).mp (List.mem_map.mpr ⟨e, hm, rfl⟩)
    have oe := (pl13.ok e hm).tups (.of g14)
    refine ⟨e.1, _, rfl, SqT.of oe.tup, rfl, _, _, rfl, _, _, rfl, rfl, ?_⟩
    refine ⟨_, rfl, _, rfl, _, rfl, p1, m, f, xs, e.2.1.1, e.2.1.2, rfl, c113.same g14, oe.one, lenR _ il.1, fun H15 l15 g15 h15 => ?_⟩
    refine ⟨l15, _, rfl, .inl (SqL.of h15), rfl, flat_ints _, false, ?_, ?_⟩
    · rw [inV_mem, decide_eq_true (List.mem_filter.mpr ⟨List.mem_range.mpr hk, il.2.2.1⟩)]
      rfl
    refine iteF ?_
    refine ⟨_, rfl, _, rfl, _, rfl, p1, m, f, xs, e.2.2.1, e.2.2.2, rfl, c113.same (g14.trans g15), g15 _ _ oe.other, lenR _ il.2.1, fun H16 l16 g16 h16 => ?_⟩
    refine ⟨l16, _, rfl, .inl (SqL.of h16), rfl, flat_ints _, false, ?_, ?_⟩
    · rw [inV_mem, decide_eq_true (List.mem_filter.mpr ⟨List.mem_range.mpr hk, il.2.2.2.1⟩)]
      rfl
    refine iteF ?_
    exact ⟨_, _, rfl, g14.trans (g15.trans g16)⟩
  rintro σ H14 ⟨y6, y7, rfl, g14⟩
  have c214 := c213.same g14
  have hp214 : H14 p2 = _ := g14 _ _ (g013 _ _ hp2)
  -- alone
  refine ⟨_, rfl, _, rfl, p2, m, f, xw, k, rfl, c214, hk, by omega, fun H15 t15 wd rest g15 h15 hwd => ?_⟩
  refine ⟨t15, _, 0, .str wd, rfl, rfl, SqT.of h15, atI_nat (j := 0) rfl, ?_⟩
  -- swayed
  have c215 := c214.same g15
  refine ⟨_, rfl, p2, dx2, _, rfl, g15 _ _ hp214, cf_no no_rows.1 no_rows.2.1 no_rows.2.2, p2, m, f, xw, rfl, c215, fun H16 l16 _ g16 r16 => ⟨l16, rfl, ⟨_, SqL.of r16.ob⟩, fun D5 hD5 => ?_⟩⟩
  have c216 := c215.same g16
  refine lc_list (K := K) (a := l16) (xs := (rlOf xw).map fun x => V.ref x.1) (fun i H17 => Same H16 H17 ∧ ∃ zs : List V, H17 D5 = some (.lst zs) ∧ zs.length ≤ i ∧ (zs.isEmpty = true ↔ ∀ x ∈ (rlOf xw).take i, sway f x.2 k = false))
    ⟨same_new hD5 _, [], upd_same, Nat.le_refl _, fun _ x hx => absurd hx (by simp), fun _ => rfl⟩ (fun i H17 _ ⟨g, _⟩ => SqL.of (g _ _ r16.ob)) ?_ ?_
  · rintro i x H17 hx ⟨g17, zs, hd, hzl, hze⟩
    obtain ⟨e, he, rfl, hm, hi⟩ := ref_at hx
    have et : (rlOf xw).take (i + 1) = (rlOf xw).take i ++ [e] := by rw [List.take_add_one, he]; rfl
    have hxl : (rlOf xw).length = xw.length := List.length_map _
    have hel : e.2.length = m := by
      obtain ⟨y, hy, rfl⟩ := List.mem_map.mp hm
      exact c2.len y hy
    refine ⟨rfl, ?_⟩
    refine ⟨_, rfl, _, rfl, _, rfl, p2, m, f, xw, e.1, e.2, rfl, c216.same g17, g17 _ _ (r16.row e hm), hel, fun H18 l18 g18 h18 => ?_⟩
    refine ⟨l18, _, rfl, .inl (SqL.of h18), rfl, flat_ints _, _, rfl, ?_⟩
    show if (inV (V.int (k : Nat)) (((List.range m).filter fun k => sway f e.2 k).map fun k => V.int (k : Nat))) = true then _ else _
    rw [inV_mem]
    cases es : sway f e.2 k with
    | true =>
      rw [decide_eq_true (List.mem_filter.mpr ⟨List.mem_range.mpr hk, es⟩)]
      refine iteT ?_
      refine ⟨_, rfl, zs, g18 _ _ hd, small1000 (by omega), same_put (g17.trans g18) hD5 _, _, upd_same, ?_, ?_⟩
      · rw [List.length_append]
        show zs.length + 1 ≤ i + 1
        omega
      · rw [et]
        constructor
        · intro z
          cases zs <;> cases z
        · intro hn
          have := hn e (List.mem_append.mpr (.inr (List.mem_singleton.mpr rfl)))
          rw [es] at this
          cases this
    | false =>
      rw [decide_eq_false (fun z => by
        have := (List.mem_filter.mp z).2
        rw [es] at this
        cases this)]
      refine iteF ?_
      refine ⟨g17.trans g18, zs, g18 _ _ hd, by omega, ?_⟩
      rw [hze, et]
      constructor
      · intro hn x hx
        rcases List.mem_append.mp hx with hx | hx
        · exact hn x hx
        · rw [List.mem_singleton.mp hx]
          exact es
      · intro hn x hx
        exact hn x (List.mem_append.mpr (.inl hx))
  rintro H17 ⟨g17, zs, hd, hzl, hze⟩
  rw [List.length_map, List.take_length] at hze
  have c217 := c216.same g17
  -- the end
  have noP : zs.isEmpty = true ↔ ∀ a b, ¬ IsPair (rowsOf xw) f k a b := by
    rw [hze]
    constructor
    · intro hn a b hab
      obtain ⟨y, hy, rfl⟩ := List.mem_map.mp hab.1.1
      have h1 := hn (y.2.1, y.1) (List.mem_map.mpr ⟨y, hy, rfl⟩)
      have h2 := (pair_loose hk lenW hab).2.2.1
      rw [h1] at h2
      cases h2
    · intro hn x hx
      cases es : sway f x.2 k with
      | false => rfl
      | true =>
        obtain ⟨y, hy, rfl⟩ := List.mem_map.mp hx
        obtain ⟨a, b, hab⟩ := sway_pair hk hW (List.mem_map.mpr ⟨y, hy, rfl⟩) es
        exact absurd hab (hn a b)
  have wdE : decide (V.str wd = V.str "table") = zs.isEmpty := by
    rcases hwd with ⟨rfl, a, b, hab⟩ | ⟨rfl, hn⟩
    · have e1 : decide (V.str (Str.ofString "pair") = V.str (Str.ofString "table")) = false := by decide +kernel
      rw [e1]
      cases ez : zs.isEmpty with
      | false => rfl
      | true => exact absurd hab (noP.mp ez a b)
    · rw [decide_eq_true rfl]
      exact (noP.mpr hn).symm
  refine ⟨_, rfl, rfl, _, rfl, Nat.zero_le _, fun e17 he17 => ?_⟩
  have gc := same_new he17 (.lst [])
  refine ⟨D5, e17, zs, rfl, rfl, SqL.of (gc _ _ hd), SqL.of upd_same, rfl, _, rfl, ?_⟩
  rw [wdE, decide_eq_true rfl]
  refine iteT ?_
  refine ⟨_, rfl, rfl, _, rfl, _, rfl, p2, m, f, xw, k, rfl, c217.same gc, hk, by omega, fun H18 l18 L18 _ g18 p18 hp18 _ => ?_⟩
  refine ⟨Nat.zero_le _, fun e18 he18 => ?_⟩
  have gd := same_new he18 (.lst [])
  refine ⟨l18, e18, _, rfl, rfl, SqL.of (gd _ _ p18.ob), SqL.of upd_same, rfl, ?_⟩
  have hEnd : zs.isEmpty = (L18.map fun x => V.ref x.1).isEmpty := by
    rw [Bool.eq_iff_iff, noP, empty_iff hp18]
  rw [wdE, hEnd, decide_eq_true rfl]
  exact q _ (g013.trans (g14.trans (g15.trans (g16.trans (g17.trans (gc.trans (g18.trans gd)))))))
end
end K29

/-! K29 18: law; all defs together. -/
namespace K29
open PySem L2
open PyProof.Rows (envOfC)
theorem sql_keep {K : PySem.W.Frag} {H H1 H' : Hp} {a p : Addr} {xs : List V} (h : SqL K H a xs) (hn : H p = none) (s : Same H H1) (k : KeepBut p H1 H') : SqL K H' a xs := by
  have go : ∀ {b : Addr} {u : HO}, H b = some u → H' b = some u := fun q => k _ _ (s _ _ q) (ne_of_none q hn)
  exact h.imp (fun k => k.imp go fun k => k.imp fun _ => go) id
section
variable {P : Program} {w : World} {K : PySem.W.Frag} {mg : Str → Option Value} {base : Heap} {C : Addr}
def spLaw (K : PySem.W.Frag) : Sp := fun vs H Q _ => ∃ a, ∃ ns : List Int, vs = [.ref a] ∧ SqL K H a (ns.map V.int) ∧ ns.length ≤ 63 ∧ ∀ H', Q (.bl true) H'
abbrev nmL : List Str := ["_law_script", "_law_k", "_law_pool_here", "_law_case_here", "_law_made", "_law_wider", "_law_wish"]
theorem sc46 : FnScope nmL ["_law_script"] (C8.fnScope (top 46)) := C8.fnScope_by (by decide +kernel)
theorem ok_law {f : Addr} {fd : FuncData} (F : C8.Fun K "law" "law" (top 46) f fd) (T : Txt K mg C) (cP : C8.Cal P w K mg base 1 "_law_pool" (spPool K) []) (cC : C8.Cal P w K mg base 8 "_law_case" spCase [])
    (cM : C8.Mak P w K mg base 17 "Case" C (spInit P w C) []) (cN : C8.Mak P w K mg base 17 "Case" C (spInit P w C) [.non]) (cR : C8.Cal P w K mg base 16 "_law_wish_right" (spRight P w C) []) : FnOk P w K mg base C8.CX0 19 f fd ["_law_script"] (spLaw K) := by
  refine C8.fn0 F sc46 (fun vs H Q E h => ?_) (fun cdv A outer s H vs Q E hr h => ?_)
  · obtain ⟨a, ns, rfl, _⟩ := h
    rfl
  obtain ⟨a, ns, rfl, hs, h63, q⟩ := h
  refine ⟨_, pss_cons (ps_for PassesOwn.never rfl (pi_range1 rfl T.range (pa_cons (pe_callB (call_max2 rfl) (by rfl) T.max (by decide +kernel) (pa_cons pe_int (pa_cons (pe_callB (call_min2 rfl) (by rfl) T.min (by decide +kernel) (pa_cons pe_int (pa_cons (pe_len T.len (pv 0)) pa_nil))) pa_nil))) pa_nil)) (pg_name (i := 1) sc46.nd rfl (Or.inl rfl))
      (pss_cons (ps_set (i := 2) sc46.nd rfl (Or.inl rfl) (C8.pe_c cP hr (by decide) (by rfl) (pa_cons (pv 0) (pa_cons (pv 1) pa_nil))))
      (pss_cons (ps_set (i := 3) sc46.nd rfl (Or.inl rfl) (C8.pe_c cC hr (by decide) (by rfl) (pa_cons (pv 2) (pa_cons pe_int (pa_cons pe_int pa_nil)))))
      (pss_cons (ps_set (i := 4) sc46.nd rfl (Or.inl rfl) (C8.pe_mk cM hr (by decide) (by rfl) (pa_cons (pe_ix ix_list (pv 3) pe_int (fun _ _ => rfl)) (pa_cons (pe_ix ix_list (pv 3) pe_int (fun _ _ => rfl)) (pa_cons (pe_ix ix_list (pv 3) pe_int (fun _ _ => rfl)) pa_nil)))))
      (pss_cons (ps_set (i := 5) sc46.nd rfl (Or.inl rfl) (C8.pe_mk cN hr (by decide) (by rfl) (pa_cons (pe_ix ix_list (pv 3) pe_int (fun _ _ => rfl)) (pa_cons (pe_ix ix_list (pv 3) pe_int (fun _ _ => rfl)) pa_nil))))
      (pss_one (ps_for PassesOwn.never rfl (pi_range1 rfl T.range (pa_cons (pe_ix ix_list (pv 3) pe_int (fun _ _ => rfl)) pa_nil)) (pg_name (i := 6) sc46.nd rfl (Or.inl rfl))
        (pss_one (ps_if (pt_not (pt_val (C8.pe_c cR hr (by decide) (by rfl) (pa_cons (pv 4) (pa_cons (pv 5) (pa_cons (pe_ix ix_list (pv 3) pe_int (fun _ _ => rfl)) (pa_cons (pv 6) pa_nil))))))) (pss_one (ps_ret pe_bl)) pss_nil)))))))))
    (pss_one (ps_ret pe_bl)), ?_⟩
  refine ⟨_, rfl, a, _, rfl, .inl hs, 10, _, rfl, 1, _, rfl, _, rfl, ?_, ?_, ?_⟩
  · show -(2 ^ 62) ≤ (if _ > (1 : Int) then (if _ < (10 : Int) then _ else (10 : Int)) else (1 : Int))
    split
    · split <;> omega
    · omega
  · show (if _ > (1 : Int) then (if _ < (10 : Int) then _ else (10 : Int)) else (1 : Int)) < 2 ^ 62
    split
    · split <;> omega
    · omega
  have hb : (if (if ((ns.map V.int).length : Int) < 10 then ((ns.map V.int).length : Int) else 10) > 1 then (if ((ns.map V.int).length : Int) < 10 then ((ns.map V.int).length : Int) else 10) else (1 : Int)) ≤ 10 := by
    split
    · split <;> omega
    · omega
  generalize hN : (if (if ((ns.map V.int).length : Int) < 10 then ((ns.map V.int).length : Int) else 10) > 1 then (if ((ns.map V.int).length : Int) < 10 then ((ns.map V.int).length : Int) else 10) else (1 : Int)) = N at hb ⊢
  refine for_range (lo := 0) (n := N.toNat) (fun i σ H1 => ∃ y1 y2 y3 y4 y5 y6, σ = [some (.ref a), y1, y2, y3, y4, y5, y6] ∧ SqL K H1 a (ns.map V.int)) ⟨none, none, none, none, none, none, rfl, hs⟩ ?_ ?_
  · rintro i σ H1 hi ⟨y1, y2, y3, y4, y5, y6, rfl, s1⟩
    -- the pool
    refine ⟨_, rfl, _, rfl, a, ns, 0 + (i : Nat), rfl, s1, by omega, by omega, fun H2 p np g2 p2 => ?_⟩
    -- the case's parts
    refine ⟨_, rfl, p, rfl, p2, fun H3 l m dv z fD rl L k3 hl hd hz h1 h4 rr gL => ?_⟩
    have s3 : SqL K H3 a (ns.map V.int) := sql_keep s1 np g2 k3
    have p24 := pow4 h1 h4
    have gsz := gL.sz
    -- made
    refine ⟨_, rfl, l, _, 0, .int (m : Int), rfl, rfl, SqL.of hl, atI_nat (j := 0) rfl, ?_⟩
    refine ⟨_, rfl, l, _, 1, dv, rfl, rfl, SqL.of hl, atI_nat (j := 1) rfl, ?_⟩
    refine ⟨_, rfl, l, _, 2, .ref rl, rfl, rfl, SqL.of hl, atI_nat (j := 2) rfl, ?_⟩
    intro x dx nx ndx nex
    have ga : Same H3 (upd (upd H3 dx (.own x)) x (.ins C dx [])) := fun b o e => by
      rw [upd_ne (ne_of_none e nx), upd_ne (ne_of_none e ndx)]
      exact e
    refine ⟨x, dx, m, dv, z, fD, .ref rl, L.map fun y => y.2, rfl, upd_same, h1, by omega, hd.same ga, hz, .inr ⟨rl, L, rfl, rr.same ga, gL.ne, gL.nd, gL.len, by omega, rfl⟩, fun H4 xs kb c4 mem4 len4 => ⟨rfl, ?_⟩⟩
    have g4 : Same H3 H4 := Same.made nx ndx kb
    rw [List.length_map] at len4
    -- wider
    refine ⟨_, rfl, l, _, 0, .int (m : Int), rfl, rfl, SqL.of (g4 _ _ hl), atI_nat (j := 0) rfl, ?_⟩
    refine ⟨_, rfl, l, _, 1, dv, rfl, rfl, SqL.of (g4 _ _ hl), atI_nat (j := 1) rfl, ?_⟩
    intro x2 dx2 nx2 ndx2 nex2
    have gb : Same H4 (upd (upd H4 dx2 (.own x2)) x2 (.ins C dx2 [])) := fun b o e => by
      rw [upd_ne (ne_of_none e nx2), upd_ne (ne_of_none e ndx2)]
      exact e
    refine ⟨x2, dx2, m, dv, z, fD, .non, allR m, rfl, upd_same, h1, by omega, hd.same (g4.trans gb), hz, .inl ⟨rfl, rfl⟩, fun H5 xw kb5 c5 mem5 len5 => ⟨rfl, ?_⟩⟩
    have g5 : Same H4 H5 := Same.made nx2 ndx2 kb5
    rw [len_allR] at len5
    have g35 := g4.trans g5
    -- each wish
    refine ⟨_, rfl, l, _, 0, .int (m : Int), rfl, rfl, SqL.of (g35 _ _ hl), atI_nat (j := 0) rfl, (m : Int), rfl, by omega, by omega, ?_⟩
    rw [Int.toNat_natCast]
    refine for_range (lo := 0) (n := m) (fun j σ H6 => ∃ y6, σ = [some (.ref a), some (.int (0 + (i : Nat))), some (.ref p), some (.ref l), some (.ref x), some (.ref x2), y6] ∧ Same H5 H6) ⟨_, rfl, Same.refl _⟩ ?_ ?_
    · rintro j σ H6 hj ⟨y6, rfl, g6⟩
      have ej : (0 : Int) + (j : Nat) = (j : Nat) := Int.zero_add _
      rw [ej]
      refine ⟨_, rfl, _, rfl, _, rfl, l, _, 2, .ref rl, rfl, rfl, SqL.of (g6 _ _ (g35 _ _ hl)), atI_nat (j := 2) rfl, _, rfl, x, x2, m, fD, xs, xw, rl, L, j, rfl, c4.same (g5.trans g6), c5.same g6, rr.same (g35.trans g6), hj, by omega, by omega, mem4, fun r => (mem5 r).trans mem_allR, fun H7 g7 => ⟨true, rfl, ?_⟩⟩
      refine iteF ?_
      exact ⟨_, rfl, g6.trans g7⟩
    · rintro σ H6 ⟨y6, rfl, g6⟩
      exact ⟨_, _, _, _, _, _, rfl, (g35.trans g6).seq s3⟩
  · rintro σ H1 ⟨y1, y2, y3, y4, y5, y6, rfl, s1⟩
    exact q _
/-! ### all defs of the text -/
structure Top (K : PySem.W.Frag) (mg : Str → Option Value) (C : Addr) : Prop where
  T : Txt K mg C
  d6 : DefOf K mg "is_whole" (top 6) ["thing"]
  d7 : DefOf K mg "is_within" (top 7) ["thing", "low", "high"]
  d8 : DefOf K mg "is_row" (top 8) ["thing", "many"]
  d14 : DefOf K mg "inner_parts" (top 14) ["decision"]
  d15 : DefOf K mg "is_form" (top 15) ["thing", "many"]
  d16 : DefOf K mg "are_rows" (top 16) ["thing"]
  d17 : DefOf K mg "parts_of" (top 17) ["thing", "many", "room"]
  d18 : DefOf K mg "is_decision" (top 18) ["thing", "many"]
  d19 : DefOf K mg "answer_cases" (top 19) ["decision", "row"]
  d20 : DefOf K mg "answer" (top 20) ["decision", "row"]
  al : mg "answer_decisions" = mg "answer"
  d24 : DefOf K mg "all_rows" (top 24) ["many"]
  d25 : DefOf K mg "look_at_rows" (top 25) ["many", "rows"]
  init : InitOf K mg C
  m3 : MetOf K C "many" "Case.many" (inClass (top 26) 3) ["self"]
  m5 : MetOf K C "rows" "Case.rows" (inClass (top 26) 5) ["self"]
  m6 : MetOf K C "look_at_row" "Case.look_at_row" (inClass (top 26) 6) ["self", "row"]
  m7 : MetOf K C "can_be" "Case.can_be" (inClass (top 26) 7) ["self", "row"]
  m8 : MetOf K C "answer" "Case.answer" (inClass (top 26) 8) ["self", "row"]
  d28 : DefOf K mg "look_at_wish" (top 28) ["case", "wish"]
  d29 : DefOf K mg "turned_about" (top 29) ["row", "wish"]
  d30 : DefOf K mg "twins" (top 30) ["case", "wish"]
  d31 : DefOf K mg "pairs" (top 31) ["case", "wish"]
  d32 : DefOf K mg "table_of" (top 32) ["case", "wish"]
  d33 : DefOf K mg "alone" (top 33) ["case", "wish"]
  d35 : DefOf K mg "has_sway" (top 35) ["case", "row", "wish"]
  d36 : DefOf K mg "swaying" (top 36) ["case", "row"]
  d37 : DefOf K mg "loose_pairs" (top 37) ["case", "wish"]
  d39 : DefOf K mg "_law_pool" (top 39) ["_law_script", "_law_k"]
  d40 : DefOf K mg "_law_take" (top 40) ["_law_pool_here", "_law_many"]
  d41 : DefOf K mg "_law_decision" (top 41) ["_law_pool_here", "_law_many", "_law_room", "_law_deep"]
  d42 : DefOf K mg "_law_all_rows" (top 42) ["_law_many"]
  d43 : DefOf K mg "_law_rows_of" (top 43) ["_law_pool_here", "_law_many", "_law_most"]
  d44 : DefOf K mg "_law_case" (top 44) ["_law_pool_here", "_law_wishes", "_law_most"]
  d45 : DefOf K mg "_law_wish_right" (top 45) ["_law_made", "_law_wider", "_law_rows", "_law_wish"]
theorem law_ok (X : Top K mg C) {f : Addr} {fd : FuncData} (F : C8.Fun K "law" "law" (top 46) f fd) : FnOk P w K mg base C8.CX0 19 f fd ["_law_script"] (spLaw K) := by
  have c6 := ok_whole (P := P) (w := w) (base := base) X.d6 X.T
  have c7 := ok_within X.d7 c6
  have c8 := ok_row (P := P) (w := w) (base := base) X.d8 X.T
  have c14 := ok_inner (P := P) (w := w) (base := base) X.d14 X.T
  have c16 := ok_arerows (P := P) (w := w) (base := base) X.d16 X.T
  have c15 := ok_form X.d15 X.T c16 c7
  have c17 := ok_parts X.d17 X.T c14 c15
  have c18 := ok_isdec X.d18 X.T c17
  have cA := ok_answer (P := P) (w := w) (base := base) X.d20 X.d19 X.al X.T 6
  have c24 := ok_all (P := P) (w := w) (base := base) X.d24 X.T
  have c25 := ok_look X.d25 X.T c8
  obtain ⟨mk0, mk1⟩ := ok_make X.init X.T c7 c18 c25 c24 cA
  have m3 := ok_many (P := P) (w := w) (base := base) X.m3 X.T
  have m5 := ok_rows (P := P) (w := w) (base := base) X.m5 X.T
  have m6 := ok_lookrow X.m6 X.T c8
  have m7 := ok_canbe X.m7 X.T m6
  have m8 := ok_canswer X.m8 X.T m6 cA
  have c28 := ok_lookwish X.d28 c7 m3
  have c29 := ok_turn (P := P) (w := w) (base := base) X.d29
  have c30 := ok_twins X.d30 m5 c29 m7
  have c31 := ok_pairs X.d31 c28 c30 m8
  have c32 := ok_table X.d32 c30 m8
  have c33 := ok_alone X.d33 c31 c32
  have c35 := ok_sway X.d35 m8 c29
  have c36 := ok_swaying X.d36 X.T m6 m3 c35
  have c37 := ok_loose X.d37 c28 m5 c35 m8
  have c39 := ok_pool (P := P) (w := w) (base := base) X.d39 X.T
  have c40 := ok_take (P := P) (w := w) (base := base) X.d40
  have c41 := ok_dec X.d41 X.T c40 6
  have c42 := ok_lawall (P := P) (w := w) (base := base) X.d42 X.T
  have c43 := ok_rowsof X.d43 X.T c42 c40
  have c44 := ok_case X.d44 c40 c41 c43
  have c45 := ok_right X.d45 c31 c37 c36 c33 m5
  exact ok_law F X.T c39 c44 mk0 mk1 c45
end
end K29

/-! K29 19: what the top has written. -/
namespace K29
open PySem L2
section
variable {K : PySem.W.Frag} {h : Heap} {mg : Str → Option Value} {C f : Addr} {x qual : Str} {st : Stmt} {ps : List Str} {oc kV dc pm cd ct : Value} {od an : Option Addr} {sl : Array (Option Value)}
theorem def_mk (X : K.In h) (G : h.Ns mainGlobals mg) (hb : ∀ (kV doc pm : Value) (an : Option Addr) (cdv ct : Value) (us : List Value), us.length = ps.length → bindArgs (PySem.W.fnOf x x (C8.fnArgs st) (C8.fnBody st) (C8.fnScope st) .none kV doc pm an cdv ct) ⟨us, []⟩ = pure (ps.zip us))
    (a : PySem.W.nsIn K mainGlobals x = some (some (.ref f))) (l : K.lookup f = some ⟨oc, od, .func (PySem.W.fnOf x x (C8.fnArgs st) (C8.fnBody st) (C8.fnScope st) .none kV dc pm an cd ct), sl⟩) (c : PySem.W.codeIn K cd x = true) (k : PySem.W.keepIn K (.ref f) = true) : DefOf K mg x st ps :=
  have F : C8.Fun K x x st f _ := ⟨oc, od, .none, kV, dc, pm, an, cd, ct, sl, rfl, l, c⟩
  ⟨f, _, ⟨F, PySem.W.mg_of X G a, k⟩, F.binds rfl hb⟩
theorem met_mk (hb : ∀ (kV doc pm : Value) (an : Option Addr) (cdv ct : Value) (us : List Value), us.length = ps.length → bindArgs (PySem.W.fnOf x qual (C8.fnArgs st) (C8.fnBody st) (C8.fnScope st) .none kV doc pm an cdv ct) ⟨us, []⟩ = pure (ps.zip us))
    (a : PySem.W.findIn K (.ref C) x = some (some (.ref f))) (i : PySem.W.isFn K (.ref f) = true) (l : K.lookup f = some ⟨oc, od, .func (PySem.W.fnOf x qual (C8.fnArgs st) (C8.fnBody st) (C8.fnScope st) .none kV dc pm an cd ct), sl⟩) (c : PySem.W.codeIn K cd qual = true) (k : PySem.W.keepIn K (.ref f) = true) : MetOf K C x qual st ps :=
  have F : C8.Fun K x qual st f _ := ⟨oc, od, .none, kV, dc, pm, an, cd, ct, sl, rfl, l, c⟩
  ⟨f, _, ⟨a, i, k⟩, F, F.binds rfl hb⟩
/-- a def of two parameters, the last one with a default, all given -/
theorem const_mk {v : Value} {n : Int} (X : K.In h) (G : h.Ns mainGlobals mg) (a : PySem.W.nsIn K mainGlobals x = some (some v)) (e : ∃ t, v = .int n t) : ∃ t, mg x = some (.int n t) := by
  obtain ⟨t, rfl⟩ := e
  exact ⟨t, PySem.W.mg_of X G a⟩
theorem noattr_mk (e : PySem.W.findIn K (.ref C) x = some none) : NoAttr K C x := e
theorem isdec_mk {T : Addr} {o : Obj} {n : Nat} {v : V} {u : Value} (X : K.In h) (G : h.Ns mainGlobals mg) (a : PySem.W.nsIn K mainGlobals "is_decision" = some (some (.ref f)))
    (l : K.lookup f = some ⟨oc, od, .func (PySem.W.fnOf "is_decision" "is_decision" (C8.fnArgs (top 18)) (C8.fnBody (top 18)) (C8.fnScope (top 18)) (.ref T) kV dc pm an cd ct), sl⟩) (c : PySem.W.codeIn K cd "is_decision" = true) (k : PySem.W.keepIn K (.ref f) = true)
    (lT : K.lookup T = some o) (oT : o.data = .seq #[u] n) (r : RelV v u) : DefOf K mg "is_decision" (top 18) ["thing", "many"] := by
  have F : C8.Fun K "is_decision" "is_decision" (top 18) f _ := ⟨oc, od, .ref T, kV, dc, pm, an, cd, ct, sl, rfl, l, c⟩
  have FD : FunD K "is_decision" "is_decision" (C8.fnArgs (top 18)) (C8.fnBody (top 18)) (C8.fnScope (top 18)) [v] [] f _ := ⟨⟨oc, od, .ref T, kV, dc, pm, an, cd, ct, sl, rfl, l, c, .inr ⟨by simp, T, o, [u], n, rfl, lT, oT, .cons r .nil⟩, .inl rfl⟩, k⟩
  obtain ⟨ds, hv, hb⟩ := FD.binds1 (ps := ["thing", "many"]) 2 1 (by simp) rfl fun T kV doc pm an cdv ct us its h1 h2 => match us, its, h1, h2 with | [_, _], [_], _, _ => ⟨_, rfl, rfl⟩
  cases hv
  exact ⟨f, _, ⟨F, PySem.W.mg_of X G a, k⟩, hb⟩
theorem init_mk {T : Addr} {o : Obj} {n : Nat} (X : K.In h) (G : h.Ns mainGlobals mg) (aC : PySem.W.nsIn K mainGlobals "Case" = some (some (.ref C))) (mk : PySem.W.makesIn K C = true) (kC : PySem.W.keepIn K (.ref C) = true)
    (a : PySem.W.findIn K (.ref C) "__init__" = some (some (.ref f))) (i : PySem.W.isFn K (.ref f) = true)
    (l : K.lookup f = some ⟨oc, od, .func (PySem.W.fnOf "__init__" "Case.__init__" (C8.fnArgs (inClass (top 26) 0)) (C8.fnBody (inClass (top 26) 0)) (C8.fnScope (inClass (top 26) 0)) (.ref T) kV dc pm an cd ct), sl⟩) (c : PySem.W.codeIn K cd "Case.__init__" = true) (k : PySem.W.keepIn K (.ref f) = true)
    (lT : K.lookup T = some o) (oT : o.data = .seq #[.none] n) : InitOf K mg C := by
  have F : C8.Fun K "__init__" "Case.__init__" (inClass (top 26) 0) f _ := ⟨oc, od, .ref T, kV, dc, pm, an, cd, ct, sl, rfl, l, c⟩
  have FD : FunD K "__init__" "Case.__init__" (C8.fnArgs (inClass (top 26) 0)) (C8.fnBody (inClass (top 26) 0)) (C8.fnScope (inClass (top 26) 0)) [V.non] [] f _ := ⟨⟨oc, od, .ref T, kV, dc, pm, an, cd, ct, sl, rfl, l, c, .inr ⟨by simp, T, o, [.none], n, rfl, lT, oT, .cons rfl .nil⟩, .inl rfl⟩, k⟩
  obtain ⟨d0, v0, b0⟩ := FD.binds1 (ps := ["self", "many", "decision", "rows"]) 4 1 (by simp) rfl fun T kV doc pm an cdv ct us its h1 h2 => match us, its, h1, h2 with | [_, _, _, _], [_], _, _ => ⟨_, rfl, rfl⟩
  obtain ⟨d1, v1, b1⟩ := FD.binds1 (ps := ["self", "many", "decision", "rows"]) 3 0 (by simp) rfl fun T kV doc pm an cdv ct us its h1 h2 => match us, its, h1, h2 with | [_, _, _], [_], _, _ => ⟨_, rfl, rfl⟩
  cases v0
  exact ⟨PySem.W.mg_of X G aC, f, _, d1, ⟨mk, a, i, kC⟩, F, b0, v1, b1⟩
theorem law_mk {l : PySem.W.OpenLaw} {w : World} {fa : Addr} (X : K.In h) (G : h.Ns mainGlobals mg) (hfa : mg "law" = some (.ref fa)) (Tp : Top K mg C) (a : PySem.W.nsIn K mainGlobals "law" = some (some (.ref f)))
    (lk : K.lookup f = some ⟨oc, od, .func (PySem.W.fnOf "law" "law" (C8.fnArgs (top 46)) (C8.fnBody (top 46)) (C8.fnScope (top 46)) .none kV dc pm an cd ct), sl⟩) (c : PySem.W.codeIn K cd "law" = true) :
    ∃ fd : FuncData, (∀ (s : Shared) (u : Value), BindsTo s fd ⟨[u], []⟩ [("_law_script", u)]) ∧ ∀ base : Heap, K.In base → base.Ns mainGlobals mg → FnOk l.prog w K mg base C8.CX0 19 fa fd ["_law_script"] (spLaw K) := by
  have e := hfa.symm.trans (PySem.W.mg_of X G a)
  cases e
  have F : C8.Fun K "law" "law" (top 46) f _ := ⟨oc, od, .none, kV, dc, pm, an, cd, ct, sl, rfl, lk, c⟩
  exact ⟨_, fun s u => .of_eq rfl, fun base _ _ => law_ok Tp F⟩
end
theorem hb6 (kV doc pm : Value) (an : Option Addr) (cdv ct : Value) (us : List Value) (hl : us.length = (["thing"] : List Str).length) : bindArgs (PySem.W.fnOf "is_whole" "is_whole" (C8.fnArgs (top 6)) (C8.fnBody (top 6)) (C8.fnScope (top 6)) .none kV doc pm an cdv ct) ⟨us, []⟩ = pure ((["thing"] : List Str).zip us) := match us, hl with | [_], _ => rfl
theorem hb7 (kV doc pm : Value) (an : Option Addr) (cdv ct : Value) (us : List Value) (hl : us.length = (["thing", "low", "high"] : List Str).length) : bindArgs (PySem.W.fnOf "is_within" "is_within" (C8.fnArgs (top 7)) (C8.fnBody (top 7)) (C8.fnScope (top 7)) .none kV doc pm an cdv ct) ⟨us, []⟩ = pure ((["thing", "low", "high"] : List Str).zip us) := match us, hl with | [_, _, _], _ => rfl
theorem hb8 (kV doc pm : Value) (an : Option Addr) (cdv ct : Value) (us : List Value) (hl : us.length = (["thing", "many"] : List Str).length) : bindArgs (PySem.W.fnOf "is_row" "is_row" (C8.fnArgs (top 8)) (C8.fnBody (top 8)) (C8.fnScope (top 8)) .none kV doc pm an cdv ct) ⟨us, []⟩ = pure ((["thing", "many"] : List Str).zip us) := match us, hl with | [_, _], _ => rfl
theorem hb14 (kV doc pm : Value) (an : Option Addr) (cdv ct : Value) (us : List Value) (hl : us.length = (["decision"] : List Str).length) : bindArgs (PySem.W.fnOf "inner_parts" "inner_parts" (C8.fnArgs (top 14)) (C8.fnBody (top 14)) (C8.fnScope (top 14)) .none kV doc pm an cdv ct) ⟨us, []⟩ = pure ((["decision"] : List Str).zip us) := match us, hl with | [_], _ => rfl
theorem hb15 (kV doc pm : Value) (an : Option Addr) (cdv ct : Value) (us : List Value) (hl : us.length = (["thing", "many"] : List Str).length) : bindArgs (PySem.W.fnOf "is_form" "is_form" (C8.fnArgs (top 15)) (C8.fnBody (top 15)) (C8.fnScope (top 15)) .none kV doc pm an cdv ct) ⟨us, []⟩ = pure ((["thing", "many"] : List Str).zip us) := match us, hl with | [_, _], _ => rfl
theorem hb16 (kV doc pm : Value) (an : Option Addr) (cdv ct : Value) (us : List Value) (hl : us.length = (["thing"] : List Str).length) : bindArgs (PySem.W.fnOf "are_rows" "are_rows" (C8.fnArgs (top 16)) (C8.fnBody (top 16)) (C8.fnScope (top 16)) .none kV doc pm an cdv ct) ⟨us, []⟩ = pure ((["thing"] : List Str).zip us) := match us, hl with | [_], _ => rfl
theorem hb17 (kV doc pm : Value) (an : Option Addr) (cdv ct : Value) (us : List Value) (hl : us.length = (["thing", "many", "room"] : List Str).length) : bindArgs (PySem.W.fnOf "parts_of" "parts_of" (C8.fnArgs (top 17)) (C8.fnBody (top 17)) (C8.fnScope (top 17)) .none kV doc pm an cdv ct) ⟨us, []⟩ = pure ((["thing", "many", "room"] : List Str).zip us) := match us, hl with | [_, _, _], _ => rfl
theorem hb19 (kV doc pm : Value) (an : Option Addr) (cdv ct : Value) (us : List Value) (hl : us.length = (["decision", "row"] : List Str).length) : bindArgs (PySem.W.fnOf "answer_cases" "answer_cases" (C8.fnArgs (top 19)) (C8.fnBody (top 19)) (C8.fnScope (top 19)) .none kV doc pm an cdv ct) ⟨us, []⟩ = pure ((["decision", "row"] : List Str).zip us) := match us, hl with | [_, _], _ => rfl
theorem hb20 (kV doc pm : Value) (an : Option Addr) (cdv ct : Value) (us : List Value) (hl : us.length = (["decision", "row"] : List Str).length) : bindArgs (PySem.W.fnOf "answer" "answer" (C8.fnArgs (top 20)) (C8.fnBody (top 20)) (C8.fnScope (top 20)) .none kV doc pm an cdv ct) ⟨us, []⟩ = pure ((["decision", "row"] : List Str).zip us) := match us, hl with | [_, _], _ => rfl
theorem hb24 (kV doc pm : Value) (an : Option Addr) (cdv ct : Value) (us : List Value) (hl : us.length = (["many"] : List Str).length) : bindArgs (PySem.W.fnOf "all_rows" "all_rows" (C8.fnArgs (top 24)) (C8.fnBody (top 24)) (C8.fnScope (top 24)) .none kV doc pm an cdv ct) ⟨us, []⟩ = pure ((["many"] : List Str).zip us) := match us, hl with | [_], _ => rfl
theorem hb25 (kV doc pm : Value) (an : Option Addr) (cdv ct : Value) (us : List Value) (hl : us.length = (["many", "rows"] : List Str).length) : bindArgs (PySem.W.fnOf "look_at_rows" "look_at_rows" (C8.fnArgs (top 25)) (C8.fnBody (top 25)) (C8.fnScope (top 25)) .none kV doc pm an cdv ct) ⟨us, []⟩ = pure ((["many", "rows"] : List Str).zip us) := match us, hl with | [_, _], _ => rfl
theorem hb28 (kV doc pm : Value) (an : Option Addr) (cdv ct : Value) (us : List Value) (hl : us.length = (["case", "wish"] : List Str).length) : bindArgs (PySem.W.fnOf "look_at_wish" "look_at_wish" (C8.fnArgs (top 28)) (C8.fnBody (top 28)) (C8.fnScope (top 28)) .none kV doc pm an cdv ct) ⟨us, []⟩ = pure ((["case", "wish"] : List Str).zip us) := match us, hl with | [_, _], _ => rfl
theorem hb29 (kV doc pm : Value) (an : Option Addr) (cdv ct : Value) (us : List Value) (hl : us.length = (["row", "wish"] : List Str).length) : bindArgs (PySem.W.fnOf "turned_about" "turned_about" (C8.fnArgs (top 29)) (C8.fnBody (top 29)) (C8.fnScope (top 29)) .none kV doc pm an cdv ct) ⟨us, []⟩ = pure ((["row", "wish"] : List Str).zip us) := match us, hl with | [_, _], _ => rfl
theorem hb30 (kV doc pm : Value) (an : Option Addr) (cdv ct : Value) (us : List Value) (hl : us.length = (["case", "wish"] : List Str).length) : bindArgs (PySem.W.fnOf "twins" "twins" (C8.fnArgs (top 30)) (C8.fnBody (top 30)) (C8.fnScope (top 30)) .none kV doc pm an cdv ct) ⟨us, []⟩ = pure ((["case", "wish"] : List Str).zip us) := match us, hl with | [_, _], _ => rfl
theorem hb31 (kV doc pm : Value) (an : Option Addr) (cdv ct : Value) (us : List Value) (hl : us.length = (["case", "wish"] : List Str).length) : bindArgs (PySem.W.fnOf "pairs" "pairs" (C8.fnArgs (top 31)) (C8.fnBody (top 31)) (C8.fnScope (top 31)) .none kV doc pm an cdv ct) ⟨us, []⟩ = pure ((["case", "wish"] : List Str).zip us) := match us, hl with | [_, _], _ => rfl
theorem hb32 (kV doc pm : Value) (an : Option Addr) (cdv ct : Value) (us : List Value) (hl : us.length = (["case", "wish"] : List Str).length) : bindArgs (PySem.W.fnOf "table_of" "table_of" (C8.fnArgs (top 32)) (C8.fnBody (top 32)) (C8.fnScope (top 32)) .none kV doc pm an cdv ct) ⟨us, []⟩ = pure ((["case", "wish"] : List Str).zip us) := match us, hl with | [_, _], _ => rfl
theorem hb33 (kV doc pm : Value) (an : Option Addr) (cdv ct : Value) (us : List Value) (hl : us.length = (["case", "wish"] : List Str).length) : bindArgs (PySem.W.fnOf "alone" "alone" (C8.fnArgs (top 33)) (C8.fnBody (top 33)) (C8.fnScope (top 33)) .none kV doc pm an cdv ct) ⟨us, []⟩ = pure ((["case", "wish"] : List Str).zip us) := match us, hl with | [_, _], _ => rfl
theorem hb35 (kV doc pm : Value) (an : Option Addr) (cdv ct : Value) (us : List Value) (hl : us.length = (["case", "row", "wish"] : List Str).length) : bindArgs (PySem.W.fnOf "has_sway" "has_sway" (C8.fnArgs (top 35)) (C8.fnBody (top 35)) (C8.fnScope (top 35)) .none kV doc pm an cdv ct) ⟨us, []⟩ = pure ((["case", "row", "wish"] : List Str).zip us) := match us, hl with | [_, _, _], _ => rfl
theorem hb36 (kV doc pm : Value) (an : Option Addr) (cdv ct : Value) (us : List Value) (hl : us.length = (["case", "row"] : List Str).length) : bindArgs (PySem.W.fnOf "swaying" "swaying" (C8.fnArgs (top 36)) (C8.fnBody (top 36)) (C8.fnScope (top 36)) .none kV doc pm an cdv ct) ⟨us, []⟩ = pure ((["case", "row"] : List Str).zip us) := match us, hl with | [_, _], _ => rfl
theorem hb37 (kV doc pm : Value) (an : Option Addr) (cdv ct : Value) (us : List Value) (hl : us.length = (["case", "wish"] : List Str).length) : bindArgs (PySem.W.fnOf "loose_pairs" "loose_pairs" (C8.fnArgs (top 37)) (C8.fnBody (top 37)) (C8.fnScope (top 37)) .none kV doc pm an cdv ct) ⟨us, []⟩ = pure ((["case", "wish"] : List Str).zip us) := match us, hl with | [_, _], _ => rfl
theorem hb39 (kV doc pm : Value) (an : Option Addr) (cdv ct : Value) (us : List Value) (hl : us.length = (["_law_script", "_law_k"] : List Str).length) : bindArgs (PySem.W.fnOf "_law_pool" "_law_pool" (C8.fnArgs (top 39)) (C8.fnBody (top 39)) (C8.fnScope (top 39)) .none kV doc pm an cdv ct) ⟨us, []⟩ = pure ((["_law_script", "_law_k"] : List Str).zip us) := match us, hl with | [_, _], _ => rfl
theorem hb40 (kV doc pm : Value) (an : Option Addr) (cdv ct : Value) (us : List Value) (hl : us.length = (["_law_pool_here", "_law_many"] : List Str).length) : bindArgs (PySem.W.fnOf "_law_take" "_law_take" (C8.fnArgs (top 40)) (C8.fnBody (top 40)) (C8.fnScope (top 40)) .none kV doc pm an cdv ct) ⟨us, []⟩ = pure ((["_law_pool_here", "_law_many"] : List Str).zip us) := match us, hl with | [_, _], _ => rfl
theorem hb41 (kV doc pm : Value) (an : Option Addr) (cdv ct : Value) (us : List Value) (hl : us.length = (["_law_pool_here", "_law_many", "_law_room", "_law_deep"] : List Str).length) : bindArgs (PySem.W.fnOf "_law_decision" "_law_decision" (C8.fnArgs (top 41)) (C8.fnBody (top 41)) (C8.fnScope (top 41)) .none kV doc pm an cdv ct) ⟨us, []⟩ = pure ((["_law_pool_here", "_law_many", "_law_room", "_law_deep"] : List Str).zip us) := match us, hl with | [_, _, _, _], _ => rfl
theorem hb42 (kV doc pm : Value) (an : Option Addr) (cdv ct : Value) (us : List Value) (hl : us.length = (["_law_many"] : List Str).length) : bindArgs (PySem.W.fnOf "_law_all_rows" "_law_all_rows" (C8.fnArgs (top 42)) (C8.fnBody (top 42)) (C8.fnScope (top 42)) .none kV doc pm an cdv ct) ⟨us, []⟩ = pure ((["_law_many"] : List Str).zip us) := match us, hl with | [_], _ => rfl
theorem hb43 (kV doc pm : Value) (an : Option Addr) (cdv ct : Value) (us : List Value) (hl : us.length = (["_law_pool_here", "_law_many", "_law_most"] : List Str).length) : bindArgs (PySem.W.fnOf "_law_rows_of" "_law_rows_of" (C8.fnArgs (top 43)) (C8.fnBody (top 43)) (C8.fnScope (top 43)) .none kV doc pm an cdv ct) ⟨us, []⟩ = pure ((["_law_pool_here", "_law_many", "_law_most"] : List Str).zip us) := match us, hl with | [_, _, _], _ => rfl
theorem hb44 (kV doc pm : Value) (an : Option Addr) (cdv ct : Value) (us : List Value) (hl : us.length = (["_law_pool_here", "_law_wishes", "_law_most"] : List Str).length) : bindArgs (PySem.W.fnOf "_law_case" "_law_case" (C8.fnArgs (top 44)) (C8.fnBody (top 44)) (C8.fnScope (top 44)) .none kV doc pm an cdv ct) ⟨us, []⟩ = pure ((["_law_pool_here", "_law_wishes", "_law_most"] : List Str).zip us) := match us, hl with | [_, _, _], _ => rfl
theorem hb45 (kV doc pm : Value) (an : Option Addr) (cdv ct : Value) (us : List Value) (hl : us.length = (["_law_made", "_law_wider", "_law_rows", "_law_wish"] : List Str).length) : bindArgs (PySem.W.fnOf "_law_wish_right" "_law_wish_right" (C8.fnArgs (top 45)) (C8.fnBody (top 45)) (C8.fnScope (top 45)) .none kV doc pm an cdv ct) ⟨us, []⟩ = pure ((["_law_made", "_law_wider", "_law_rows", "_law_wish"] : List Str).zip us) := match us, hl with | [_, _, _, _], _ => rfl
theorem hm3 (kV doc pm : Value) (an : Option Addr) (cdv ct : Value) (us : List Value) (hl : us.length = (["self"] : List Str).length) : bindArgs (PySem.W.fnOf "many" "Case.many" (C8.fnArgs (inClass (top 26) 3)) (C8.fnBody (inClass (top 26) 3)) (C8.fnScope (inClass (top 26) 3)) .none kV doc pm an cdv ct) ⟨us, []⟩ = pure ((["self"] : List Str).zip us) := match us, hl with | [_], _ => rfl
theorem hm5 (kV doc pm : Value) (an : Option Addr) (cdv ct : Value) (us : List Value) (hl : us.length = (["self"] : List Str).length) : bindArgs (PySem.W.fnOf "rows" "Case.rows" (C8.fnArgs (inClass (top 26) 5)) (C8.fnBody (inClass (top 26) 5)) (C8.fnScope (inClass (top 26) 5)) .none kV doc pm an cdv ct) ⟨us, []⟩ = pure ((["self"] : List Str).zip us) := match us, hl with | [_], _ => rfl
theorem hm6 (kV doc pm : Value) (an : Option Addr) (cdv ct : Value) (us : List Value) (hl : us.length = (["self", "row"] : List Str).length) : bindArgs (PySem.W.fnOf "look_at_row" "Case.look_at_row" (C8.fnArgs (inClass (top 26) 6)) (C8.fnBody (inClass (top 26) 6)) (C8.fnScope (inClass (top 26) 6)) .none kV doc pm an cdv ct) ⟨us, []⟩ = pure ((["self", "row"] : List Str).zip us) := match us, hl with | [_, _], _ => rfl
theorem hm7 (kV doc pm : Value) (an : Option Addr) (cdv ct : Value) (us : List Value) (hl : us.length = (["self", "row"] : List Str).length) : bindArgs (PySem.W.fnOf "can_be" "Case.can_be" (C8.fnArgs (inClass (top 26) 7)) (C8.fnBody (inClass (top 26) 7)) (C8.fnScope (inClass (top 26) 7)) .none kV doc pm an cdv ct) ⟨us, []⟩ = pure ((["self", "row"] : List Str).zip us) := match us, hl with | [_, _], _ => rfl
theorem hm8 (kV doc pm : Value) (an : Option Addr) (cdv ct : Value) (us : List Value) (hl : us.length = (["self", "row"] : List Str).length) : bindArgs (PySem.W.fnOf "answer" "Case.answer" (C8.fnArgs (inClass (top 26) 8)) (C8.fnBody (inClass (top 26) 8)) (C8.fnScope (inClass (top 26) 8)) .none kV doc pm an cdv ct) ⟨us, []⟩ = pure ((["self", "row"] : List Str).zip us) := match us, hl with | [_, _], _ => rfl
end K29
open PySem PySem.W PyProof.Rows in
set_option maxRecDepth 100000 in
set_option maxHeartbeats 0 in
theorem PySem.Challenge.cw_eachalone_k29_whole_a_pair_is_a_loose_pa_holds : PySem.Challenge.rw_eachalone_k29_whole_a_pair_is_a_loose_pa.Holds := by
  w_on; o_law; k_head; (case hw => w_witness2)
  k_fill
  refine L2.walk_of (l := PySem.Challenge.rw_eachalone_k29_whole_a_pair_is_a_loose_pa) (n := 63) (k := 19) (x := "_law_script") (CX := fun _ => C8.CX0) (sp := fun w => K29.spLaw _) rfl (by decide) rfl ⟨rfl, by decide, by decide⟩ (fun w h Y => PySem.W.kIn_of Y) ?F (fun _ _ a ns hl _ hS => ⟨a, ns, rfl, hS, hl, fun _ => rfl⟩) (fun _ _ _ _ _ h => h)
  case F =>
    intro w mg fa h KX G hmg0
    have hmg : mg (Str.ofString "law") = some (.ref fa) := hmg0
    clear hmg0
    refine' K29.law_mk KX G hmg ⟨?T, ?d6, ?d7, ?d8, ?d14, ?d15, ?d16, ?d17, ?d18, ?d19, ?d20, ?al, ?d24, ?d25, ?init, ?m3, ?m5, ?m6, ?m7, ?m8, ?d28, ?d29, ?d30, ?d31, ?d32, ?d33, ?d35, ?d36, ?d37, ?d39, ?d40, ?d41, ?d42, ?d43, ?d44, ?d45⟩ ?la ?ll ?lc
    case init => (refine' K29.init_mk KX G ?aC ?mk ?kC ?a ?i ?l ?c ?k ?lT ?oT; (case aC => k_is); (case mk => k_is); (case kC => k_is); (case a => k_is); (case i => k_is); (case l => k_is); (case c => k_is); (case k => k_is); (case lT => k_is); (case oT => rfl))
    case T => (refine' ⟨PySem.W.mg_none_of KX G ?zisinstance, PySem.W.mg_none_of KX G ?zint, PySem.W.mg_none_of KX G ?zbool, PySem.W.mg_none_of KX G ?ztuple, PySem.W.mg_none_of KX G ?zlist, PySem.W.mg_none_of KX G ?zstr, PySem.W.mg_none_of KX G ?zlen, PySem.W.mg_none_of KX G ?zall, PySem.W.mg_none_of KX G ?zany, PySem.W.mg_none_of KX G ?zrange, PySem.W.mg_none_of KX G ?zenumerate, PySem.W.mg_none_of KX G ?zsorted, PySem.W.mg_none_of KX G ?zmin, PySem.W.mg_none_of KX G ?zmax, K29.const_mk KX G ?cparts ?eparts, K29.const_mk KX G ?cdeepest ?edeepest, K29.const_mk KX G ?cwithin ?ewithin, K29.const_mk KX G ?cmrows ?emrows, K29.const_mk KX G ?cwishes ?ewishes, ⟨?pg, ?hd, ?po, ?sa⟩, K29.noattr_mk ?nM, K29.noattr_mk ?nD, K29.noattr_mk ?nR⟩; (case zisinstance => k_is); (case zint => k_is); (case zbool => k_is); (case ztuple => k_is); (case zlist => k_is); (case zstr => k_is); (case zlen => k_is); (case zall => k_is); (case zany => k_is); (case zrange => k_is); (case zenumerate => k_is); (case zsorted => k_is); (case zmin => k_is); (case zmax => k_is); (case cparts => k_is); (case cdeepest => k_is); (case cwithin => k_is); (case cmrows => k_is); (case cwishes => k_is); (case eparts => exact ⟨_, rfl⟩); (case edeepest => exact ⟨_, rfl⟩); (case ewithin => exact ⟨_, rfl⟩); (case emrows => exact ⟨_, rfl⟩); (case ewishes => exact ⟨_, rfl⟩); (case pg => k_is); (case hd => k_is); (case po => k_is); (case sa => k_is); (case nM => k_is); (case nD => k_is); (case nR => k_is))
    case m3 => (refine' K29.met_mk K29.hm3 ?a ?i ?l ?c ?k; (case a => k_is); (case i => k_is); (case l => k_is); (case c => k_is); (case k => k_is))
    case m5 => (refine' K29.met_mk K29.hm5 ?a ?i ?l ?c ?k; (case a => k_is); (case i => k_is); (case l => k_is); (case c => k_is); (case k => k_is))
    case m6 => (refine' K29.met_mk K29.hm6 ?a ?i ?l ?c ?k; (case a => k_is); (case i => k_is); (case l => k_is); (case c => k_is); (case k => k_is))
    case m7 => (refine' K29.met_mk K29.hm7 ?a ?i ?l ?c ?k; (case a => k_is); (case i => k_is); (case l => k_is); (case c => k_is); (case k => k_is))
    case m8 => (refine' K29.met_mk K29.hm8 ?a ?i ?l ?c ?k; (case a => k_is); (case i => k_is); (case l => k_is); (case c => k_is); (case k => k_is))
    case d6 => (refine' K29.def_mk KX G K29.hb6 ?a ?l ?c ?k; (case a => k_is); (case l => k_is); (case c => k_is); (case k => k_is))
    case d7 => (refine' K29.def_mk KX G K29.hb7 ?a ?l ?c ?k; (case a => k_is); (case l => k_is); (case c => k_is); (case k => k_is))
    case d8 => (refine' K29.def_mk KX G K29.hb8 ?a ?l ?c ?k; (case a => k_is); (case l => k_is); (case c => k_is); (case k => k_is))
    case d14 => (refine' K29.def_mk KX G K29.hb14 ?a ?l ?c ?k; (case a => k_is); (case l => k_is); (case c => k_is); (case k => k_is))
    case d15 => (refine' K29.def_mk KX G K29.hb15 ?a ?l ?c ?k; (case a => k_is); (case l => k_is); (case c => k_is); (case k => k_is))
    case d16 => (refine' K29.def_mk KX G K29.hb16 ?a ?l ?c ?k; (case a => k_is); (case l => k_is); (case c => k_is); (case k => k_is))
    case d17 => (refine' K29.def_mk KX G K29.hb17 ?a ?l ?c ?k; (case a => k_is); (case l => k_is); (case c => k_is); (case k => k_is))
    case d19 => (refine' K29.def_mk KX G K29.hb19 ?a ?l ?c ?k; (case a => k_is); (case l => k_is); (case c => k_is); (case k => k_is))
    case d20 => (refine' K29.def_mk KX G K29.hb20 ?a ?l ?c ?k; (case a => k_is); (case l => k_is); (case c => k_is); (case k => k_is))
    case d24 => (refine' K29.def_mk KX G K29.hb24 ?a ?l ?c ?k; (case a => k_is); (case l => k_is); (case c => k_is); (case k => k_is))
    case d25 => (refine' K29.def_mk KX G K29.hb25 ?a ?l ?c ?k; (case a => k_is); (case l => k_is); (case c => k_is); (case k => k_is))
    case d28 => (refine' K29.def_mk KX G K29.hb28 ?a ?l ?c ?k; (case a => k_is); (case l => k_is); (case c => k_is); (case k => k_is))
    case d29 => (refine' K29.def_mk KX G K29.hb29 ?a ?l ?c ?k; (case a => k_is); (case l => k_is); (case c => k_is); (case k => k_is))
    case d30 => (refine' K29.def_mk KX G K29.hb30 ?a ?l ?c ?k; (case a => k_is); (case l => k_is); (case c => k_is); (case k => k_is))
    case d31 => (refine' K29.def_mk KX G K29.hb31 ?a ?l ?c ?k; (case a => k_is); (case l => k_is); (case c => k_is); (case k => k_is))
    case d32 => (refine' K29.def_mk KX G K29.hb32 ?a ?l ?c ?k; (case a => k_is); (case l => k_is); (case c => k_is); (case k => k_is))
    case d33 => (refine' K29.def_mk KX G K29.hb33 ?a ?l ?c ?k; (case a => k_is); (case l => k_is); (case c => k_is); (case k => k_is))
    case d35 => (refine' K29.def_mk KX G K29.hb35 ?a ?l ?c ?k; (case a => k_is); (case l => k_is); (case c => k_is); (case k => k_is))
    case d36 => (refine' K29.def_mk KX G K29.hb36 ?a ?l ?c ?k; (case a => k_is); (case l => k_is); (case c => k_is); (case k => k_is))
    case d37 => (refine' K29.def_mk KX G K29.hb37 ?a ?l ?c ?k; (case a => k_is); (case l => k_is); (case c => k_is); (case k => k_is))
    case d39 => (refine' K29.def_mk KX G K29.hb39 ?a ?l ?c ?k; (case a => k_is); (case l => k_is); (case c => k_is); (case k => k_is))
    case d40 => (refine' K29.def_mk KX G K29.hb40 ?a ?l ?c ?k; (case a => k_is); (case l => k_is); (case c => k_is); (case k => k_is))
    case d41 => (refine' K29.def_mk KX G K29.hb41 ?a ?l ?c ?k; (case a => k_is); (case l => k_is); (case c => k_is); (case k => k_is))
    case d42 => (refine' K29.def_mk KX G K29.hb42 ?a ?l ?c ?k; (case a => k_is); (case l => k_is); (case c => k_is); (case k => k_is))
    case d43 => (refine' K29.def_mk KX G K29.hb43 ?a ?l ?c ?k; (case a => k_is); (case l => k_is); (case c => k_is); (case k => k_is))
    case d44 => (refine' K29.def_mk KX G K29.hb44 ?a ?l ?c ?k; (case a => k_is); (case l => k_is); (case c => k_is); (case k => k_is))
    case d45 => (refine' K29.def_mk KX G K29.hb45 ?a ?l ?c ?k; (case a => k_is); (case l => k_is); (case c => k_is); (case k => k_is))
    case d18 => (refine' K29.isdec_mk (v := .int 8) KX G ?a ?l ?c ?k ?lT ?oT ?r; (case a => k_is); (case l => k_is); (case c => k_is); (case k => k_is); (case lT => k_is); (case oT => rfl); (case r => exact ⟨_, rfl⟩))
    case al => (refine' (PySem.W.mg_of KX G ?a).trans (PySem.W.mg_of KX G ?b).symm; (case a => k_is); (case b => k_is))
    (case la => k_is); (case ll => k_is); (case lc => k_is)
#print axioms PySem.Challenge.cw_eachalone_k29_whole_a_pair_is_a_loose_pa_holds
