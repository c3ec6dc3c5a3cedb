import PyProof.Rows.All
import Wide.All
import OpenK.AllK
import Wide.FinOn
import HandS.ForMost
import KE.KDictPairs
import KE.KDictKeyed
import HandS.DictEq
import KE.KEqDict
import KE.KExcIs
import HandS.OwnEq
import HandS.Exc
import HandS.ForExc
import HandS.ExcField
import HandS.IsInst
import PySem.Challenge.RW_roomsthrough_k30_whole_tables_one_behind
import HandS.Property
import HandS.ExcInit
import HandS.Conv
import HandS.TupLen
import HandS.Deep
import HandS.NoneIn
import HandS.Wide
import HandS.TryOnly
import HandS.Small
import HandS.Walk
import HandS.More
import HandS.ExcOwn
import PyProof.NeKinds
import HandS.Defaults
set_option Elab.async false
set_option linter.all false
set_option maxRecDepth 100000
set_option maxHeartbeats 2000000
namespace Rt
open PySem PySem.Spec PyProof.Rows L2
/-! ### dict(xs), xs a list of pairs (key, value) whose keys are tuples of ints and texts, no key twice -/
/-- a pair of a key's tuple and a value, told by its tuple's address -/
def PairT (H : Hp) (p : Addr) (kv : List Key × V) : Prop :=
  ∃ q : Addr, H p = some (.tup [.ref q, kv.2]) ∧ H q = some (.tup (kv.1.map kV))
theorem tup_at {P : Program} {w : World} {H : Hp} {h : Heap} {a : Addr} {xs : List V} (ok : HOk P w H h) (e : H a = some (.tup xs)) :
    ∃ its : List Value, Vals xs its ∧ IsTup h a its.toArray := by
  have z : ObjOk P w H h a (.tup xs) := ok a _ e
  exact z.2
/-- what the pairs are over the heap -/
theorem pairsT {P : Program} {w : World} {H : Hp} {h : Heap} (ok : HOk P w H h) :
    ∀ {ps : List Addr} {kvs : List (List Key × V)}, Paired (PairT H) ps kvs →
      ∃ xs : List (List Key × Addr × Value), KT H kvs xs ∧ xs.length = ps.length ∧
        ∀ (j : Nat) (x : List Key × Addr × Value), xs[j]? = some x → ∃ b, ps[j]? = some b ∧ IsTup h b #[.ref x.2.1, x.2.2] ∧ (tupleKind (mixKind P w)).is h x.1 x.2.1
  | _, _, .nil => ⟨[], .nil, rfl, fun j x e => by simp at e⟩
  | _, _, .cons (a := p) (b := kv) hd t => by
    obtain ⟨xs, r, hl, hp⟩ := pairsT ok t
    obtain ⟨q, e1, e2⟩ := hd
    obtain ⟨its, rv, ht⟩ := tup_at ok e1
    obtain ⟨u, y, ei, ru, ry⟩ := rv.two
    subst ei
    have eu : u = Value.ref q := ru
    subst eu
    refine ⟨(kv.1, q, y) :: xs, .cons ⟨rfl, e2, ry⟩ r, by rw [List.length_cons, List.length_cons, hl], fun j x e => ?_⟩
    cases j with
    | zero =>
      have e' : (kv.1, q, y) = x := Option.some.inj e
      subst e'
      exact ⟨p, rfl, ht, key_of ok e2⟩
    | succ j =>
      obtain ⟨b, z1, z2, z3⟩ := hp j x (by simpa using e)
      exact ⟨b, by simpa using z1, z2, z3⟩
theorem KT.keysEq {H : Hp} {kvs : List (List Key × V)} {xs : List (List Key × Addr × Value)} (r : KT H kvs xs) : kvs.map (·.1) = xs.map (·.1) := by
  induction r with
  | nil => rfl
  | cons h _ ih => rw [List.map_cons, List.map_cons, ih, h.1]
/-- no key twice: all are stored in turn -/
theorem storedAll_new : ∀ (ps acc : List (List Key × Addr × Value)), ((acc ++ ps).map (·.1)).Nodup → storedAllH acc ps = acc ++ ps
  | [], acc, _ => by simp [storedAllH]
  | p :: ps, acc, hn => by
    have hno : atKey acc p.1 = none := by
      unfold atKey
      rw [Option.map_eq_none_iff, List.find?_eq_none]
      intro x hx hd
      have e : x.1 = p.1 := by simpa using hd
      rw [List.map_append, List.nodup_append] at hn
      exact hn.2.2 x.1 (List.mem_map_of_mem hx) p.1 (by simp) e
    show storedAllH (storedH acc p.1 p.2.1 p.2.2) ps = _
    rw [storedH_new hno, storedAll_new ps _ (by simpa using hn)]
    simp
theorem call_dictT {X : Cx} (hc : X.calm = true) (hu : X.A.units + 3 < cLine) :
    CallR X (.type "dict") (fun xs H Q => ∃ (a : Addr) (ps : List Addr) (kvs : List (List Key × V)), xs = [.ref a] ∧ SqL X.K H a (ps.map V.ref) ∧ Paired (PairT H) ps kvs ∧ (kvs.map (·.1)).Nodup ∧
      ∀ p, H p = none → Q (.ref p) (upd H p (.dT kvs))) := by
  intro pins s σ H xs us Q I r q
  obtain ⟨a, ps, kvs, ex, hq, hp, hn, q⟩ := q
  subst ex
  obtain ⟨u, eu, rx⟩ := vals1 r
  subst eu
  cases rx
  obtain ⟨its, rv, pl, hz⟩ := I.list hq
  have ei := refs_at rv
  subst ei
  rw [List.length_map] at hz
  obtain ⟨xs, rel, hl, hx⟩ := pairsT I.hok hp
  obtain ⟨o, n, ho, hcl, hd, hdat⟩ := pl
  have hnx : (xs.map (·.1)).Nodup := by rw [← KT.keysEq rel]; exact hn
  have hlen : kvs.length = xs.length := Paired.length rel
  let Ts : Nat → Addr := fun j => ps.getD j 0
  let prs : List (Value × Value) := xs.map fun x => (Value.ref x.2.1, x.2.2)
  have hpl : prs.length = ps.length := by show (xs.map _).length = _; rw [List.length_map, hl]
  have hitems : PairItems s.heap (ps.map Value.ref).toArray Ts prs := by
    refine ⟨by simp [hpl], fun j k v e => ?_⟩
    have e' : (xs.map fun x => (Value.ref x.2.1, x.2.2))[j]? = some (k, v) := e
    rw [List.getElem?_map] at e'
    obtain ⟨x, ex, e2⟩ := Option.map_eq_some_iff.mp e'
    obtain ⟨b, z1, z2, z3⟩ := hx j x ex
    cases e2
    have et : Ts j = b := by show ps.getD j 0 = b; rw [List.getD_eq_getElem?_getD, z1]; rfl
    rw [et]
    exact ⟨by simp [z1], .inl z2⟩
  have kis : ∀ x ∈ xs, (tupleKind (mixKind X.prog X.w)).is s.heap x.1 x.2.1 := fun x hm => by
    obtain ⟨j, hj, e⟩ := List.getElem_of_mem hm
    obtain ⟨b, _, _, z3⟩ := hx j x (by rw [← e]; exact List.getElem?_eq_getElem hj)
    exact z3
  refine call_dict_pairsH (knd := tupleKind (mixKind X.prog X.w)) (ps := xs) (PairArg.list a (ps.map Value.ref).toArray Ts prs) (I.ok.hd hc) (tupleKind_room_in1 (A := X.A.in1) (by show X.A.units + 1 + 1 < cLine; omega))
    ⟨⟨o, n, ho, hcl, hd, hdat⟩, hitems⟩ ⟨by rw [hpl, hl], fun i key v e => ?_⟩ (fun h' hk x hm => ?_) (by rw [hpl]; exact hz) fun h' tk hd' hk => ?_
  · have e' : (xs.map fun x => (Value.ref x.2.1, x.2.2))[i]? = some (key, v) := e
    rw [List.getElem?_map] at e'
    obtain ⟨x, ex, e2⟩ := Option.map_eq_some_iff.mp e'
    cases e2
    exact ⟨x.1, x.2.1, ex, rfl⟩
  · exact (tupleKind_stays (knd := mixKind X.prog X.w)).all h' (fun b o' _ e => hk b o' (Nat.ne_of_lt (Heap.lt_size e)) (by simp) e) _ _ (kis x hm)
  · rw [storedAll_new xs [] (by simpa using hnx), List.nil_append] at hd'
    have hm : (s.heap.objs.size == sysModules) = false := beq_eq_false_iff_ne.mpr (Nat.ne_of_gt I.big)
    have hfresh : H s.heap.objs.size = none := I.hok.fresh (Nat.le_refl _)
    obtain ⟨o', es, ep, h1, h2, h3, h4, _, h6⟩ := hd'
    have new : ObjOk X.prog X.w (upd H s.heap.objs.size (.dT kvs)) h' s.heap.objs.size (.dT kvs) := by
      refine ⟨by rw [hlen, hl]; exact hz, hm, xs, ?_, o', es, ep, h1, h2, h3, h4, h6⟩
      exact Paired.mapP rel fun p x z => ⟨z.1, by rw [upd_ne (ne_of_none z.2.1 hfresh)]; exact z.2.1, z.2.2⟩
    exact ⟨.ref s.heap.objs.size, upd H s.heap.objs.size (.dT kvs), I.laid (t' := tk) (fun b o e => hk b o (by simp) e) (Nat.le_refl _) new, rfl, q _ hfresh⟩
end Rt
set_option Elab.async false
set_option linter.all false
set_option maxRecDepth 100000
set_option maxHeartbeats 2000000
namespace Rt
open PySem PySem.Spec PyProof.Rows L2
section
variable {prog : Program} {w : World} {K : Type} [DecidableEq K] {knd : HeapKind prog w K} {A : Around} {E : Value → Shared → Prop} {s : Shared}
/-- two dicts of object keys: as many entries, each entry of the one found in the other with an equal value -/
theorem samePairsT {nm : String} {a b : Addr} {xs ys : List (K × Addr × Value)} {Q : Bool → Shared → Prop} (hu : knd.room A) (ha : (a == sysModules) = false) (hb : (b == sysModules) = false)
    (da : s.heap.DictOfH knd a xs) (db : s.heap.DictOfH knd b ys) (hl : xs.length = ys.length)
    (hits : ∀ x ∈ xs, ∃ (j : Nat) (p : Addr × Value), ys[j]? = some (x.1, p) ∧ SeqAt.EqP prog w A s x.2.2 p.2 true) (h : Q true s) :
    wpAny (model prog w) A (Builtin.Dict.samePairs nm a b) Q E s := by
  obtain ⟨oa, es, ep, hoa, _, hda, hea, hisa, hna⟩ := da
  obtain ⟨ob, es', ep', hob, _, hdb, heb, hisb, hnb⟩ := db
  have hxa : es.size = xs.length := size_of_entries hea
  have hxb : es'.size = ys.length := size_of_entries heb
  have hsz : es.size = es'.size := by rw [hxa, hxb, hl]
  unfold Builtin.Dict.samePairs Builtin.Dict.showsAll
  rw [if_neg (show ¬ (a == sysModules) = true by rw [ha]; exact Bool.false_ne_true), if_neg (show ¬ (b == sysModules) = true by rw [hb]; exact Bool.false_ne_true)]
  refine wpAny_bind (wpAny_pure (wpAny_bind (wpAny_pure (wpAny_bind (wpAny_dictEntries hoa hda ?_)))))
  dsimp only
  refine wpAny_bind (wpAny_dictEntries hob hdb ?_)
  rw [if_neg (by rw [hsz]; simp)]
  refine wpAny_bind (wpAny_dictEpoch hoa hda (wpAny_bind ?_))
  rw [Std.Legacy.Range.forIn_eq_forIn_range']
  simp only [Std.Legacy.Range.size, Nat.sub_zero, Nat.add_sub_cancel, Nat.div_one]
  refine wpAny_forIn_list _ (fun rest q s' => s' = s ∧ q = (none, ()) ∧ ∃ i, rest = List.range' i (es.size - i) ∧ i ≤ es.size) _ ?_ ?_ _ _ ⟨rfl, rfl, 0, by simp, Nat.zero_le _⟩
  · rintro x rest q s' ⟨es1, eq1, i, hr, hi⟩
    subst es1
    subst eq1
    have hlt : i < es.size := by
      rcases Nat.lt_or_ge i es.size with z | z
      · exact z
      · rw [Nat.sub_eq_zero_of_le z] at hr
        simp at hr
    obtain ⟨ex, hrest⟩ : x = i ∧ rest = List.range' (i + 1) (es.size - (i + 1)) := by
      have e : es.size - i = (es.size - (i + 1)) + 1 := by omega
      rw [e, List.range'_succ] at hr
      injection hr with h1 h2
      exact ⟨h1, h2⟩
    subst ex
    have hlx : x < xs.length := by rw [← hxa]; exact hlt
    obtain ⟨y, hy⟩ : ∃ y, xs[x]? = some y := ⟨_, List.getElem?_eq_getElem hlx⟩
    have hm : y ∈ xs := List.mem_of_getElem? hy
    have hent : es[x]? = some (entryOfKey knd y) := by
      rw [entry_at hea x, hy]
      rfl
    refine wpAny_bind (wpAny_dictEntries hoa hda ?_)
    rw [hent]
    obtain ⟨j, p, hj, hv⟩ := hits y hm
    have hkey : knd.is s'.heap y.1 y.2.1 := hisa y hm
    refine wpAny_bind (wpAny_holding (wpAny_bind ?_))
    refine wpAny_dictFind_heap (k := y.1) hu hkey hob hdb heb hisb hnb (fun no => absurd hj (no j p)) fun j' p' hj' => ?_
    have ej : j' = j := idxH_unique hnb hj' hj
    subst ej
    have ent2 : es'[j']? = some (entryOfKey knd (y.1, p)) := by
      rw [entry_at heb j', hj]
      rfl
    refine wpAny_bind (wpAny_dictEntries hob hdb ?_)
    rw [ent2]
    refine wpAny_holding (hv _ _ ?_)
    show wpAny _ _ (if (!true) = true then _ else _) _ _ _
    rw [if_neg (by decide)]
    refine wpAny_bind (wpAny_dictEpoch hoa hda ?_)
    rw [if_neg (by simp)]
    exact wpAny_pure ⟨rfl, rfl, x + 1, hrest, hlt⟩
  · rintro q s' ⟨es1, eq1, _⟩
    subst es1
    subst eq1
    exact wpAny_pure h
theorem rc_dictsT {a b : Addr} {xs ys : List (K × Addr × Value)} {Q : Value → Shared → Prop} (hr : knd.room A.in1) (hu : A.units < cLine) (ha : (a == sysModules) = false) (hb : (b == sysModules) = false)
    (da : s.heap.DictOfH knd a xs) (db : s.heap.DictOfH knd b ys) (hl : xs.length = ys.length)
    (hits : ∀ x ∈ xs, ∃ (j : Nat) (p : Addr × Value), ys[j]? = some (x.1, p) ∧ SeqAt.EqP prog w A.in1 s x.2.2 p.2 true) (h : Q (.bool true) s) :
    wpAny (model prog w) A (richCompare .Eq (.ref a) (.ref b)) Q E s := by
  have ta : s.TypeIs (.ref a) "dict" := by
    obtain ⟨o, _, _, e, ex, _⟩ := da
    exact ⟨o, e, ex.1⟩
  have tb : s.TypeIs (.ref b) "dict" := by
    obtain ⟨o, _, _, e, ex, _⟩ := db
    exact ⟨o, e, ex.1⟩
  refine wpAny_richCompare_same_room (op := .Eq) ta tb PySem.F.slot_dict_eq (wpAny_call_entry PySem.F.slot_dict_eq ta PySem.F.entry_dict_eq ?_ (PySem.F.args_dict_eq_2 _ _)) hu
  show wpAny _ _ (Builtin.Dict.dictSlotArgs "__eq__" ⟨[.ref a, .ref b], []⟩ >>= _) _ _ s
  refine wpAny_bind ?_
  unfold Builtin.Dict.dictSlotArgs
  refine wpAny_bind (wpAny_notOrdered_dict ta ?_)
  show wpAny _ _ (pure (Value.ref a, Value.ref b)) _ _ s
  refine wpAny_pure (wpAny_bind (wpAny_isInstance (T := "dict") tb PySem.F.sub_dict_dict ?_))
  simp only [Bool.not_true, Bool.false_eq_true, if_false]
  refine wpAny_bind (wpAny_pure (wpAny_bind (wpAny_pure (wpAny_bind (samePairsT hr ha hb da db hl hits ?_)))))
  refine wpAny_pure ⟨_, rfl, ?_, ?_⟩
  · exact fun x => nomatch x
  · simpa using h
end
/-- d == e: tuple keys; each key of the one is one of the other, the values equal as data -/
def rEqT (K : PySem.W.Frag) : R2 := fun x y H Q => ∃ (a b : Addr) (ks ls : List (List Key × V)), x = .ref a ∧ y = .ref b ∧ H a = some (.dT ks) ∧ H b = some (.dT ls) ∧ ks.length = ls.length ∧
  (∀ p ∈ ks, ∃ (u : V) (d e : PyData), valV ls p.1 = some u ∧ Dp K H p.2 d ∧ Dp K H u e ∧ SeqAt.shaped d = true ∧ SeqAt.shaped e = true ∧ PyData.eqv d e = true) ∧ Q (.bl true) H
theorem paired_mem {α β : Type} {G : α → β → Prop} {l : List α} {m : List β} (h : Paired G l m) : ∀ x ∈ m, ∃ y ∈ l, G y x := by
  induction h with
  | nil => intro x hx; cases hx
  | cons g _ ih =>
    intro x hx
    rcases List.mem_cons.mp hx with e | hx
    · subst e
      exact ⟨_, List.mem_cons_self, g⟩
    · obtain ⟨y, hy, z⟩ := ih x hx
      exact ⟨y, List.mem_cons_of_mem _ hy, z⟩
theorem atKey_ix {K : Type} [DecidableEq K] {xs : List (K × Addr × Value)} {k : K} {p : Addr × Value} (h : atKey xs k = some p) : ∃ j : Nat, xs[j]? = some (k, p) := by
  unfold atKey at h
  obtain ⟨x, hx, e⟩ := Option.map_eq_some_iff.mp h
  have hk := List.find?_some hx
  have hm := List.mem_of_find?_eq_some hx
  obtain ⟨j, hj, q⟩ := List.getElem_of_mem hm
  refine ⟨j, ?_⟩
  rw [List.getElem?_eq_getElem hj, q]
  have hk' : x.1 = k := by simpa using hk
  obtain ⟨x1, x2⟩ := x
  simp only at hk' e
  rw [hk', e]
theorem op_eqT {X : Cx} (hu : X.A.units + 70 < cLine) : OpR X (compareOp .Eq) (rEqT X.K) := by
  intro pins s σ H x y v u Q I rx ry hq
  obtain ⟨a, b, ks, ls, rfl, rfl, ha, hb, hl, hv, q⟩ := hq
  cases rx
  cases ry
  obtain ⟨_, ya, xs, ra, da⟩ := dt_of I.hok ha
  obtain ⟨_, yb, ys, rb, db⟩ := dt_of I.hok hb
  show wpAny (model X.prog X.w) X.A (richCompare .Eq (.ref a) (.ref b)) (EP X pins σ Q) X.xe s
  refine rc_dictsT (tupleKind_room_in1 (by omega)) (by omega) ya yb da db (by rw [← Paired.length ra, ← Paired.length rb]; exact hl) (fun x hx => ?_) ⟨.bl true, H, I, rfl, q⟩
  obtain ⟨p, hp, z1, z2, z3⟩ := paired_mem ra x hx
  obtain ⟨u, d, e, hu', hd, he, sd, se, eq⟩ := hv p hp
  obtain ⟨wv, hw, rw'⟩ := RelO.some_of (v := u) (o := (atKey ys p.1).map (·.2)) (by rw [← hu']; exact rb.val p.1)
  obtain ⟨q2, hq2, eq2⟩ := Option.map_eq_some_iff.mp hw
  obtain ⟨j, hj⟩ := atKey_ix hq2
  obtain ⟨as, r1⟩ := Dp.reads I d p.2 x.2.2 hd z3
  obtain ⟨bs, r2⟩ := Dp.reads I e u q2.2 he (by rw [eq2]; exact rw')
  have E1 := PySem.W.keq_at (A := X.A) r1 r2 sd se (by show X.A.units + 1 + 64 < cLine; omega)
  rw [eq] at E1
  exact ⟨j, q2, by rw [← z1]; exact hj, E1.eqP⟩
end Rt
set_option Elab.async false
set_option linter.all false
set_option maxRecDepth 100000
set_option maxHeartbeats 2000000
namespace Rt
open PySem PySem.Spec PyProof.Rows L2
/-! ### repr(xs) of data, where no repr runs around -/
theorem call_reprD {X : Cx} (hg : X.A.guards = some []) (hu : X.A.units + 70 < cLine) : CallR X (.builtin "repr") (fun xs H Q => ∃ (a : Addr) (d : PyData), xs = [.ref a] ∧ Dp X.K H (.ref a) d ∧ d.showable = true ∧ d.hasDict = false ∧ d.depth ≤ 60 ∧ d.shown.length ≤ sizeLine ∧ Q (.str d.shown) H) := by
  intro pins s σ H xs us Q I r h
  obtain ⟨a, d, rfl, hd, h1, h2, h3, h4, q⟩ := h
  obtain ⟨u, rfl, rx⟩ := vals1 r
  cases rx
  obtain ⟨as, rd⟩ := Dp.reads I d (.ref a) (.ref a) hd rfl
  exact repr_of_reads' rd h1 (fun z => by rw [h2] at z; cases z) hg (by omega) (fun _ _ e => e) (fun h' u tk hk => ⟨.str d.shown, H, I.kept (t' := tk) hk, ⟨u, rfl⟩, q⟩) h4
/-! ### own operators: a | b, a == b, a != b -/
section
variable {X : Cx} {CX : CXT} {n : Nat} {C f : Addr} {fd : FuncData} {ps : List Str} {sp : Sp}
/-- what an own operator's method is asked: the two, the promise -/
def rOwn (C D : Addr) (sp : Sp) (g : V → V) : R2 := fun x y H Q => ∃ (a b dx dy : Addr) (fs gs : List (Str × V)), x = .ref a ∧ y = .ref b ∧ H a = some (.ins C dx fs) ∧ H b = some (.ins D dy gs) ∧
  sp [.ref a, .ref b] H (fun v H' => Q (g v) H') E0
theorem back_of {pins : List (Addr × Obj)} {σ : L2.St} {Q : VK} {v : Value} {s : Shared} (h : EP X pins σ Q v s) : PySem.W.CmpBack (EP X pins σ Q) v s := by
  obtain ⟨z, H', I, r, q⟩ := id h
  cases z <;> first
    | (cases r; exact h)
    | (obtain ⟨t, rfl⟩ := r; exact h)
theorem op_orOwn (F : FnOk X.prog X.w X.K X.mg X.base CX n f fd ps sp) (hr : Room n X.A) (hb : Binds X.K fd ps []) (hx : Passes CX X E0) (hs : PySem.W.findIn X.K (.ref C) "__or__" = some (some (.ref f))) (hf : PySem.W.isFn X.K (.ref f) = true)
    (hc : PySem.W.selfFirst X.K C = true) : OpR X (binaryOp .BitOr) (rOwn C C sp id) := by
  intro pins s σ H x y v u Q I rx ry hq
  obtain ⟨a, b, dx, dy, fs, gs, rfl, rfl, ha, hb', q⟩ := hq
  cases rx
  cases ry
  obtain ⟨mA, J, _⟩ := ins_get I.hok ha
  obtain ⟨mB, J', _⟩ := ins_get I.hok hb'
  obtain ⟨od, J, _⟩ := J.look
  obtain ⟨od', J', _⟩ := J'.look
  obtain ⟨m, hF⟩ := I.fr
  refine PySem.W.binop_K (op := .BitOr) hF I.ok.mod.kin J J'.type hc hs hf ?_
  exact thn (run_fn (us := [.ref a, .ref b]) (vs := [.ref a, .ref b]) F hr hb .nil hx I (.cons rfl (.cons rfl .nil)) q) fun _ _ z => back_of z
theorem op_eqOwn {D : Addr} (F : FnOk X.prog X.w X.K X.mg X.base CX n f fd ps sp) (hr : Room n X.A) (hb : Binds X.K fd ps []) (hx : Passes CX X E0) (hs : PySem.W.findIn X.K (.ref C) "__eq__" = some (some (.ref f))) (hf : PySem.W.isFn X.K (.ref f) = true)
    (hn : PySem.W.notFirst X.K C (.ref D) = true) : OpR X (compareOp .Eq) (rOwn C D sp id) := by
  intro pins s σ H x y v u Q I rx ry hq
  obtain ⟨a, b, dx, dy, fs, gs, rfl, rfl, ha, hb', q⟩ := hq
  cases rx
  cases ry
  obtain ⟨mA, J, _⟩ := ins_get I.hok ha
  obtain ⟨mB, J', _⟩ := ins_get I.hok hb'
  obtain ⟨od, J, _⟩ := J.look
  obtain ⟨od', J', _⟩ := J'.look
  obtain ⟨m, hF⟩ := I.fr
  refine PySem.W.cmp_K (op := .Eq) hr.units0 hF I.ok.mod.kin J J'.type hn hs hf ?_
  exact thn (run_fn (us := [.ref a, .ref b]) (vs := [.ref a, .ref b]) F hr hb .nil hx I (.cons rfl (.cons rfl .nil)) q) fun _ _ z => back_of z
/-- not of a flag -/
def negV : V → V
  | .bl b => .bl (!b)
  | v => v
/-- a class whose != is object's, and whose own == is the def at f -/
structure NeC (K : PySem.W.Frag) (C f : Addr) : Prop where
  ne : PySem.W.findIn K (.ref C) "__ne__" = some (some (.builtin "object.__ne__"))
  eq : PySem.W.findIn K (.ref C) "__eq__" = some (some (.ref f))
  fn : PySem.W.isFn K (.ref f) = true
  ob : PySem.W.subIn K (.ref C) (.type "object") = some true
/-- x.__ne__(v), x an instance of such a class: not of its own == -/
theorem try_neOwn (T : NeC X.K C f) (F : FnOk X.prog X.w X.K X.mg X.base CX n f fd ps sp) (hr : Room (n + 1) X.A) (hb : Binds X.K fd ps []) (hx : Passes CX X E0)
    {pins : List (Addr × Obj)} {σ : L2.St} {H : Hp} {s : Shared} {a dx : Addr} {fs : List (Str × V)} {y : V} {u : Value} {R : Bool → Hp → Prop} {Q : Option Value → Shared → Prop} (I : Inv X pins σ H s) (ha : H a = some (.ins C dx fs)) (ry : RelV y u)
    (h : sp [.ref a, y] H (fun v H' => ∃ b, v = .bl b ∧ R b H') E0) (hQ : ∀ b H' s', Inv X pins σ H' s' → R b H' → Q (some (.bool (!b))) s') :
    wpAny (model X.prog X.w) X.A (tryCompare (.ref a) "__ne__" u) Q X.xe s := by
  obtain ⟨mA, J, _⟩ := ins_get I.hok ha
  obtain ⟨od, J, _⟩ := J.look
  have kin := I.kIn
  -- the call of object.__ne__
  have body : wpAny (model X.prog X.w) X.A.in1 (call (.ref f) [.ref a, u]) (fun v s' => ∃ b, v = .bool b ∧ Q (some (.bool (!b))) s') X.xe s := by
    have e0 := I.env0.in1
    have hl := F.len _ _ _ _ h
    have r2 : Vals [V.ref a, y] [Value.ref a, u] := .cons rfl (.cons ry .nil)
    refine wpAny_call (codeAny_mono (F.run X.A.in1 X.stack s H ⟨[.ref a, u], []⟩ [.ref a, u] [.ref a, y] _ E0 hr.in1 e0 (by
      have := hb s [.ref a, u] I.kIn (by simpa using hl)
      simpa using this) r2 h) fun r s' hq => ?_)
    cases r with
    | error e => exact hx pins σ H s e s' I hq
    | ok fl =>
      cases fl with
      | ret w =>
        obtain ⟨z, H', I', rz, b, ez, qz⟩ := I.after hq
        subst ez
        cases rz
        exact ⟨b, rfl, hQ b H' s' I' qz⟩
      | next => exact False.elim hq
      | brk => exact False.elim hq
      | cont => exact False.elim hq
  have hu1 : X.A.in1.units < cLine := by
    have := hr.un
    show X.A.units + 1 < cLine
    omega
  have sub : PySem.W.Looks (model X.prog X.w) s.heap (isInstance (.ref a) (.type "object")) true := J.type.andThen (PySem.W.looks_subIn kin T.ob)
  have whole : wpAny (model X.prog X.w) X.A (call (.builtin "object.__ne__") [.ref a, u]) (fun v s' => ∃ b, v = .bool b ∧ Q (some (.bool b)) s') X.xe s := by
    refine wpAny_call (codeAny_call_builtin PySem.F.cmp_object.ne.plain PySem.F.cmpEntry_ne ?_)
    refine @PySem.W.check_slot (model X.prog X.w) _ _ s "object.__ne__" "object" "__ne__" (.ref a) [u] [] _ PySem.F.cmpKind_ne PySem.F.cmpSplit_ne sub (PySem.F.cmpArgs_ne _ _) ?_
    unfold Builtin.«object.__ne__»
    refine wpAny_bind (wpAny_of_eq (a := ((Value.ref a : Value), [u])) (by first | rfl | (simp only [slotArgs]; rfl)) ?_)
    refine wpAny_bind (wpAny_cRoomFor hu1 ?_)
    refine wpAny_bind (PySem.W.ifBound_K kin J T.eq T.fn (wpAny_mono body (fun v s' hv => ?_) fun _ _ e => e))
    obtain ⟨b, rfl, q⟩ := hv
    refine wpAny_bind (wpAny_truthy_bool (wpAny_pure ?_))
    exact ⟨!b, rfl, q⟩
  simp only [tryCompare, callSpecialIfBound?, bindSpecialIfBound?]
  refine wpAny_bind (wpAny_holding (wpAny_bind (wpAny_bind (wpAny_bind (J.type.here ((PySem.W.looks_findIn kin T.ne).here ?_))))))
  have fin : wpAny (model X.prog X.w) X.A (call (.builtin "object.__ne__") ([.ref a] ++ [u]) >>= fun v => pure (some v)) (fun v s' => wpAny (model X.prog X.w) X.A (match v with | some Value.notImplemented => pure none | none => pure none | some v => pure (some v)) Q X.xe s') X.xe s := by
    refine wpAny_bind (wpAny_mono whole (fun v s' hv => ?_) fun _ _ e => e)
    obtain ⟨b, rfl, q⟩ := hv
    exact wpAny_pure (wpAny_pure q)
  refine wpAny_bind (wpAny_askSetting (wpAny_ite ?_))
  split
  · exact wpAny_bind (wpAny_of_eq (PySem.F.cmp_object.ne.bind (.ref a)) (wpAny_pure fin))
  · exact wpAny_tryCatch (wpAny_bind (wpAny_of_eq (PySem.F.cmp_object.ne.bind (.ref a)) (wpAny_pure fin)))
end
end Rt
set_option Elab.async false
set_option linter.all false
set_option maxRecDepth 100000
set_option maxHeartbeats 2000000
namespace Rt
open PySem PySem.Spec PyProof.Rows L2
section
variable {X : Cx} {CX : CXT} {n : Nat} {C D f : Addr} {fd : FuncData} {ps : List Str} {sp : Sp}
theorem op_neOwn (T : NeC X.K C f) (F : FnOk X.prog X.w X.K X.mg X.base CX n f fd ps sp) (hr : Room (n + 1) X.A) (hb : Binds X.K fd ps []) (hx : Passes CX X E0) (hn : PySem.W.notFirst X.K C (.ref D) = true) :
    OpR X (compareOp .NotEq) (fun x y H Q => ∃ (a b dx dy : Addr) (fs gs : List (Str × V)), x = .ref a ∧ y = .ref b ∧ H a = some (.ins C dx fs) ∧ H b = some (.ins D dy gs) ∧ sp [.ref a, .ref b] H (fun v H' => ∃ k, v = .bl k ∧ Q (.bl (!k)) H') E0) := by
  intro pins s σ H x y v u Q I rx ry hq
  obtain ⟨a, b, dx, dy, fs, gs, rfl, rfl, ha, hb', q⟩ := hq
  cases rx
  cases ry
  obtain ⟨mA, J, _⟩ := ins_get I.hok ha
  obtain ⟨mB, J', _⟩ := ins_get I.hok hb'
  obtain ⟨od, J, _⟩ := J.look
  obtain ⟨od', J', _⟩ := J'.look
  have one : wpAny (model X.prog X.w) X.A (tryCompare (.ref a) "__ne__" (.ref b)) (fun r s' => ∃ v, r = some v ∧ EP X pins σ Q v s') X.xe s :=
    try_neOwn T F hr hb hx I ha (show RelV (.ref b) (.ref b) from rfl) q fun k H' s' I' z => ⟨_, rfl, .bl (!k), H', I', rfl, z⟩
  show wpAny (model X.prog X.w) X.A (richCompare .NotEq (.ref a) (.ref b)) (EP X pins σ Q) X.xe s
  unfold richCompare
  simp only [oneThing_ref]
  refine wpAny_holding (wpAny_bind (wpAny_cRoomFor hr.units0 (wpAny_bind (J.type.here (wpAny_bind (J'.type.here ?_))))))
  split
  · rename_i q2
    have e : PySem.W.subIn X.K (.ref D) (.ref C) = some false := by
      rcases Bool.or_eq_true_iff.mp hn with e | e
      · rw [beq_iff_eq.mp e] at q2
        simp at q2
      · exact beq_iff_eq.mp e
    refine wpAny_bind ((PySem.W.looks_subIn I.kIn e).here ?_)
    simp only [Bool.false_eq_true, if_false]
    refine wpAny_bind (wpAny_mono one (fun r s' z => ?_) fun _ _ e => e)
    obtain ⟨v, rfl, hq⟩ := z
    exact wpAny_pure hq
  · refine wpAny_bind (wpAny_pure ?_)
    simp only [Bool.false_eq_true, if_false]
    refine wpAny_bind (wpAny_mono one (fun r s' z => ?_) fun _ _ e => e)
    obtain ⟨v, rfl, hq⟩ := z
    exact wpAny_pure hq
/-- v != x, x an instance whose class's own == is asked, v of a built-in type that declines -/
theorem ne_reflected {T id : String} {pins : List (Addr × Obj)} {σ : L2.St} {H : Hp} {s : Shared} {b dx : Addr} {gs : List (Str × V)} {y : V} {u : Value} {Q : VK} (TN : NeC X.K C f) (F : FnOk X.prog X.w X.K X.mg X.base CX n f fd ps sp) (hr : Room (n + 1) X.A) (hb : Binds X.K fd ps []) (hx : Passes CX X E0)
    (I : Inv X pins σ H s) (hbo : H b = some (.ins C dx gs)) (ry : RelV y u) (hT : s.TypeIs u T) (S : Slot T "__ne__" id) (hsub : PySem.W.subIn X.K (.ref C) (.type T) = some false)
    (hdec : ∀ Q' : Value → Shared → Prop, Q' .notImplemented s → wpAny (model X.prog X.w) X.A (call (.builtin id) [u, .ref b]) Q' X.xe s)
    (q : sp [.ref b, y] H (fun v H' => ∃ k, v = .bl k ∧ Q (.bl (!k)) H') E0) :
    wpAny (model X.prog X.w) X.A (compareOp .NotEq u (.ref b)) (EP X pins σ Q) X.xe s := by
  obtain ⟨mA, J, _⟩ := ins_get I.hok hbo
  obtain ⟨od, J, _⟩ := J.look
  have one : wpAny (model X.prog X.w) X.A (tryCompare (.ref b) "__ne__" u) (fun r s' => ∃ v, r = some v ∧ EP X pins σ Q v s') X.xe s :=
    try_neOwn TN F hr hb hx I hbo ry q fun k H' s' I' z => ⟨_, rfl, .bl (!k), H', I', rfl, z⟩
  show wpAny (model X.prog X.w) X.A (richCompare .NotEq u (.ref b)) (EP X pins σ Q) X.xe s
  have hne : (Value.type T != Value.ref C) = true := rfl
  unfold richCompare
  simp only [hT.oneThing_none]
  refine wpAny_holding (wpAny_bind (wpAny_cRoomFor hr.units0 (wpAny_bind (wpAny_typeOf hT (wpAny_bind (J.type.here ?_))))))
  have hne' : (Value.ref C != Value.type T) = true := rfl
  simp only [hne, if_true]
  refine wpAny_bind ((PySem.W.looks_subIn I.kIn hsub).here ?_)
  simp only [Bool.false_eq_true, if_false, Bool.not_false, if_true]
  refine wpAny_bind (m := tryCompare u _ (.ref b)) (wpAny_tryCompare_declines hT S (hdec _ ⟨rfl, ?_⟩))
  refine wpAny_bind (m := tryCompare (.ref b) _ u) (wpAny_mono one (fun r s' z => ?_) fun _ _ e => e)
  obtain ⟨v, rfl, hq⟩ := z
  exact wpAny_pure hq
end
end Rt
set_option Elab.async false
set_option linter.all false
set_option maxRecDepth 100000
set_option maxHeartbeats 2000000
namespace Rt
open PySem PySem.Spec PyProof.Rows L2
section
variable {prog : Program} {w : World} {A : Around} {E : Value → Shared → Prop} {s : Shared}
theorem list_dec {l b : Addr} {items : Array Value} {n : Nat} {Q : Value → Shared → Prop} (hl : s.heap.get? l = some { cls := .type "list", data := .seq items n })
    (hi : PySem.W.Looks (model prog w) s.heap (isInstance (.ref b) (.type "list")) false) (q : Q .notImplemented s) :
    wpAny (model prog w) A (call (.builtin "list.__ne__") [.ref l, .ref b]) Q E s := by
  refine GQ.call_here PySem.F.slot_list_ne ⟨_, hl, rfl⟩ PySem.F.entry_list_ne (PySem.F.args_list_ne_2 _ _) ?_
  refine wpAny_bind (m := slotArgs "__ne__" 1 ⟨[.ref l, .ref b], []⟩) (wpAny_of_eq (a := ((Value.ref l : Value), [Value.ref b])) (by first | rfl | (simp only [slotArgs]; rfl)) ?_)
  refine wpAny_bind (m := isInstance (.ref b) (.type "list")) (hi.here ?_)
  simp only [Bool.not_false, if_true]
  exact wpAny_pure q
theorem dict_dec {d b : Addr} {o : Obj} {es : Array DictEntry} {ep : Nat} {Q : Value → Shared → Prop} (hd : s.heap.get? d = some o) (hc : o.cls = .type "dict")
    (hi : PySem.W.Looks (model prog w) s.heap (isInstance (.ref b) (.type "dict")) false) (q : Q .notImplemented s) :
    wpAny (model prog w) A (call (.builtin "dict.__ne__") [.ref d, .ref b]) Q E s := by
  have ta : s.TypeIs (.ref d) "dict" := ⟨o, hd, hc⟩
  refine GQ.call_here PySem.F.slot_dict_ne ta PySem.F.entry_dict_ne (PySem.F.args_dict_ne_2 _ _) ?_
  refine wpAny_bind (m := Builtin.Dict.dictSlotArgs "__ne__" ⟨[.ref d, .ref b], []⟩) ?_
  unfold Builtin.Dict.dictSlotArgs
  refine wpAny_bind (wpAny_notOrdered_dict ta ?_)
  show wpAny _ _ (pure (Value.ref d, Value.ref b)) _ _ s
  refine wpAny_pure ?_
  refine wpAny_bind (m := isInstance (.ref b) (.type "dict")) (hi.here ?_)
  simp only [Bool.not_false, if_true]
  exact wpAny_bind (wpAny_rule (wpAny_pure q))
theorem str_dec {x : Str} {t : Tok} {b C : Addr} {dx : Addr} {Q : Value → Shared → Prop} (hb : s.heap.get? b = some (PySem.W.instObj C dx)) (q : Q .notImplemented s) :
    wpAny (model prog w) A (call (.builtin "str.__ne__") [.str x t, .ref b]) Q E s := by
  refine GQ.call_here PySem.F.slot_str_ne (typeIs_str s x t) PySem.F.entry_str_ne (PySem.F.args_str_ne_2 _ _) ?_
  obtain ⟨hp, g, d, tk, os⟩ := s
  wp_walk using AutoSeq1.wpAny_loadPart' hb
  exact q
theorem none_dec {b : Addr} {Q : Value → Shared → Prop} (q : Q .notImplemented s) : wpAny (model prog w) A (call (.builtin "NoneType.__ne__") [.none, .ref b]) Q E s :=
  call_gives PySem.F.slot_NoneType_ne rfl PySem.F.entry_NoneType_ne (PySem.F.args_NoneType_ne_2 _ _) (SeqAt.NoneType___ne___none_ref_0 b) q
end
end Rt
set_option Elab.async false
set_option linter.all false
set_option maxRecDepth 100000
set_option maxHeartbeats 2000000
namespace Rt
open PySem PySem.Spec PyProof.Rows L2
theorem OpR.or' {X : Cx} {g : Value → Value → Sem Value} {r r' : R2} (h : OpR X g r) (h' : OpR X g r') : OpR X g (fun x y H Q => r x y H Q ∨ r' x y H Q) := by
  intro pins s σ H x y v u Q I rx ry q
  rcases q with q | q
  · exact h pins s σ H x y v u Q I rx ry q
  · exact h' pins s σ H x y v u Q I rx ry q
/-- an own class is below none of the four built-in types -/
structure Apart (K : PySem.W.Frag) (C : Addr) : Prop where
  non : PySem.W.subIn K (.ref C) (.type "NoneType") = some false
  str : PySem.W.subIn K (.ref C) (.type "str") = some false
  lst : PySem.W.subIn K (.ref C) (.type "list") = some false
  dct : PySem.W.subIn K (.ref C) (.type "dict") = some false
/-- None, a text, a list, a dict with tuple keys -/
def Plain4 (x : V) (H : Hp) : Prop := x = .non ∨ (∃ z, x = .str z) ∨ (∃ l xs, x = .ref l ∧ H l = some (.lst xs)) ∨ ∃ d kvs, x = .ref d ∧ H d = some (.dT kvs)
section
variable {X : Cx} {CX : CXT} {n : Nat} {C f : Addr} {fd : FuncData} {ps : List Str} {sp : Sp}
theorem op_neRev (T : NeC X.K C f) (P : Apart X.K C) (G : FnOk X.prog X.w X.K X.mg X.base CX n f fd ps sp) (hr : Room (n + 1) X.A) (hb : Binds X.K fd ps []) (hx : Passes CX X E0) :
    OpR X (compareOp .NotEq) (fun x y H Q => ∃ (b dx : Addr) (gs : List (Str × V)), y = .ref b ∧ H b = some (.ins C dx gs) ∧ Plain4 x H ∧ sp [.ref b, x] H (fun v H' => ∃ k, v = .bl k ∧ Q (.bl (!k)) H') E0) := by
  intro pins s σ H x y v u Q I rx ry hq
  obtain ⟨b, dx, gs, rfl, hbo, hp, q⟩ := hq
  cases ry
  obtain ⟨mB, J, _, _, _, e0⟩ := ins_get I.hok hbo
  obtain ⟨od, J, _⟩ := J.look
  have hins : s.heap.get? b = some (PySem.W.instObj C dx) := by
    have z : ObjOk X.prog X.w H s.heap b (.ins C dx gs) := I.hok b _ hbo
    exact z.2.2.2.1
  rcases hp with rfl | ⟨z, rfl⟩ | ⟨l, xs, rfl, hl⟩ | ⟨d, kvs, rfl, hd⟩
  · cases rx
    exact ne_reflected T G hr hb hx I hbo (show RelV .non .none from rfl) (show s.TypeIs .none "NoneType" from rfl) PySem.F.slot_NoneType_ne P.non (fun _ z => none_dec z) q
  · obtain ⟨t, rfl⟩ := rx
    exact ne_reflected T G hr hb hx I hbo (show RelV (.str z) (.str z t) from ⟨t, rfl⟩) (typeIs_str s z t) PySem.F.slot_str_ne P.str (fun _ z => str_dec hins z) q
  · cases rx
    obtain ⟨_, its, m, _, e⟩ := I.hok l _ hl
    exact ne_reflected T G hr hb hx I hbo (show RelV (.ref l) (.ref l) from rfl) (show s.TypeIs (.ref l) "list" from ⟨_, e, rfl⟩) PySem.F.slot_list_ne P.lst (fun _ z => list_dec e (J.type.andThen (PySem.W.looks_subIn I.kIn P.lst)) z) q
  · cases rx
    obtain ⟨_, _, _, _, o, es, ep, e1, e2, _⟩ := I.hok d _ hd
    exact ne_reflected T G hr hb hx I hbo (show RelV (.ref d) (.ref d) from rfl) (show s.TypeIs (.ref d) "dict" from ⟨_, e1, e2.1⟩) PySem.F.slot_dict_ne P.dct (fun _ z => dict_dec (es := es) (ep := ep) e1 e2.1 (J.type.andThen (PySem.W.looks_subIn I.kIn P.dct)) z) q
end
/-! ### isinstance(e, T) of a caught error of the class at D that has fields -/
structure ExcF (K : PySem.W.Frag) (D : Addr) : Prop where
  hcl : (PySem.W.clsIn K D).isSome = true
  hg : PySem.W.findIn K (.ref D) "__getattribute__" = some (some (.builtin "BaseException.__getattribute__"))
  hk : PySem.W.findIn K (.ref D) "__getattr__" = some none
  hs : PySem.W.subIn K (.ref D) (.type "BaseException") = some true
  ha : PySem.W.findIn K (.ref D) "__class__" = some (some (.builtin "object.__class__"))
  hn : PySem.W.specialIn K (.builtin "object.__class__") "__get__" = some (some (.builtin "getset_descriptor.__get__"))
  ht : PySem.W.takesIn K (.builtin "object.__class__") = some true
  hm : PySem.W.mroIn K D (.type "object") = some true
def rIsF (K : PySem.W.Frag) (D a : Addr) (cls : Value) (d : Option Addr) : List V → Hp → VK → Prop := fun xs H Q => ∃ (dd : Addr) (fs : List (Str × V)) (c : V) (cv : Value) (b : Bool), cls = .ref D ∧ d = some dd ∧ H dd = some (.xd fs) ∧
  xs = [.ref a, c] ∧ ClsV c cv ∧ PySem.W.kitOne K (.ref D) cv = some b ∧ Q (.bl b) H
theorem call_isF {X : Cx} {a D : Addr} {oe : Obj} {cls : Value} {d : Option Addr} {pn : List (Addr × Obj)} (C : ExcF X.K D) (hz : Zc cls d oe) (hf : ∃ vs, oe.data = .fields vs) :
    CallR (X.suite a ((a, oe) :: pn)) (.builtin "isinstance") (rIsF X.K D a cls d) := by
  intro pins s σ H xs us Q I r h
  obtain ⟨dd, fs, c, cv, b, ec, ed, hdd, rfl, hcv, e, q⟩ := h
  subst ec
  subst ed
  obtain ⟨u1, u2, rfl, rx, rt⟩ := vals2 r
  cases rx
  have ec := hcv.eq rt
  subst ec
  obtain ⟨hget, _⟩ := I.pin (a, oe) (List.mem_append.mpr (.inl List.mem_cons_self))
  obtain ⟨vs, hv⟩ := hf
  have hx : ObjOk X.prog X.w H s.heap dd (.xd fs) := I.hok dd _ hdd
  obtain ⟨mA, hns, hr⟩ := hx
  obtain ⟨od, ho, hl⟩ := lookIn_ns hns
  have J : PySem.W.InstAt s.heap a oe D (some od) := ⟨hget, hz.1, by unfold PySem.W.notCls; rw [hv] <;> rfl, by rw [hz.2]; exact ho⟩
  exact PySem.W.kia_one (PySem.W.kitx_exc C.hcl C.hg C.hk C.hs C.ha C.hn C.ht C.hm) I.kIn J e (fun z => nomatch z) fun tk => ⟨.bl b, H, I.kept (t' := tk) fun _ _ z => z, rfl, q⟩
end Rt
set_option Elab.async false
set_option linter.all false
set_option maxRecDepth 100000
set_option maxHeartbeats 2000000
namespace Rt
open PySem PySem.Spec PyProof.Rows L2
/-! ### a def called where no repr runs around: FnG; the law's end over it -/
structure FnG (P : Program) (w : World) (K : PySem.W.Frag) (mg : Str → Option Value) (base : Heap)
    (CX : CXT) (k : Nat) (f : Addr) (fd : FuncData) (ps : List Str) (sp : Sp) : Prop where
  len : ∀ vs H Q E, sp vs H Q E → vs.length = ps.length
  run : ∀ (A : Around) (outer : List Env) (s : Shared) (H : Hp) (args : Args)
    (us : List Value) (vs : List V) (Q : VK) (E : XK), Room k A → A.guards = some [] →
    Env0 P w K mg base A outer s H → BindsTo s fd args (ps.zip us) → Vals vs us → sp vs H Q E →
      codeAny (model P w) A (.call (.ref f) args) (CR CX outer P w H s Q E) s
section
variable {P : Program} {w : World} {K : PySem.W.Frag} {mg : Str → Option Value} {base : Heap}
/-- the rule for such a def -/
theorem Fun.okG {x qual : Str} {st : Stmt} {f : Addr} {fd : FuncData} {N ps : List Str} {k : Nat}
    {sp : Sp} (G : Fun K x qual st f fd) (S : FnScope N ps (defScope st))
    (len : ∀ vs H Q E, sp vs H Q E → vs.length = ps.length)
    (hbody : ∀ (cdv : Value) (A : Around) (outer : List Env) (s : Shared) (H : Hp) (vs : List V) (Q : VK) (E : XK),
      Room k (A.deeper (envOfC qual (defScope st) s.heap.objs.size f cdv)) → A.guards = some [] → sp vs H Q E →
      ∃ t, PSs (cxOf CX0 P w K mg base N qual (defScope st) f cdv A outer s H E).nox (defBody st) t ∧
        t { nx := fun _ H' => Q .non H', rt := Q } (start N vs) H) :
    FnG P w K mg base CX0 (k + 1) f fd ps sp := by
  obtain ⟨oc, od, kV, doc, pm, an, cdv, ct, osl, rfl, lk, hcd⟩ := G.ex
  refine ⟨len, ?_⟩
  intro A outer s H args us vs Q E hr hgu e0 hb r hsp
  have there : K.In s.heap := e0.mod.kin.keeps fun b o e => (e0.bs b o e).1
  have nolim : s.heap.NoLimit := e0.mod.nolimit.keeps fun b o e => (e0.bs b o e).1
  have ways : ∀ y ∈ ps.zip us, (defScope st).names.lookup y.1 = some .local ∨
      ((defScope st).names.lookup y.1 = some .cell ∧ ((cellsFrom (s.heap.objs.size + 1) (defScope st).names []).lookup y.1).isSome = true) := by
    rintro ⟨n, v⟩ hy
    rcases S.par n (List.of_mem_zip hy).1 with q | q
    · exact Or.inl q
    · exact Or.inr ⟨q, PySem.W.cellsFrom_some _ _ _ (Or.inl q)⟩
  refine codeAny_call_function hr.depth (there _ _ lk) rfl S.co S.gen rfl
    (PySem.W.codeRec_of there hcd) (hb _ _ _ _ ?_)
  refine wpAny_newFunctionEnv_cells S.kind ways fun env henv s1 xx => ?_
  subst henv
  refine ⟨nolim.keeps xx.toInCall.keep, codeAny_func ?_⟩
  obtain ⟨t, ht, hq⟩ := hbody cdv A outer s H vs Q E (hr.deeper _) hgu hsp
  have begun : Inv (cxOf CX0 P w K mg base N qual (defScope st) f cdv A outer s H E) [] (start N vs) H s1 :=
    inv_start S hr.hd e0 (len _ _ _ _ hsp) r xx
  refine wpAny_mono (ht.nox.run [] s1 (start N vs) H _ begun hq) (fun fl s' hs => ?_) (fun e s' hs => hs)
  cases fl with
  | ret u =>
    obtain ⟨v, σ', H', J, rv, q⟩ := hs
    exact ⟨v, H', J.os, J.bare, J.base, J.hok, rv, q⟩
  | next =>
    obtain ⟨σ', H', J, q⟩ := hs
    exact ⟨V.non, H', J.os, J.bare, J.base, J.hok, rfl, q⟩
  | brk =>
    obtain ⟨_, _, _, q⟩ := hs
    exact q.elim
  | cont =>
    obtain ⟨_, _, _, q⟩ := hs
    exact q.elim
end
section
variable {X : Cx} {CX : CXT} {k : Nat} {f : Addr} {fd : FuncData} {ps : List Str} {sp : Sp} {E : XK} {x : Str}
variable {p pos : Pos} {e : Expr} {es : List Expr} {t : TA}
/-- a call of such a def -/
theorem pe_callG (G : FnG X.prog X.w X.K X.mg X.base CX k f fd ps sp) (hgu : X.A.guards = some []) (hr : Room k X.A) (hg : Gl X x)
    (hm : X.mg x = some (.ref f)) (hk : PySem.W.keepIn X.K (.ref f) = true) (hb : Binds X.K fd ps []) (hx : Passes CX X E)
    (ha : PA X (e :: es) t) (hdb : (x == ("__debug__" : Str)) = false := by decide)
    (he : starEach (e :: es) X.env = (false, eval e X.env) :: starEach es X.env := by rfl)
    (hpl : (backTo pos (starEach es X.env)).any (·.1) = false := by rfl) :
    PE X (.Call (.Name x p) (e :: es) [] pos) (tCall sp [] E t) := by
  refine ⟨fun pins s σ H Q I h => wpAny_Call_Name_kw (ld_glob I hg hm ?_ hdb)⟩
  refine PySem.W.callWith_K (h₀ := X.base) I.ok.mod.kin hk (thn (ha.run pos pins s σ H _ I h) ?_) he hpl
  rintro us s1 ⟨vs, H1, I1, r, q⟩
  refine ⟨I1.kIn, ?_⟩
  rw [List.append_nil] at q
  have hl := G.len _ _ _ _ q
  have bind := hb s1 us I1.kIn (by rw [List.append_nil, ← r.length]; exact hl)
  rw [List.append_nil] at bind
  refine wpAny_call (codeAny_mono (G.run X.A X.stack s1 H1 ⟨us, []⟩ us vs Q E hr hgu I1.env0 bind r q) ?_)
  intro res s' hq
  cases res with
  | error er => exact hx pins σ H1 s1 er s' I1 hq
  | ok fl =>
    cases fl with
    | ret u => exact I1.after hq
    | next => exact hq.elim
    | brk => exact hq.elim
    | cont => exact hq.elim
end
/-- the law's call, as the layer's own end has it, over FnG -/
theorem lawG {P : Program} {w : World} {K : PySem.W.Frag} {mg mb : Str → Option Value} {k : Nat} {fa a : Addr} {fd : FuncData}
    {x : Str} {sp : Sp} {s₁ : Shared} {vs : List Value} {ns : List Int}
    (KX : K.In s₁.heap) (hns : s₁.heap.Ns mainGlobals mg) (hb : s₁.heap.Ns builtinsNs mb)
    (hbb : ∀ x : Str, x ≠ "__name__" → mb x = bootBuiltins x) (hlim : s₁.heap.NoLimit) (hg : s₁.gens = #[])
    (ha : s₁.heap.get? a = some { cls := .type "list", data := .seq vs.toArray }) (hi : IntsAre vs ns) (hl : ns.length ≤ sizeLine) (hr : Room k callerA)
    (G : ∀ base : Heap, K.In base → base.Ns mainGlobals mg → FnG P w K mg base CX0 k fa fd [x] sp)
    (hbind : ∀ (s : Shared) (u : Value), BindsTo s fd ⟨[u], []⟩ [(x, u)])
    (hsp : ∀ H : Hp, Only H → SqL K H a (ns.map V.int) → sp [.ref a] H (fun v _ => v = .bl true) E0) :
    codeAny (model P w) callerA (.call (.ref fa) ⟨[.ref a], []⟩)
      (fun r s' => r = .ok (.ret (.bool true)) ∧ OldK s₁.heap s'.heap ∧ s'.os = s₁.os ∧ AllBare s'.gens) s₁ := by
  have rv := vals_ints hi
  have lenV := hi.length
  have main : ∀ H : Hp, Only H → SqL K H a (ns.map V.int) → HOk P w H s₁.heap → (∀ b u, H b = some u → b = a ∧ K.lookup a = none) →
      codeAny (model P w) callerA (.call (.ref fa) ⟨[.ref a], []⟩)
        (fun r s' => r = .ok (.ret (.bool true)) ∧ OldK s₁.heap s'.heap ∧ s'.os = s₁.os ∧ AllBare s'.gens) s₁ := by
    intro H hO hS hok hA
    -- what is no list stays in the base
    have off : ∀ {b : Addr} {o : Obj} {es : Array DictEntry} {ep : Nat}, s₁.heap.get? b = some o → o.data = .dict es ep → H b = none := by
      intro b o es ep e d
      cases q : H b with
      | none => rfl
      | some u =>
        have z := (hA b u q).1
        rw [z, ha] at e
        cases e
        cases (show Data.seq vs.toArray _ = Data.dict es ep from d)
    have spaces : ∀ {b : Addr} {m : Str → Option Value}, s₁.heap.Ns b m → (hidT s₁.heap H).Ns b m := by
      rintro b m ⟨o, es, ep, e, d, r⟩
      exact ⟨o, es, ep, hidT_get e (off e d), d, r⟩
    have KB : K.In (hidT s₁.heap H) := by
      intro b o e
      refine hidT_get (KX b o e) ?_
      cases q : H b with
      | none => rfl
      | some u =>
        obtain ⟨z1, z2⟩ := hA b u q
        rw [z1, z2] at e
        cases e
    have M : Mod K mg (hidT s₁.heap H) := ⟨KB, spaces hns, ⟨mb, spaces hb, hbb⟩, by
      obtain ⟨mc, h1, h2⟩ := hlim
      exact ⟨mc, spaces h1, h2⟩⟩
    have nofr : ∀ b : Addr, b ∈ frs ([] : List Env) → False := fun b z => absurd (show b ∈ ([] : List Addr) from z) (by simp)
    have e0 : Env0 P w K mg (hidT s₁.heap H) callerA [] s₁ H :=
      ⟨rfl, M, fun b o e => of_hidT e, Nat.le_of_eq (hidT_size _ _), True.intro, fun b hb => (nofr b hb).elim, hok, .of_eq hg⟩
    refine codeAny_mono ((G _ KB (spaces hns)).run callerA [] s₁ H ⟨[.ref a], []⟩ [.ref a] [.ref a] _ _ hr rfl e0
      (hbind s₁ (.ref a)) (.cons rfl .nil) (hsp H hO hS)) ?_
    intro r s' h
    cases r with
    | error e => exact h.elim
    | ok fl =>
      cases fl with
      | next => exact h.elim
      | brk => exact h.elim
      | cont => exact h.elim
      | ret u =>
        obtain ⟨v, H', os, bare, un, hok', rz, q⟩ := h
        have q' : v = .bl true := q
        subst q'
        obtain rfl : u = Value.bool true := rz
        refine ⟨rfl, OldK.of_keep ?_, os, bare⟩
        intro b o e
        cases z : H b with
        | none => exact un.keep b o e z (fun y => nofr b y) (by simp)
        | some u =>
          rcases hO b with y | ⟨ob, xs, y⟩
          · rw [z] at y
            cases y
          · have y2 := un.frzs b ob _ y
            obtain ⟨e1, _⟩ := hok b _ y
            obtain ⟨e2, _⟩ := hok' b _ y2
            rw [e] at e1
            cases e1
            exact e2
  cases hk : K.lookup a with
  | some o =>
    have e := KX a o hk
    rw [ha] at e
    cases e
    refine main (fun _ => none) (fun _ => Or.inl rfl) (Or.inr ⟨_, vs.toArray, _, hk, rfl, rfl, rfl, by rw [List.size_toArray, lenV]; exact hl, by simpa using rv⟩) ?_ ?_
    · intro b u z
      cases (show (none : Option HO) = some u from z)
    · intro b u z
      cases (show (none : Option HO) = some u from z)
  | none =>
    let Hs : Hp := upd (fun _ => none) a (.frz { cls := .type "list", data := .seq vs.toArray } (.lst (ns.map V.int)))
    have at_a : Hs a = some (.frz { cls := .type "list", data := .seq vs.toArray } (.lst (ns.map V.int))) := upd_same
    have off : ∀ b, b ≠ a → Hs b = none := fun b hb => upd_ne hb
    refine main Hs (fun b => ?_) (Or.inl (Or.inr ⟨_, at_a⟩)) (fun b u z => ?_) (fun b u z => ?_)
    · by_cases hb : b = a
      · rw [hb]
        exact Or.inr ⟨_, _, at_a⟩
      · exact Or.inl (off b hb)
    · by_cases hb : b = a
      · subst hb
        rw [at_a] at z
        cases z
        exact ⟨ha, by rw [List.length_map]; exact hl, vs, _, rv, ha⟩
      · rw [off b hb] at z
        cases z
    · by_cases hb : b = a
      · exact ⟨hb, hk⟩
      · rw [off b hb] at z
        cases z
theorem walkG {l : PySem.W.OpenLaw} {n k : Nat} {q : Program} {loose : List Str} {XP : (Str → Option Value) → Heap → Prop} {YP : World → Heap → Prop}
    {d : DefRec} {K : Params → PySem.W.Frag} {sp : PySem.W.Frag → Sp} {x : Str}
    (hn : l.most = some n) (hn2 : n ≤ sizeLine) (hdf : d.params.defaults = []) (hr : Room k callerA)
    (hY : ∀ (w : World) (h : Heap), YP w h → (K w.params).In h)
    (G : ∀ (w : World) (mg : Str → Option Value) (fa : Addr) (h : Heap), (K w.params).In h → h.Ns mainGlobals mg → mg d.name = some (.ref fa) →
      ∃ fd : FuncData, (∀ (s : Shared) (u : Value), BindsTo s fd ⟨[u], []⟩ [(x, u)]) ∧
        ∀ base : Heap, (K w.params).In base → base.Ns mainGlobals mg → FnG l.prog w (K w.params) mg base CX0 k fa fd [x] (sp (K w.params)))
    (hsp : ∀ (K : PySem.W.Frag) (H : Hp) (a : Addr) (ns : List Int), ns.length ≤ n → SqL K H a (ns.map V.int) → sp K [.ref a] H (fun v _ => v = .bl true) E0) :
    PySem.W.WalkO q loose XP YP l.row.toRowW d [] (fun f vs => PySem.call f vs) := by
  refine Att.attach_call hn hdf ?_
  intro w s₀ s₁ mg mb fa o pm cd doc a vs ns G0 Y ho hd hcd hmg hobj hints hlen hgen
  have KX := hY w _ Y
  obtain ⟨fd, hbd, hF⟩ := G w mg fa _ KX G0.T.g hmg
  exact lawG KX G0.T.g G0.T.b G0.T.builtins G0.T.nolimit hgen hobj hints (Nat.le_trans hlen hn2) hr hF hbd (fun H _ hS => hsp (K w.params) H a ns hlen hS)
end Rt
set_option linter.all false
/-! The mathematics: outcomes, canonical rows, tables as functions from bags to rows. Plain Lean, no program. -/
namespace Rt
inductive Oc where
  | bag (a b : Int)
  | star
  deriving DecidableEq
abbrev Bg := Int × Int
abbrev Rw := Bg → List Oc
def nums (cap : Nat) : List Int := (List.range (cap + 1)).map fun (n : Nat) => (n : Int)
def bagsOf (cap : Nat) : List Bg := (nums cap).flatMap fun a => (nums cap).map fun b => (a, b)
def ocOf (p : Bg) : Oc := .bag p.1 p.2
def ocs (cap : Nat) : List Oc := (bagsOf cap).map ocOf ++ [.star]
def CapOk (cap : Nat) : Prop := cap = 1 ∨ cap = 2
/-- outcomes in order, each once -/
def lst (cap : Nat) (had : List Oc) : List Oc := (ocs cap).filter fun o => decide (o ∈ had)
def Can (cap : Nat) (l : List Oc) : Prop := lst cap l = l
theorem mem_lst {cap : Nat} {had : List Oc} {o : Oc} : o ∈ lst cap had ↔ o ∈ ocs cap ∧ o ∈ had := by
  unfold lst
  rw [List.mem_filter, decide_eq_true_iff]
theorem lst_congr {cap : Nat} {x y : List Oc} (h : ∀ o ∈ ocs cap, (o ∈ x ↔ o ∈ y)) : lst cap x = lst cap y := by
  unfold lst
  apply List.filter_congr
  intro o ho
  exact decide_eq_decide.mpr (h o ho)
theorem can_lst (cap : Nat) (x : List Oc) : Can cap (lst cap x) := by
  refine lst_congr fun o ho => ?_
  rw [mem_lst]
  exact ⟨fun h => h.2, fun h => ⟨ho, h⟩⟩
theorem Can.sub {cap : Nat} {l : List Oc} (h : Can cap l) {o : Oc} (m : o ∈ l) : o ∈ ocs cap := by
  have m' : o ∈ lst cap l := by rw [show lst cap l = l from h]; exact m
  exact (mem_lst.mp m').1
theorem can_ext {cap : Nat} {x y : List Oc} (hx : Can cap x) (hy : Can cap y) (h : ∀ o ∈ ocs cap, (o ∈ x ↔ o ∈ y)) : x = y := by
  rw [← show lst cap x = x from hx, ← show lst cap y = y from hy]
  exact lst_congr h
theorem nd_ocs {cap : Nat} (h : CapOk cap) : (ocs cap).Nodup := by
  rcases h with rfl | rfl
  · decide
  · decide
theorem nd_bags {cap : Nat} (h : CapOk cap) : (bagsOf cap).Nodup := by
  rcases h with rfl | rfl
  · decide
  · decide
theorem len_ocs {cap : Nat} (h : CapOk cap) : (ocs cap).length ≤ 10 := by
  rcases h with rfl | rfl
  · decide
  · decide
theorem len_bags {cap : Nat} (h : CapOk cap) : (bagsOf cap).length ≤ 9 := by
  rcases h with rfl | rfl
  · decide
  · decide
theorem mem_nums {cap : Nat} {i : Int} : i ∈ nums cap ↔ 0 ≤ i ∧ i ≤ cap := by
  unfold nums
  rw [List.mem_map]
  constructor
  · rintro ⟨n, hn, rfl⟩
    rw [List.mem_range] at hn
    omega
  · rintro ⟨h1, h2⟩
    exact ⟨i.toNat, by rw [List.mem_range]; omega, by omega⟩
theorem mem_bags {cap : Nat} {p : Bg} : p ∈ bagsOf cap ↔ (0 ≤ p.1 ∧ p.1 ≤ cap) ∧ (0 ≤ p.2 ∧ p.2 ≤ cap) := by
  unfold bagsOf
  rw [List.mem_flatMap]
  constructor
  · rintro ⟨a, ha, hp⟩
    obtain ⟨b, hb, rfl⟩ := List.mem_map.mp hp
    exact ⟨mem_nums.mp ha, mem_nums.mp hb⟩
  · rintro ⟨h1, h2⟩
    exact ⟨p.1, mem_nums.mpr h1, List.mem_map.mpr ⟨p.2, mem_nums.mpr h2, rfl⟩⟩
theorem bag_mem_ocs {cap : Nat} {a b : Int} : Oc.bag a b ∈ ocs cap ↔ (a, b) ∈ bagsOf cap := by
  unfold ocs
  rw [List.mem_append, List.mem_map]
  constructor
  · rintro (⟨p, hp, e⟩ | h)
    · unfold ocOf at e
      injection e with e1 e2
      subst e1
      subst e2
      exact hp
    · simp at h
  · intro h
    exact .inl ⟨(a, b), h, rfl⟩
theorem star_mem_ocs (cap : Nat) : Oc.star ∈ ocs cap := by
  unfold ocs
  simp
theorem lst_nodup {cap : Nat} (h : CapOk cap) (x : List Oc) : (lst cap x).Nodup := List.Pairwise.filter _ (nd_ocs h)
/-- a row without repeats, all of it outcomes: as long as its ordered form -/
theorem lst_length {cap : Nat} (h : CapOk cap) {x : List Oc} (nd : x.Nodup) (sub : ∀ o ∈ x, o ∈ ocs cap) : (lst cap x).length = x.length := by
  have p : (lst cap x).Perm x := by
    rw [List.perm_ext_iff_of_nodup (lst_nodup h x) nd]
    intro o
    rw [mem_lst]
    exact ⟨fun z => z.2, fun z => ⟨sub o z, z⟩⟩
  exact p.length_eq
theorem sub_can {cap : Nat} (h : CapOk cap) {l : List Oc} (s : l.Sublist (ocs cap)) : Can cap l := by
  have key : ∀ {u : List Oc}, u.Nodup → ∀ {l : List Oc}, l.Sublist u → u.filter (fun o => decide (o ∈ l)) = l := by
    intro u nd l s
    induction s with
    | slnil => rfl
    | @cons l u a s ih =>
      obtain ⟨h1, h2⟩ := List.nodup_cons.mp nd
      have ha : ¬ a ∈ l := fun z => h1 (s.subset z)
      rw [List.filter_cons_of_neg (by simpa using ha)]
      exact ih h2
    | @cons_cons l u a s ih =>
      obtain ⟨h1, h2⟩ := List.nodup_cons.mp nd
      rw [List.filter_cons_of_pos (by simp)]
      congr 1
      rw [← ih h2]
      apply List.filter_congr
      intro o ho
      have hne : ¬ o = a := fun z => h1 (z ▸ ho)
      rw [ih h2]
      simp [hne]
  exact key (nd_ocs h) s
/-! ### tables -/
def behindL (R S : Rw) (b : Bg) : List Oc := (R b).flatMap fun o => match o with
  | .star => [.star]
  | .bag x y => S (x, y)
def thenR (cap : Nat) (R S : Rw) : Rw := fun b => lst cap (behindL R S b)
def orR (cap : Nat) (R S : Rw) : Rw := fun b => lst cap (R b ++ S b)
def sameR : Rw := fun b => [ocOf b]
def noneR : Rw := fun _ => []
def starsR (R : Rw) : Rw := fun b => (R b).filter fun o => decide (o = .star)
/-- the rows for the bags of cap are in order -/
def CanR (cap : Nat) (R : Rw) : Prop := ∀ b ∈ bagsOf cap, Can cap (R b)
def EqR' (cap : Nat) (R S : Rw) : Prop := ∀ b ∈ bagsOf cap, R b = S b
theorem mem_behind {R S : Rw} {b : Bg} {o : Oc} : o ∈ behindL R S b ↔ (o = .star ∧ Oc.star ∈ R b) ∨ ∃ c, ocOf c ∈ R b ∧ o ∈ S c := by
  unfold behindL
  rw [List.mem_flatMap]
  constructor
  · rintro ⟨p, hp, h⟩
    cases p with
    | star => exact .inl ⟨by simpa using h, hp⟩
    | bag x y => exact .inr ⟨(x, y), hp, h⟩
  · rintro (⟨rfl, h⟩ | ⟨c, h1, h2⟩)
    · exact ⟨.star, h, by simp⟩
    · exact ⟨ocOf c, h1, h2⟩
theorem mem_then {cap : Nat} {R S : Rw} {b : Bg} {o : Oc} : o ∈ thenR cap R S b ↔ o ∈ ocs cap ∧ ((o = .star ∧ Oc.star ∈ R b) ∨ ∃ c, ocOf c ∈ R b ∧ o ∈ S c) := by
  unfold thenR
  rw [mem_lst, mem_behind]
theorem mem_or {cap : Nat} {R S : Rw} {b : Bg} {o : Oc} : o ∈ orR cap R S b ↔ o ∈ ocs cap ∧ (o ∈ R b ∨ o ∈ S b) := by
  unfold orR
  rw [mem_lst, List.mem_append]
theorem can_then (cap : Nat) (R S : Rw) : CanR cap (thenR cap R S) := fun _ _ => can_lst _ _
theorem can_or (cap : Nat) (R S : Rw) : CanR cap (orR cap R S) := fun _ _ => can_lst _ _
theorem can_none (cap : Nat) : CanR cap noneR := fun _ _ => by
  show lst cap [] = []
  unfold lst
  simp
theorem lst_one {cap : Nat} (h : CapOk cap) {o : Oc} (m : o ∈ ocs cap) : lst cap [o] = [o] := by
  have s : [o].Sublist (ocs cap) := List.singleton_sublist.mpr m
  exact sub_can h s
theorem can_same {cap : Nat} (h : CapOk cap) : CanR cap sameR := fun b hb => lst_one h (bag_mem_ocs.mpr hb)
theorem can_stars {cap : Nat} (h : CapOk cap) {R : Rw} (hR : CanR cap R) : CanR cap (starsR R) := fun b hb => by
  refine sub_can h ?_
  have s1 : (starsR R b).Sublist (R b) := List.filter_sublist
  have s2 : (R b).Sublist (ocs cap) := by
    rw [← show lst cap (R b) = R b from hR b hb]
    exact List.filter_sublist
  exact s1.trans s2
theorem oc_bag {cap : Nat} {c : Bg} (h : ocOf c ∈ ocs cap) : c ∈ bagsOf cap := bag_mem_ocs.mp h
theorem ocOf_inj {b c : Bg} (h : ocOf b = ocOf c) : b = c := by
  unfold ocOf at h
  injection h with h1 h2
  exact Prod.ext h1 h2
theorem ocOf_ne (c : Bg) : ¬ ocOf c = .star := fun h => by
  unfold ocOf at h
  cases h
theorem then_same {cap : Nat} {R : Rw} (hR : CanR cap R) : EqR' cap (thenR cap R sameR) R := fun b hb => by
  refine can_ext (can_lst _ _) (hR b hb) fun o ho => ?_
  rw [mem_then]
  constructor
  · rintro ⟨_, ⟨rfl, h⟩ | ⟨c, h1, h2⟩⟩
    · exact h
    · have e : o = ocOf c := by simpa [sameR] using h2
      rw [e]
      exact h1
  · intro h
    refine ⟨ho, ?_⟩
    cases o with
    | star => exact .inl ⟨rfl, h⟩
    | bag x y => exact .inr ⟨(x, y), h, by simp [sameR, ocOf]⟩
theorem same_then {cap : Nat} {R : Rw} (hR : CanR cap R) : EqR' cap (thenR cap sameR R) R := fun b hb => by
  refine can_ext (can_lst _ _) (hR b hb) fun o ho => ?_
  rw [mem_then]
  constructor
  · rintro ⟨_, ⟨rfl, h⟩ | ⟨c, h1, h2⟩⟩
    · have e : Oc.star = ocOf b := by simpa [sameR] using h
      exact absurd e.symm (ocOf_ne b)
    · have e : ocOf c = ocOf b := by simpa [sameR] using h1
      rw [ocOf_inj e] at h2
      exact h2
  · intro h
    exact ⟨ho, .inr ⟨b, by simp [sameR], h⟩⟩
theorem then_assoc {cap : Nat} {R S T : Rw} (hR : CanR cap R) (hS : CanR cap S) : EqR' cap (thenR cap (thenR cap R S) T) (thenR cap R (thenR cap S T)) := fun b hb => by
  refine lst_congr fun o ho => ?_
  rw [mem_behind, mem_behind]
  constructor
  · rintro (⟨rfl, h⟩ | ⟨c, h1, h2⟩)
    · rcases (mem_then.mp h).2 with ⟨_, h⟩ | ⟨d, g1, g2⟩
      · exact .inl ⟨rfl, h⟩
      · exact .inr ⟨d, g1, mem_then.mpr ⟨ho, .inl ⟨rfl, g2⟩⟩⟩
    · rcases (mem_then.mp h1).2 with ⟨e, _⟩ | ⟨d, g1, g2⟩
      · exact absurd e (ocOf_ne c)
      · exact .inr ⟨d, g1, mem_then.mpr ⟨ho, .inr ⟨c, g2, h2⟩⟩⟩
  · rintro (⟨rfl, h⟩ | ⟨c, h1, h2⟩)
    · exact .inl ⟨rfl, mem_then.mpr ⟨ho, .inl ⟨rfl, h⟩⟩⟩
    · have hc : c ∈ bagsOf cap := oc_bag ((hR b hb).sub h1)
      rcases (mem_then.mp h2).2 with ⟨e, g⟩ | ⟨d, g1, g2⟩
      · subst e
        exact .inl ⟨rfl, mem_then.mpr ⟨ho, .inr ⟨c, h1, g⟩⟩⟩
      · exact .inr ⟨d, mem_then.mpr ⟨(hS c hc).sub g1, .inr ⟨c, h1, g1⟩⟩, g2⟩
theorem then_none {cap : Nat} (hc : CapOk cap) {R : Rw} (hR : CanR cap R) : EqR' cap (thenR cap R noneR) (starsR R) := fun b hb => by
  refine can_ext (can_lst _ _) (can_stars hc hR b hb) fun o ho => ?_
  rw [mem_then]
  unfold starsR
  rw [List.mem_filter, decide_eq_true_iff]
  constructor
  · rintro ⟨_, ⟨rfl, h⟩ | ⟨c, h1, h2⟩⟩
    · exact ⟨h, rfl⟩
    · exact absurd h2 (by simp [noneR])
  · rintro ⟨h, rfl⟩
    exact ⟨ho, .inl ⟨rfl, h⟩⟩
theorem none_then {cap : Nat} {R : Rw} : EqR' cap (thenR cap noneR R) noneR := fun b hb => by
  show lst cap [] = []
  exact can_none cap b hb
theorem or_then {cap : Nat} {R S T : Rw} (hR : CanR cap R) (hS : CanR cap S) : EqR' cap (thenR cap (orR cap R S) T) (orR cap (thenR cap R T) (thenR cap S T)) := fun b hb => by
  refine lst_congr fun o ho => ?_
  rw [mem_behind, List.mem_append, mem_then, mem_then]
  constructor
  · rintro (⟨rfl, h⟩ | ⟨c, h1, h2⟩)
    · rcases (mem_or.mp h).2 with h | h
      · exact .inl ⟨ho, .inl ⟨rfl, h⟩⟩
      · exact .inr ⟨ho, .inl ⟨rfl, h⟩⟩
    · rcases (mem_or.mp h1).2 with h | h
      · exact .inl ⟨ho, .inr ⟨c, h, h2⟩⟩
      · exact .inr ⟨ho, .inr ⟨c, h, h2⟩⟩
  · rintro (⟨_, ⟨rfl, h⟩ | ⟨c, h1, h2⟩⟩ | ⟨_, ⟨rfl, h⟩ | ⟨c, h1, h2⟩⟩)
    · exact .inl ⟨rfl, mem_or.mpr ⟨ho, .inl h⟩⟩
    · exact .inr ⟨c, mem_or.mpr ⟨(hR b hb).sub h1, .inl h1⟩, h2⟩
    · exact .inl ⟨rfl, mem_or.mpr ⟨ho, .inr h⟩⟩
    · exact .inr ⟨c, mem_or.mpr ⟨(hS b hb).sub h1, .inr h1⟩, h2⟩
theorem then_or {cap : Nat} {R S T : Rw} (hR : CanR cap R) : EqR' cap (thenR cap R (orR cap S T)) (orR cap (thenR cap R S) (thenR cap R T)) := fun b hb => by
  refine lst_congr fun o ho => ?_
  rw [mem_behind, List.mem_append, mem_then, mem_then]
  constructor
  · rintro (⟨rfl, h⟩ | ⟨c, h1, h2⟩)
    · exact .inl ⟨ho, .inl ⟨rfl, h⟩⟩
    · rcases (mem_or.mp h2).2 with h | h
      · exact .inl ⟨ho, .inr ⟨c, h1, h⟩⟩
      · exact .inr ⟨ho, .inr ⟨c, h1, h⟩⟩
  · rintro (⟨_, ⟨rfl, h⟩ | ⟨c, h1, h2⟩⟩ | ⟨_, ⟨rfl, h⟩ | ⟨c, h1, h2⟩⟩)
    · exact .inl ⟨rfl, h⟩
    · exact .inr ⟨c, h1, mem_or.mpr ⟨ho, .inl h2⟩⟩
    · exact .inl ⟨rfl, h⟩
    · exact .inr ⟨c, h1, mem_or.mpr ⟨ho, .inr h2⟩⟩
theorem then_mono {cap : Nat} {R S T : Rw} (hR : CanR cap R) (hS : CanR cap S) : ∀ b ∈ bagsOf cap, ∀ o ∈ thenR cap R S b, o ∈ thenR cap (orR cap R T) (orR cap S T) b := fun b hb o h => by
  obtain ⟨ho, g⟩ := mem_then.mp h
  refine mem_then.mpr ⟨ho, ?_⟩
  rcases g with ⟨e, g⟩ | ⟨c, h1, h2⟩
  · exact .inl ⟨e, mem_or.mpr ⟨star_mem_ocs cap, .inl g⟩⟩
  · exact .inr ⟨c, mem_or.mpr ⟨(hR b hb).sub h1, .inl h1⟩, mem_or.mpr ⟨ho, .inl h2⟩⟩
end Rt
set_option Elab.async false
set_option linter.all false
set_option maxRecDepth 100000
set_option maxHeartbeats 2000000
namespace Rt
open PySem PySem.Spec PyProof.Rows L2
/-! ### the text by places -/
def topS (i : Nat) : Stmt := PySem.Challenge.pw_roomsthrough_k30_whole_tables_one_behind.main.body.getD i (.Pass ⟨0, 0, 0, 0⟩)
end Rt
set_option Elab.async false
set_option linter.all false
set_option maxRecDepth 100000
set_option maxHeartbeats 2000000
namespace Rt
open PySem PySem.Spec PyProof.Rows L2
/-! ### what may be called, by its name -/
/-- a def of the module's top as it stands behind the top -/
def Def (K : PySem.W.Frag) (mg : Str → Option Value) (x : Str) (i : Nat) (ps : List Str) : Prop :=
  ∃ (f : Addr) (fd : FuncData), Fun K x x (topS i) f fd ∧ mg x = some (.ref f) ∧ L2.Binds K fd ps []
/-- the j-th def of the class at C, the i-th statement of the top -/
def DefM (K : PySem.W.Frag) (C : Addr) (x qual : Str) (i j : Nat) (ps : List Str) : Prop :=
  ∃ (f : Addr) (fd : FuncData), Fun K x qual (inClass (topS i) j) f fd ∧ Meth K C x f ∧ L2.Binds K fd ps []
/-- the class's own ==, the j-th def of the i-th statement; its != is object's -/
def DefE (K : PySem.W.Frag) (C : Addr) (qual : Str) (i j : Nat) : Prop :=
  ∃ (f : Addr) (fd : FuncData), Fun K "__eq__" qual (inClass (topS i) j) f fd ∧ (NeC K C f ∧ PySem.W.notFirst K C (.ref C) = true) ∧ L2.Binds K fd ["self", "other"] []
/-- the class's own |, the j-th def of the i-th statement -/
def DefO (K : PySem.W.Frag) (C : Addr) (qual : Str) (i j : Nat) : Prop :=
  ∃ (f : Addr) (fd : FuncData), Fun K "__or__" qual (inClass (topS i) j) f fd ∧ (PySem.W.findIn K (.ref C) "__or__" = some (some (.ref f)) ∧ PySem.W.isFn K (.ref f) = true ∧ PySem.W.selfFirst K C = true) ∧ L2.Binds K fd ["self", "other"] []
section
variable (P : Program) (w : World) (K : PySem.W.Frag) (mg : Str → Option Value) (base : Heap)
def CalE (C : Addr) (k : Nat) (sp : Sp) : Prop :=
  ∃ (f : Addr) (fd : FuncData), FnOk P w K mg base CX0 k f fd ["self", "other"] sp ∧ (NeC K C f ∧ PySem.W.notFirst K C (.ref C) = true) ∧ L2.Binds K fd ["self", "other"] []
def CalO (C : Addr) (k : Nat) (sp : Sp) : Prop :=
  ∃ (f : Addr) (fd : FuncData), FnOk P w K mg base CX0 k f fd ["self", "other"] sp ∧ (PySem.W.findIn K (.ref C) "__or__" = some (some (.ref f)) ∧ PySem.W.isFn K (.ref f) = true ∧ PySem.W.selfFirst K C = true) ∧ L2.Binds K fd ["self", "other"] []
def Cal (CX : CXT) (k : Nat) (x : Str) (ps : List Str) (sp : Sp) : Prop :=
  ∃ (f : Addr) (fd : FuncData), FnOk P w K mg base CX k f fd ps sp ∧ mg x = some (.ref f) ∧ PySem.W.keepIn K (.ref f) = true ∧ L2.Binds K fd ps []
def CalM (C : Addr) (k : Nat) (x : Str) (ps : List Str) (sp : Sp) : Prop :=
  ∃ (f : Addr) (fd : FuncData), FnOk P w K mg base CX0 k f fd ps sp ∧ Meth K C x f ∧ L2.Binds K fd ps []
def CalI (C : Addr) (k : Nat) (x : Str) (ps : List Str) (sp : Sp) : Prop :=
  ∃ (f : Addr) (fd : FuncData), FnOk P w K mg base CX0 k f fd ps sp ∧ Mk K C f ∧ mg x = some (.ref C) ∧ L2.Binds K fd ps []
def CalP (C : Addr) (k : Nat) (x : Str) (sp : Sp) : Prop :=
  ∃ (p f : Addr) (fd : FuncData), FnOk P w K mg base CX0 k f fd ["self"] sp ∧ PropOf K C x p f ∧ L2.Binds K fd ["self"] []
end
section
variable {X : Cx} {CX : CXT} {k : Nat} {ps : List Str} {sp : Sp} {E : XK} {x m : Str} {C : Addr}
variable {p pos apos : Pos} {e o : Expr} {es : List Expr} {t : TA} {ta : TE}
theorem pe_cal (c : Cal X.prog X.w X.K X.mg X.base CX k x ps sp) (hr : Room k X.A) (hx : Passes CX X E) (ha : PA X (e :: es) t) (hg : Gl X x := by rfl)
    (hdb : (x == ("__debug__" : Str)) = false := by decide) (he : starEach (e :: es) X.env = (false, eval e X.env) :: starEach es X.env := by rfl)
    (hpl : (backTo pos (starEach es X.env)).any (·.1) = false := by rfl) : PE X (.Call (.Name x p) (e :: es) [] pos) (tCall sp [] E t) := by
  obtain ⟨f, fd, G, hm, hk, hb⟩ := c
  exact pe_call G hr hg hm hk hb .nil hx ha hdb he hpl
theorem pe_calM {pl : Sem Bool} (c : CalM X.prog X.w X.K X.mg X.base C k m ps sp) (cl : Cls X.K C) (hr : Room k X.A) (ho : PE X o ta) (ha : PA X (e :: es) t)
    (hst : starEach (e :: es) X.env = (false, eval e X.env) :: starEach es X.env := by rfl) (hpl : (backTo pos (starEach es X.env)).any (·.1) = false := by rfl)
    (ht : eval (.Call (.Attribute o m apos) (e :: es) [] pos) X.env = (do
      let ov ← eval o X.env
      standAt apos.atName
      let (f, first) ← holding [ov] (getMethod ov m pl)
      callWith pos f first (backTo pos (starEach (e :: es) X.env)) (backToKw pos (keywordEach [] X.env))) := by rfl) :
    PE X (.Call (.Attribute o m apos) (e :: es) [] pos) (tMeth C m sp [] E0 ta t) := by
  obtain ⟨f, fd, G, hm, hb⟩ := c
  exact pe_meth ho cl hm G hr hb .nil pass0 ha hst hpl ht
theorem pe_calM0 {pl : Sem Bool} (c : CalM X.prog X.w X.K X.mg X.base C k m ps sp) (cl : Cls X.K C) (hr : Room k X.A) (ho : PE X o ta)
    (ht : eval (.Call (.Attribute o m apos) [] [] pos) X.env = (do
      let ov ← eval o X.env
      standAt apos.atName
      let (f, first) ← holding [ov] (getMethod ov m pl)
      callWith pos f first (backTo pos (starEach [] X.env)) (backToKw pos (keywordEach [] X.env))) := by rfl) :
    PE X (.Call (.Attribute o m apos) [] [] pos) (tMeth C m sp [] E0 ta tNil) := by
  obtain ⟨f, fd, G, hm, hb⟩ := c
  exact pe_meth0 ho cl hm G hr hb .nil pass0 ht
theorem pe_calI (c : CalI X.prog X.w X.K X.mg X.base C k x ps sp) (hr : Room (k + 1) X.A) (ha : PA X (e :: es) t) (hg : Gl X x := by rfl)
    (hdb : (x == ("__debug__" : Str)) = false := by decide) (he : starEach (e :: es) X.env = (false, eval e X.env) :: starEach es X.env := by rfl)
    (hpl : (backTo pos (starEach es X.env)).any (·.1) = false := by rfl) : PE X (.Call (.Name x p) (e :: es) [] pos) (tMake C sp [] E0 t) := by
  obtain ⟨f, fd, G, hm, hgl, hb⟩ := c
  exact pe_make hm G hr hg hgl hb .nil pass0 ha hdb he hpl
theorem pe_calP (c : CalP X.prog X.w X.K X.mg X.base C k x sp) (cl : Cls X.K C) (hr : Room (k + 1) X.A) (ho : PE X o ta)
    (hab : attributeBase o x X.env (eval o X.env) = eval o X.env := by rfl) : PE X (.Attribute o x pos) (tProp C sp [] E0 ta) := by
  obtain ⟨q, f, fd, G, hm, hb⟩ := c
  exact pe_prop ho cl hm G hr hb .nil pass0 hab
end
def rNeO (C D : Addr) (sp : Sp) : R2 := fun x y H Q => ∃ (a b dx dy : Addr) (fs gs : List (Str × V)), x = .ref a ∧ y = .ref b ∧ H a = some (.ins C dx fs) ∧ H b = some (.ins D dy gs) ∧ sp [.ref a, .ref b] H (fun v H' => ∃ k, v = .bl k ∧ Q (.bl (!k)) H') E0
def rNeR (C : Addr) (sp : Sp) : R2 := fun x y H Q => ∃ (b dx : Addr) (gs : List (Str × V)), y = .ref b ∧ H b = some (.ins C dx gs) ∧ Plain4 x H ∧ sp [.ref b, x] H (fun v H' => ∃ k, v = .bl k ∧ Q (.bl (!k)) H') E0
section
variable {X : Cx} {k : Nat} {C D : Addr} {sp : Sp}
theorem op_eqE (c : CalE X.prog X.w X.K X.mg X.base C k sp) (hr : Room k X.A) : OpR X (compareOp .Eq) (rOwn C C sp id) := by
  obtain ⟨f, fd, G, ⟨N, nf⟩, hb⟩ := c
  exact op_eqOwn G hr hb pass0 N.eq N.fn nf
theorem op_neE (c : CalE X.prog X.w X.K X.mg X.base C k sp) (hr : Room (k + 1) X.A) : OpR X (compareOp .NotEq) (rNeO C C sp) := by
  obtain ⟨f, fd, G, ⟨N, nf⟩, hb⟩ := c
  exact op_neOwn N G hr hb pass0 nf
theorem op_neED (c : CalE X.prog X.w X.K X.mg X.base C k sp) (nf : PySem.W.notFirst X.K C (.ref D) = true) (hr : Room (k + 1) X.A) : OpR X (compareOp .NotEq) (rNeO C D sp) := by
  obtain ⟨f, fd, G, ⟨N, _⟩, hb⟩ := c
  exact op_neOwn N G hr hb pass0 nf
theorem op_neER (c : CalE X.prog X.w X.K X.mg X.base C k sp) (A : Apart X.K C) (hr : Room (k + 1) X.A) : OpR X (compareOp .NotEq) (rNeR C sp) := by
  obtain ⟨f, fd, G, ⟨N, _⟩, hb⟩ := c
  exact op_neRev N A G hr hb pass0
theorem op_orO (c : CalO X.prog X.w X.K X.mg X.base C k sp) (hr : Room k X.A) : OpR X (binaryOp .BitOr) (rOwn C C sp id) := by
  obtain ⟨f, fd, G, ⟨h1, h2, h3⟩, hb⟩ := c
  exact op_orOwn G hr hb pass0 h1 h2 h3
end
/-- the built-in names that the top leaves alone -/
structure Free (mg : Str → Option Value) : Prop where
  isinstance : mg "isinstance" = none
  int : mg "int" = none
  bool : mg "bool" = none
  range : mg "range" = none
  list : mg "list" = none
  tuple : mg "tuple" = none
  dict : mg "dict" = none
  len : mg "len" = none
  all : mg "all" = none
  str : mg "str" = none
  sum : mg "sum" = none
  abs : mg "abs" = none
  min : mg "min" = none
  max : mg "max" = none
  repr : mg "repr" = none
theorem bt_bool : bootBuiltins "bool" = some (.type "bool") := by decide +kernel
theorem bt_tuple : bootBuiltins "tuple" = some (.type "tuple") := by decide +kernel
theorem bt_list : bootBuiltins "list" = some (.type "list") := by decide +kernel
theorem bt_dict : bootBuiltins "dict" = some (.type "dict") := by decide +kernel
theorem bt_str : bootBuiltins "str" = some (.type "str") := by decide +kernel
theorem bt_int : bootBuiltins "int" = some (.type "int") := by decide +kernel
theorem bt_range : bootBuiltins "range" = some (.type "range") := by decide +kernel
theorem bt_all : bootBuiltins "all" = some (.builtin "all") := by decide +kernel
theorem bt_len : bootBuiltins "len" = some (.builtin "len") := by decide +kernel
theorem bt_sum : bootBuiltins "sum" = some (.builtin "sum") := by decide +kernel
theorem bt_abs : bootBuiltins "abs" = some (.builtin "abs") := by decide +kernel
theorem bt_min : bootBuiltins "min" = some (.builtin "min") := by decide +kernel
theorem bt_max : bootBuiltins "max" = some (.builtin "max") := by decide +kernel
theorem bt_repr : bootBuiltins "repr" = some (.builtin "repr") := by decide +kernel
/-- isinstance(x, T), T a built-in class by its name -/
theorem pe_isB {X : Cx} {a : Expr} {ta : TE} {p q pos : Pos} {y : Str} {n : String} (Fr : Free X.mg) (ha : PE X a ta) (hg : Gl X "isinstance" := by rfl) (hgy : Gl X y := by rfl)
    (hy : X.mg y = none) (hv : bootBuiltins y = some (.type n)) (hn : y ≠ "__name__" := by decide) (hdb : (y == ("__debug__" : Str)) = false := by decide)
    (he : starEach [a, .Name y q] X.env = (false, eval a X.env) :: starEach [.Name y q] X.env := by rfl) (he2 : starEach [.Name y q] X.env = (false, eval (.Name y q) X.env) :: starEach [] X.env := by rfl)
    (hpl : (backTo pos (starEach [.Name y q] X.env)).any (·.1) = false := by rfl) :
    PE X (.Call (.Name "isinstance" p) [a, .Name y q] [] pos) (tCB (rIsi X.K) (tCons ta (tCons (tC (.ty n)) tNil))) :=
  pe_callB (X := X) (p := p) (pos := pos) call_isi hg Fr.isinstance (by decide +kernel) (pa_cons ha (pa_cons (pe_bltn (v := .ty n) hgy hy hv rfl hn hdb) pa_nil he2) he) (he := he) (hpl := hpl)
/-- isinstance(x, C), C a class of the text -/
theorem pe_isC {X : Cx} {a : Expr} {ta : TE} {p q pos : Pos} {y : Str} {C : Addr} (Fr : Free X.mg) (ha : PE X a ta) (hy : X.mg y = some (.ref C)) (hg : Gl X "isinstance" := by rfl) (hgy : Gl X y := by rfl)
    (hdb : (y == ("__debug__" : Str)) = false := by decide)
    (he : starEach [a, .Name y q] X.env = (false, eval a X.env) :: starEach [.Name y q] X.env := by rfl) (he2 : starEach [.Name y q] X.env = (false, eval (.Name y q) X.env) :: starEach [] X.env := by rfl)
    (hpl : (backTo pos (starEach [.Name y q] X.env)).any (·.1) = false := by rfl) :
    PE X (.Call (.Name "isinstance" p) [a, .Name y q] [] pos) (tCB (rIsi X.K) (tCons ta (tCons (tC (.ref C)) tNil))) :=
  pe_callB (X := X) (p := p) (pos := pos) call_isi hg Fr.isinstance (by decide +kernel) (pa_cons ha (pa_cons (pe_glob (v := .ref C) hgy hy rfl hdb) pa_nil he2) he) (he := he) (hpl := hpl)
theorem isB {K : PySem.W.Frag} {x : V} {T n : String} {b : Bool} {H : Hp} {Q : VK} (ty : TyX K H x (.type T)) (k : kitB T n = some b) (q : Q (.bl b) H) : rIsi K [x, .ty n] H Q :=
  ⟨x, .ty n, _, _, b, rfl, .ty n, ty, kit_ty k, q⟩
theorem isC {K : PySem.W.Frag} {x : V} {t : Value} {C : Addr} {b : Bool} {H : Hp} {Q : VK} (ty : TyX K H x t) (k : PySem.W.kitOne K t (.ref C) = some b) (q : Q (.bl b) H) : rIsi K [x, .ref C] H Q :=
  ⟨x, .ref C, _, _, b, rfl, .own C, ty, k, q⟩
/-! ### kinds -/
abbrev sInt : Stmt := topS 7
abbrev sFlag : Stmt := topS 8
def spInt : Sp := fun vs H Q _ => ∃ i : Int, vs = [.int i] ∧ Q (.bl true) H
def spFlag : Sp := fun vs H Q _ => ∃ b : Bool, vs = [.bl b] ∧ Q (.bl true) H
theorem scInt : FnScope ["thing"] ["thing"] (defScope sInt) := ⟨rfl, rfl, rfl, by decide +kernel, rfl, by decide +kernel, by decide +kernel⟩
theorem scFlag : FnScope ["thing"] ["thing"] (defScope sFlag) := ⟨rfl, rfl, rfl, by decide +kernel, rfl, by decide +kernel, by decide +kernel⟩
section
variable {P : Program} {w : World} {K : PySem.W.Frag} {mg : Str → Option Value} {base : Heap}
theorem ok_int (D : Def K mg "is_integer" 7 ["thing"]) (Fr : Free mg) : Cal P w K mg base CX0 1 "is_integer" ["thing"] spInt := by
  obtain ⟨f, fd, G, gl, bi⟩ := D
  refine ⟨f, fd, G.ok scInt (fun vs H Q E h => ?_) (fun cdv A outer s H vs Q E hr h => ?_), gl, G.kp, bi⟩
  · obtain ⟨i, rfl, _⟩ := h
    rfl
  · obtain ⟨i, rfl, q⟩ := h
    refine ⟨_, pss_one (ps_ret (pe_and (pe_isB Fr (pv 0) (hy := Fr.int) (hv := bt_int)) (pe_one (pe_not (pe_isB Fr (pv 0) (hy := Fr.bool) (hv := bt_bool)))))), ?_⟩
    refine ⟨_, rfl, _, .ty "int", _, _, true, rfl, .ty _, .base (.int i), kit_ty (by decide +kernel), true, rfl, ?_⟩
    refine iteT ⟨_, rfl, _, .ty "bool", _, _, false, rfl, .ty _, .base (.int i), kit_ty (by decide +kernel), false, rfl, q⟩
theorem ok_flag (D : Def K mg "is_flag" 8 ["thing"]) (Fr : Free mg) : Cal P w K mg base CX0 1 "is_flag" ["thing"] spFlag := by
  obtain ⟨f, fd, G, gl, bi⟩ := D
  refine ⟨f, fd, G.ok scFlag (fun vs H Q E h => ?_) (fun cdv A outer s H vs Q E hr h => ?_), gl, G.kp, bi⟩
  · obtain ⟨i, rfl, _⟩ := h
    rfl
  · obtain ⟨b, rfl, q⟩ := h
    refine ⟨_, pss_one (ps_ret (pe_isB Fr (pv 0) (hy := Fr.bool) (hv := bt_bool))), ?_⟩
    exact ⟨_, rfl, _, .ty "bool", _, _, true, rfl, .ty _, .base (.bl b), kit_ty (by decide +kernel), q⟩
end
end Rt
set_option Elab.async false
set_option linter.all false
set_option maxRecDepth 100000
set_option maxHeartbeats 2000000
namespace Rt
open PySem PySem.Spec PyProof.Rows L2
/-! ### what the top has written of the two classes -/
structure Tx (K : PySem.W.Frag) (mg : Str → Option Value) (CR CT : Addr) : Prop where
  fr : Free mg
  clR : Cls K CR
  clT : Cls K CT
  nc : NoAttr K CR "own_cap"
  ns : NoAttr K CR "own_strong"
  np : NoAttr K CR "own_pull"
  nr : NoAttr K CT "own_rules"
  nk : NoAttr K CT "kept"
  gR : mg "Rules" = some (.ref CR)
  gT : mg "Table" = some (.ref CT)
  haR : PySem.W.findIn K (.ref CR) "__class__" = some (some (.builtin "object.__class__"))
  haT : PySem.W.findIn K (.ref CT) "__class__" = some (some (.builtin "object.__class__"))
  hn : PySem.W.specialIn K (.builtin "object.__class__") "__get__" = some (some (.builtin "getset_descriptor.__get__"))
  htk : PySem.W.takesIn K (.builtin "object.__class__") = some true
  hmR : PySem.W.mroIn K CR (.type "object") = some true
  hmT : PySem.W.mroIn K CT (.type "object") = some true
  kRR : PySem.W.kitOne K (.ref CR) (.ref CR) = some true
  kTT : PySem.W.kitOne K (.ref CT) (.ref CT) = some true
  kRT : PySem.W.kitOne K (.ref CR) (.ref CT) = some false
  kTR : PySem.W.kitOne K (.ref CT) (.ref CR) = some false
  kR : ∀ t ∈ (["NoneType", "str", "list", "dict", "tuple", "int"] : List String), PySem.W.kitOne K (.type t) (.ref CR) = some false
  kT : ∀ t ∈ (["NoneType", "str", "list", "dict", "tuple", "int"] : List String), PySem.W.kitOne K (.type t) (.ref CT) = some false
  gcap : ∃ t, mg "GREATEST_CAP" = some (.int 2 t)
  gstar : ∃ t, mg "STAR" = some (.str "star" t)
section
variable {K : PySem.W.Frag} {mg : Str → Option Value} {CR CT : Addr}
theorem Tx.tyR (T : Tx K mg CR CT) {H : Hp} {a dx : Addr} {fs : List (Str × V)} (h : H a = some (.ins CR dx fs)) : TyX K H (.ref a) (.ref CR) := .base (.ins h T.clR T.haR T.hn T.htk T.hmR)
theorem Tx.tyT (T : Tx K mg CR CT) {H : Hp} {a dx : Addr} {fs : List (Str × V)} (h : H a = some (.ins CT dx fs)) : TyX K H (.ref a) (.ref CT) := .base (.ins h T.clT T.haT T.hn T.htk T.hmT)
end
/-- a def whatever its defaults -/
structure FunV (K : PySem.W.Frag) (x qual : Str) (st : Stmt) (f : Addr) (fd : FuncData) : Prop where
  ex : ∃ (oc : Value) (od : Option Addr) (dV kV doc pm : Value) (an : Option Addr) (cdv ct : Value) (osl : Array (Option Value)),
    fd = PySem.W.fnOf x qual (defArgs st) (defBody st) (defScope st) dV kV doc pm an cdv ct ∧ K.lookup f = some ⟨oc, od, .func fd, osl⟩ ∧ PySem.W.codeIn K cdv qual = true
  kp : PySem.W.keepIn K (.ref f) = true
theorem FunV.ok {P : Program} {w : World} {K : PySem.W.Frag} {mg : Str → Option Value} {base : Heap} {x qual : Str} {st : Stmt} {f : Addr} {fd : FuncData} {N ps : List Str} {k : Nat} {sp : Sp}
    (G : FunV K x qual st f fd) (S : FnScope N ps (defScope st)) (len : ∀ vs H Q E, sp vs H Q E → vs.length = ps.length)
    (hbody : ∀ (cdv : Value) (A : Around) (outer : List Env) (s : Shared) (H : Hp) (vs : List V) (Q : VK) (E : XK),
      Room k (A.deeper (envOfC qual (defScope st) s.heap.objs.size f cdv)) → sp vs H Q E →
      ∃ t, PSs (cxOf CX0 P w K mg base N qual (defScope st) f cdv A outer s H E).nox (defBody st) t ∧
        t { nx := fun _ H' => Q .non H', rt := Q } (start N vs) H) : FnOk P w K mg base CX0 (k + 1) f fd ps sp := by
  obtain ⟨oc, od, dV, kV, doc, pm, an, cdv, ct, osl, rfl, lk, hcd⟩ := G.ex
  refine fn_of lk hcd S len ?_
  intro A outer s H vs Q E hr hsp
  obtain ⟨t, h, q⟩ := hbody cdv A outer s H vs Q E hr hsp
  exact ⟨t, h.nox, q⟩
/-! ### Rules -/
def rf (c : Nat) (s p : Bool) : List (Str × V) := [("own_cap", .int c), ("own_strong", .bl s), ("own_pull", .bl p)]
theorem rf_put (c : Nat) (s p : Bool) : putF "own_pull" (.bl p) (putF "own_strong" (.bl s) (putF "own_cap" (.int c) [])) = rf c s p := by
  have e1 : ¬ (("own_cap" : Str) = "own_strong") := by decide +kernel
  have e2 : ¬ (("own_cap" : Str) = "own_pull") := by decide +kernel
  have e3 : ¬ (("own_strong" : Str) = "own_pull") := by decide +kernel
  show putF "own_pull" (.bl p) (if ("own_cap" : Str) = "own_strong" then _ else (("own_cap" : Str), V.int c) :: [(("own_strong" : Str), V.bl s)]) = _
  rw [if_neg e1]
  show (if ("own_cap" : Str) = "own_pull" then _ else (("own_cap" : Str), V.int c) :: (if ("own_strong" : Str) = "own_pull" then _ else (("own_strong" : Str), V.bl s) :: [(("own_pull" : Str), V.bl p)])) = _
  rw [if_neg e2, if_neg e3]
  rfl
theorem rf_cap (c : Nat) (s p : Bool) : (rf c s p).lookup ("own_cap" : Str) = some (.int c) := by simp [rf, List.lookup]
theorem rf_strong (c : Nat) (s p : Bool) : (rf c s p).lookup ("own_strong" : Str) = some (.bl s) := by
  have e1 : (("own_strong" : Str) == "own_cap") = false := by decide +kernel
  simp [rf, List.lookup, e1]
theorem rf_pull (c : Nat) (s p : Bool) : (rf c s p).lookup ("own_pull" : Str) = some (.bl p) := by
  have e1 : (("own_pull" : Str) == "own_cap") = false := by decide +kernel
  have e2 : (("own_pull" : Str) == "own_strong") = false := by decide +kernel
  simp [rf, List.lookup, e1, e2]
/-- a book of rules stands at r -/
def RulesAt (C : Addr) (H : Hp) (r : Addr) (c : Nat) (s p : Bool) : Prop := ∃ dx, H r = some (.ins C dx (rf c s p))
theorem RulesAt.same {C : Addr} {H H' : Hp} {r : Addr} {c : Nat} {s p : Bool} (h : RulesAt C H r c s p) (e : Same H H') : RulesAt C H' r c s p := by
  obtain ⟨dx, h⟩ := h
  exact ⟨dx, e _ _ h⟩
/-- all that was tracked but at x is as it was -/
def SameX (x : Addr) (H H' : Hp) : Prop := ∀ b o, b ≠ x → H b = some o → H' b = some o
theorem SameX.refl (x : Addr) (H : Hp) : SameX x H H := fun _ _ _ h => h
theorem SameX.trans {x : Addr} {H H1 H2 : Hp} (a : SameX x H H1) (b : SameX x H1 H2) : SameX x H H2 := fun c o n h => b c o n (a c o n h)
theorem SameX.upd {x : Addr} {H : Hp} {o : HO} : SameX x H (upd H x o) := fun b u n h => by rw [upd_ne n]; exact h
theorem Same.x {x : Addr} {H H1 : Hp} (a : Same H H1) : SameX x H H1 := fun c o _ h => a c o h
theorem Same.new {H : Hp} {x : Addr} {o : HO} (n : H x = none) : Same H (upd H x o) := fun b u h => by rw [upd_ne (ne_of_none h n)]; exact h
theorem ifT {c : Bool} {A B : Prop} (e : c = true) (h : A) : if c = true then A else B := by
  rw [if_pos e]
  exact h
theorem ifF {c : Bool} {A B : Prop} (e : c = false) (h : B) : if c = true then A else B := by
  rw [e, if_neg Bool.false_ne_true]
  exact h
abbrev sRInit : Stmt := inClass (topS 11) 0
abbrev sREq : Stmt := inClass (topS 11) 1
abbrev sRBags : Stmt := inClass (topS 11) 5
/-- Rules(c, s, p) of good values: the new object x becomes a book of rules, nothing else changes -/
def spRInit (C : Addr) : Sp := fun vs H Q _ => ∃ (x dx : Addr) (c : Nat) (s p : Bool), vs = [.ref x, .int c, .bl s, .bl p] ∧ CapOk c ∧ H x = some (.ins C dx []) ∧ ∀ H', SameX x H H' → H' x = some (.ins C dx (rf c s p)) → Q .non H'
theorem scRInit : FnScope ["self", "cap", "strong", "pull", "flag"] ["self", "cap", "strong", "pull"] (defScope sRInit) := ⟨rfl, rfl, rfl, by decide +kernel, rfl, by decide +kernel, by decide +kernel⟩
/-- Rules' own __init__, with its three defaults -/
def DefI (K : PySem.W.Frag) (mg : Str → Option Value) (C : Addr) (ps : List Str) : Prop :=
  ∃ (f : Addr) (fd : FuncData), FunV K "__init__" "Rules.__init__" sRInit f fd ∧ Mk K C f ∧ mg "Rules" = some (.ref C) ∧ L2.Binds K fd ps []
section
variable {P : Program} {w : World} {K : PySem.W.Frag} {mg : Str → Option Value} {base : Heap} {CR CT : Addr}
theorem ok_rinit (T : Tx K mg CR CT) (D : DefI K mg CR ["self", "cap", "strong", "pull"]) (c1 : Cal P w K mg base CX0 1 "is_integer" ["thing"] spInt) (c2 : Cal P w K mg base CX0 1 "is_flag" ["thing"] spFlag) :
    CalI P w K mg base CR 2 "Rules" ["self", "cap", "strong", "pull"] (spRInit CR) := by
  obtain ⟨f, fd, G, mk, gl, bi⟩ := D
  refine ⟨f, fd, G.ok scRInit (fun vs H Q E h => ?_) (fun cdv A outer s H vs Q E hr h => ?_), mk, gl, bi⟩
  · obtain ⟨x, dx, c, s, p, rfl, _⟩ := h
    rfl
  · obtain ⟨x, dx, c, s, p, rfl, hc, hx, k⟩ := h
    obtain ⟨tc, gc⟩ := T.gcap
    refine ⟨_, pss_cons (ps_if (PW.pt (pw_or (pt_not (pt_val (pe_cal c1 hr pass0 (pa_cons (pv 1) pa_nil)))) (pw_or1 (pt_not (pt_chain op_le op_le pe_int (pv 1) (pe_glob (v := .int 2) rfl gc ⟨_, rfl⟩)))))) (pss_one ps_never) pss_nil)
      (pss_cons (ps_for PassesOwn.never rfl (pi_list (pe_lst (pa_cons (pv 2) (pa_cons (pv 3) pa_nil)))) (pg_name (i := 4) scRInit.nd rfl (Or.inl rfl))
        (pss_one (ps_if (pt_not (pt_val (pe_cal c2 hr pass0 (pa_cons (pv 4) pa_nil)))) (pss_one ps_never) pss_nil)))
      (pss_cons (ps_fld (pv 0) (pv 1) rfl) (pss_cons (ps_fld (pv 0) (pv 2) rfl) (pss_one (ps_fld (pv 0) (pv 3) rfl))))), ?_⟩
    have hc1 : (1 : Int) ≤ (c : Int) ∧ (c : Int) ≤ 2 := by rcases hc with rfl | rfl <;> decide
    refine ⟨_, rfl, _, rfl, true, rfl, ?_⟩
    refine iteF ⟨_, rfl, _, _, rfl, rfl, _, rfl, ?_⟩
    refine ifT (decide_eq_true hc1.1) ⟨_, _, rfl, rfl, _, rfl, ?_⟩
    refine ifF (by rw [decide_eq_true hc1.2]; rfl) ?_
    -- for flag in [strong, pull]: both are flags
    refine ⟨_, rfl, _, rfl, (by show 2 ≤ sizeLine; decide), fun l hl => ?_⟩
    have nxl : x ≠ l := ne_of_none hx hl
    refine ⟨l, rfl, ⟨_, SqL.of upd_same⟩, for_list (K := K) (a := l) (xs := [.bl s, .bl p]) (fun i σ H' => ∃ v : Option V, σ = [some (.ref x), some (.int c), some (.bl s), some (.bl p), v] ∧ H' = L2.upd H l (.lst [.bl s, .bl p]))
      ⟨none, rfl, rfl⟩ (fun i σ H' _ ⟨_, _, e⟩ => by rw [e]; exact SqL.of upd_same) ?_ ?_⟩
    · rintro i y σ H' hi ⟨v, rfl, rfl⟩
      obtain ⟨b, rfl⟩ : ∃ b, y = V.bl b := by
        match i, hi with
        | 0, hi => exact ⟨s, by simpa using hi.symm⟩
        | 1, hi => exact ⟨p, by simpa using hi.symm⟩
      refine ⟨_, rfl, b, rfl, true, rfl, ?_⟩
      exact iteF ⟨some (.bl b), rfl, rfl⟩
    · rintro σ H' ⟨v, rfl, rfl⟩
      have h0 : L2.upd H l (.lst [.bl s, .bl p]) x = some (.ins CR dx []) := by rw [upd_ne nxl]; exact hx
      refine ⟨_, rfl, _, rfl, x, CR, dx, [], rfl, h0, T.clR, T.nc, (by show 0 < 1000; decide), ?_⟩
      refine ⟨_, rfl, _, rfl, x, CR, dx, _, rfl, upd_same, T.clR, T.ns, (by show 1 < 1000; decide), ?_⟩
      refine ⟨_, rfl, _, rfl, x, CR, dx, _, rfl, upd_same, T.clR, T.np, (by show 2 < 1000; decide), ?_⟩
      refine k _ (fun b o n h => ?_) (by rw [upd_same, rf_put])
      rw [upd_ne n, upd_ne n, upd_ne n, upd_ne (ne_of_none h hl)]
      exact h
end
end Rt
set_option Elab.async false
set_option linter.all false
set_option maxRecDepth 100000
set_option maxHeartbeats 2000000
namespace Rt
open PySem PySem.Spec PyProof.Rows L2
/-! ### bags and outcomes over the heap -/
def keyOf (b : Bg) : List Key := [Sum.inl b.1, Sum.inl b.2]
theorem keyOf_inj {a b : Bg} (h : keyOf a = keyOf b) : a = b := by
  unfold keyOf at h
  injection h with h1 h2
  injection h2 with h2 _
  injection h1 with h1
  injection h2 with h2
  exact Prod.ext h1 h2
/-- the tuples stand -/
def Tk (H H' : Hp) : Prop := ∀ b xs, H b = some (.tup xs) → H' b = some (.tup xs)
theorem Tk.refl (H : Hp) : Tk H H := fun _ _ h => h
theorem Tk.trans {H H1 H2 : Hp} (a : Tk H H1) (b : Tk H1 H2) : Tk H H2 := fun c xs h => b c xs (a c xs h)
theorem Same.tk {H H' : Hp} (e : Same H H') : Tk H H' := fun b xs h => e b _ h
theorem Tk.upd {H : Hp} {a : Addr} {o : HO} (h : ∀ xs, H a ≠ some (.tup xs)) : Tk H (upd H a o) := fun b xs e => by
  rw [upd_ne (fun z => h xs (by rw [← z]; exact e))]
  exact e
theorem Tk.new {H : Hp} {a : Addr} {o : HO} (h : H a = none) : Tk H (L2.upd H a o) := Tk.upd fun xs z => by rw [h] at z; cases z
theorem Tk.put {H : Hp} {a : Addr} {o : HO} {ys : List V} (h : H a = some (.lst ys)) : Tk H (L2.upd H a o) := Tk.upd fun xs z => by rw [h] at z; cases z
def IsBag (H : Hp) (v : V) (b : Bg) : Prop := ∃ q, v = .ref q ∧ H q = some (.tup [.int b.1, .int b.2])
def IsOc (H : Hp) (v : V) : Oc → Prop
  | .star => v = .str "star"
  | .bag a b => IsBag H v (a, b)
theorem IsBag.tk {H H' : Hp} {v : V} {b : Bg} (e : Tk H H') (h : IsBag H v b) : IsBag H' v b := by
  obtain ⟨q, e1, e2⟩ := h
  exact ⟨q, e1, e _ _ e2⟩
theorem IsOc.tk {H H' : Hp} {v : V} {o : Oc} (e : Tk H H') (h : IsOc H v o) : IsOc H' v o := by
  cases o with
  | star => exact h
  | bag a b => exact IsBag.tk e h
theorem IsBag.oc {H : Hp} {v : V} {b : Bg} (h : IsBag H v b) : IsOc H v (ocOf b) := h
abbrev BgL (H : Hp) (xs : List V) (bs : List Bg) : Prop := Paired (IsBag H) xs bs
abbrev OcL (H : Hp) (xs : List V) (os : List Oc) : Prop := Paired (IsOc H) xs os
theorem BgL.tk {H H' : Hp} {xs : List V} {bs : List Bg} (h : BgL H xs bs) (e : Tk H H') : BgL H' xs bs := Paired.mapP h fun _ _ z => z.tk e
theorem OcL.tk {H H' : Hp} {xs : List V} {os : List Oc} (h : OcL H xs os) (e : Tk H H') : OcL H' xs os := Paired.mapP h fun _ _ z => z.tk e
theorem Paired.app {α β : Type} {G : α → β → Prop} {l1 l2 : List α} {m1 m2 : List β} (h : Paired G l1 m1) (k : Paired G l2 m2) : Paired G (l1 ++ l2) (m1 ++ m2) := by
  induction h with
  | nil => exact k
  | cons g _ ih => exact .cons g ih
theorem Paired.one {α β : Type} {G : α → β → Prop} {a : α} {b : β} (g : G a b) : Paired G [a] [b] := .cons g .nil
theorem Paired.mapR {α β γ : Type} {G : α → γ → Prop} {F : β → γ} {l : List α} {m : List β} (h : Paired (fun a b => G a (F b)) l m) : Paired G l (m.map F) := by
  induction h with
  | nil => exact .nil
  | cons g _ ih => exact .cons g ih
theorem Paired.at {α β : Type} {G : α → β → Prop} {l : List α} {m : List β} (h : Paired G l m) : ∀ {i : Nat} {a : α}, l[i]? = some a → ∃ b, m[i]? = some b ∧ G a b := by
  induction h with
  | nil => intro i a e; simp at e
  | cons g _ ih =>
    intro i a e
    cases i with
    | zero =>
      have e' := Option.some.inj e
      subst e'
      exact ⟨_, rfl, g⟩
    | succ i => exact ih (by simpa using e)
theorem BgL.oc {H : Hp} {xs : List V} {bs : List Bg} (h : BgL H xs bs) : OcL H xs (bs.map ocOf) := Paired.mapR (Paired.mapP h fun _ _ z => z.oc)
theorem take_more {α : Type} {l : List α} {i : Nat} {x : α} (h : l[i]? = some x) : l.take (i + 1) = l.take i ++ [x] := by
  rw [List.take_add_one, h]
  rfl
theorem filter_more {α : Type} {l : List α} {i : Nat} {x : α} {p : α → Bool} (h : l[i]? = some x) : (l.take (i + 1)).filter p = (l.take i).filter p ++ (if p x = true then [x] else []) := by
  rw [take_more h, List.filter_append]
  congr 1
  by_cases hp : p x = true
  · rw [if_pos hp]
    simp [hp]
  · rw [if_neg hp]
    simp [hp]
/-- outcomes as data -/
def ocD : Oc → PyData
  | .star => .str "star"
  | .bag a b => .tuple [.int a, .int b]
theorem IsOc.dp {K : PySem.W.Frag} {H : Hp} {v : V} {o : Oc} (h : IsOc H v o) : Dp K H v (ocD o) := by
  cases o with
  | star =>
    have e : v = .str "star" := h
    rw [e]
    exact .str _
  | bag a b =>
    obtain ⟨q, e, hq⟩ := h
    rw [e]
    exact .tup (SqT.of hq) (.cons (.int _) (.cons (.int _) .nil))
theorem OcL.dp {K : PySem.W.Frag} {H : Hp} {xs : List V} {os : List Oc} (h : OcL H xs os) : DpAll K H xs (os.map ocD) := by
  induction h with
  | nil => exact .nil
  | cons g _ ih => exact .cons g.dp ih
theorem ocD_shaped (o : Oc) : SeqAt.shaped (ocD o) = true := by
  cases o with
  | star => decide +kernel
  | bag a b => rfl
theorem ocD_eqv (o p : Oc) : PyData.eqv (ocD o) (ocD p) = decide (o = p) := by
  cases o with
  | star =>
    cases p with
    | star => decide +kernel
    | bag a b => rfl
  | bag a b =>
    cases p with
    | star => rfl
    | bag c d =>
      show (a == c && (b == d && true)) = _
      rw [Bool.and_true, Bool.eq_iff_iff]
      simp
theorem ocsD_canLay : ∀ os : List Oc, PyData.canLayAll0 (os.map ocD) = true
  | [] => rfl
  | o :: os => by
    show (PyData.canLay0 (ocD o) && PyData.canLayAll0 (os.map ocD)) = true
    rw [ocsD_canLay os, Bool.and_true]
    exact SeqAt.canLay_of_shaped (ocD_shaped o)
theorem ocsD_depth : ∀ os : List Oc, PyData.depthAll (os.map ocD) ≤ 1
  | [] => Nat.zero_le _
  | o :: os => by
    show max (PyData.depth (ocD o)) (PyData.depthAll (os.map ocD)) ≤ 1
    have h1 := ocsD_depth os
    have h2 : PyData.depth (ocD o) ≤ 1 := by
      cases o with
      | star => exact Nat.zero_le _
      | bag a b => exact Nat.le_refl _
    omega
theorem ocsD_shapedL (os : List Oc) : SeqAt.shaped (.list (os.map ocD)) = true := by
  unfold SeqAt.shaped
  rw [Bool.and_eq_true]
  refine ⟨ocsD_canLay os, decide_eq_true ?_⟩
  show PyData.depthAll (os.map ocD) + 1 ≤ 64
  have := ocsD_depth os
  omega
theorem ocsD_shapedT (os : List Oc) : SeqAt.shaped (.tuple (os.map ocD)) = true := by
  unfold SeqAt.shaped
  rw [Bool.and_eq_true]
  refine ⟨ocsD_canLay os, decide_eq_true ?_⟩
  show PyData.depthAll (os.map ocD) + 1 ≤ 64
  have := ocsD_depth os
  omega
theorem ocsD_any (os : List Oc) (o : Oc) : ((os.map ocD).any fun z => PyData.eqv z (ocD o)) = decide (o ∈ os) := by
  induction os with
  | nil => simp
  | cons p os ih =>
    rw [List.map_cons, List.any_cons, ih, ocD_eqv, Bool.eq_iff_iff]
    simp only [Bool.or_eq_true, decide_eq_true_iff, List.mem_cons]
    constructor
    · rintro (h | h)
      · exact .inl h.symm
      · exact .inr h
    · rintro (h | h)
      · exact .inl h.symm
      · exact .inr h
theorem ocsD_eqvAll : ∀ os : List Oc, PyData.eqvAll (os.map ocD) (os.map ocD) = true
  | [] => rfl
  | o :: os => by
    show (PyData.eqv (ocD o) (ocD o) && PyData.eqvAll (os.map ocD) (os.map ocD)) = true
    rw [ocsD_eqvAll os, ocD_eqv, Bool.and_true]
    exact decide_eq_true rfl
theorem ocsD_shown {cap : Nat} (hc : CapOk cap) {os : List Oc} (h : ∀ o ∈ os, o ∈ ocs cap) (hl : os.length ≤ 10) : (PyData.shown (.list (os.map ocD))).length ≤ sizeLine := by
  have one : ∀ o ∈ ocs cap, (PyData.shown (ocD o)).length ≤ 20 := by
    rcases hc with rfl | rfl
    · decide +kernel
    · decide +kernel
  have all : ∀ l : List Oc, (∀ o ∈ l, o ∈ ocs cap) → ((PyData.shownAll (l.map ocD)).map (·.length)).sum ≤ 20 * l.length ∧ (PyData.shownAll (l.map ocD)).length = l.length := by
    intro l
    induction l with
    | nil => intro _; exact ⟨Nat.le_refl _, rfl⟩
    | cons o l ih =>
      intro hm
      obtain ⟨h1, h2⟩ := ih fun p hp => hm p (List.mem_cons_of_mem _ hp)
      have h3 := one o (hm o List.mem_cons_self)
      have e : PyData.shownAll ((o :: l).map ocD) = PyData.shown (ocD o) :: PyData.shownAll (l.map ocD) := by
        rw [List.map_cons, PyData.shownAll]
      rw [e, List.map_cons, List.sum_cons, List.length_cons, List.length_cons]
      omega
  obtain ⟨h1, h2⟩ := all os h
  have h3 := listText_len_le (PyData.shownAll (os.map ocD))
  have e : PyData.shown (.list (os.map ocD)) = listText (PyData.shownAll (os.map ocD)) := by rw [PyData.shown]
  rw [e, sizeLine_eq]
  omega
end Rt
set_option Elab.async false
set_option linter.all false
set_option maxRecDepth 100000
set_option maxHeartbeats 2000000
namespace Rt
open PySem PySem.Spec PyProof.Rows L2
/-- a property of the class at C, its getter the j-th def of the i-th statement, giving back the field fl -/
def DefP (K : PySem.W.Frag) (C : Addr) (x qual : Str) (i j : Nat) : Prop :=
  ∃ (p f : Addr) (fd : FuncData), Fun K x qual (inClass (topS i) j) f fd ∧ PropOf K C x p f ∧ L2.Binds K fd ["self"] []
section
variable {P : Program} {w : World} {K : PySem.W.Frag} {mg : Str → Option Value} {base : Heap} {CR CT : Addr}
theorem ok_get {C : Addr} {x qual fl : Str} {i j : Nat} {p1 p2 p3 : Pos} (D : DefP K C x qual i j) (S : FnScope ["self"] ["self"] (defScope (inClass (topS i) j)))
    (hb : defBody (inClass (topS i) j) = [.Return (some (.Attribute (.Name "self" p1) fl p2)) p3]) (c : Cls K C) (n : NoAttr K C fl) : CalP P w K mg base C 1 x (getSp C fl) := by
  obtain ⟨p, f, fd, G, pr, bi⟩ := D
  obtain ⟨oc, od, kV, doc, pm, an, cdv, ct, osl, rfl, lk, hcd⟩ := G.ex
  exact ⟨p, f, _, fn_getter lk hcd S rfl hb c n, pr, bi⟩
theorem scP2 : FnScope ["self"] ["self"] (defScope (inClass (topS 11) 2)) := ⟨rfl, rfl, rfl, by decide +kernel, rfl, by decide +kernel, by decide +kernel⟩
theorem scP3 : FnScope ["self"] ["self"] (defScope (inClass (topS 11) 3)) := ⟨rfl, rfl, rfl, by decide +kernel, rfl, by decide +kernel, by decide +kernel⟩
theorem scP4 : FnScope ["self"] ["self"] (defScope (inClass (topS 11) 4)) := ⟨rfl, rfl, rfl, by decide +kernel, rfl, by decide +kernel, by decide +kernel⟩
theorem scP1 : FnScope ["self"] ["self"] (defScope (inClass (topS 23) 1)) := ⟨rfl, rfl, rfl, by decide +kernel, rfl, by decide +kernel, by decide +kernel⟩
theorem ok_cap (T : Tx K mg CR CT) (D : DefP K CR "cap" "Rules.cap" 11 2) : CalP P w K mg base CR 1 "cap" (getSp CR "own_cap") := ok_get D scP2 rfl T.clR T.nc
theorem ok_strong (T : Tx K mg CR CT) (D : DefP K CR "strong" "Rules.strong" 11 3) : CalP P w K mg base CR 1 "strong" (getSp CR "own_strong") := ok_get D scP3 rfl T.clR T.ns
theorem ok_pull (T : Tx K mg CR CT) (D : DefP K CR "pull" "Rules.pull" 11 4) : CalP P w K mg base CR 1 "pull" (getSp CR "own_pull") := ok_get D scP4 rfl T.clR T.np
theorem ok_rules (T : Tx K mg CR CT) (D : DefP K CT "rules" "Table.rules" 23 1) : CalP P w K mg base CT 1 "rules" (getSp CT "own_rules") := ok_get D scP1 rfl T.clT T.nr
/-! ### Rules.__eq__ -/
/-- the three values agree, or the other one is no book of rules but a table -/
def spREq (CR CT : Addr) : Sp := fun vs H Q _ => ∃ (a b : Addr) (c : Nat) (s p : Bool), vs = [.ref a, .ref b] ∧ RulesAt CR H a c s p ∧
  ((∃ (c' : Nat) (s' p' : Bool), RulesAt CR H b c' s' p' ∧ Q (.bl (decide (c = c' ∧ s = s' ∧ p = p'))) H) ∨ ((∃ dx fs, H b = some (.ins CT dx fs)) ∧ Q (.bl false) H))
theorem scREq : FnScope ["self", "other"] ["self", "other"] (defScope sREq) := ⟨rfl, rfl, rfl, by decide +kernel, rfl, by decide +kernel, by decide +kernel⟩
theorem ok_req (T : Tx K mg CR CT) (D : DefE K CR "Rules.__eq__" 11 1) (p1 : CalP P w K mg base CR 1 "cap" (getSp CR "own_cap"))
    (p2 : CalP P w K mg base CR 1 "strong" (getSp CR "own_strong")) (p3 : CalP P w K mg base CR 1 "pull" (getSp CR "own_pull")) : CalE P w K mg base CR 3 (spREq CR CT) := by
  obtain ⟨f, fd, G, me, bi⟩ := D
  refine ⟨f, fd, G.ok scREq (fun vs H Q E h => ?_) (fun cdv A outer s H vs Q E hr h => ?_), me, bi⟩
  · obtain ⟨a, b, c, s, p, rfl, _⟩ := h
    rfl
  · obtain ⟨a, b, c, s, p, rfl, ⟨dx, ha⟩, k⟩ := h
    refine ⟨_, pss_cons (ps_if (pt_not (pt_val (pe_isC T.fr (pv 1) T.gR))) (pss_one (ps_ret pe_bl)) pss_nil)
      (pss_one (ps_ret (pe_and (pe_cmpR op_eq (pe_calP p1 T.clR hr (pv 0)) (pe_calP p1 T.clR hr (pv 1)) (nomark _))
        (pe_and (pe_cmpR op_eq (pe_calP p2 T.clR hr (pv 0)) (pe_calP p2 T.clR hr (pv 1)) (nomark _))
          (pe_one (pe_cmpR op_eq (pe_calP p3 T.clR hr (pv 0)) (pe_calP p3 T.clR hr (pv 1)) (nomark _))))))), ?_⟩
    rcases k with ⟨c', s', p', ⟨dy, hb⟩, q⟩ | ⟨⟨dy, gs, hb⟩, q⟩
    · refine ⟨_, rfl, _, .ref CR, _, _, true, rfl, .own _, T.tyR hb, T.kRR, true, rfl, iteF ?_⟩
      refine ⟨_, rfl, a, dx, _, rfl, ha, a, dx, _, _, rfl, ha, rf_cap _ _ _, _, rfl, b, dy, _, rfl, hb, b, dy, _, _, rfl, hb, rf_cap _ _ _, rfl, _, rfl, ?_⟩
      have fin : ∀ z : Bool, z = decide (c = c' ∧ s = s' ∧ p = p') → Q (.bl z) H := fun z e => by rw [e]; exact q
      by_cases e1 : c = c'
      · refine ifT (by simp [e1]) ?_
        refine ⟨_, rfl, a, dx, _, rfl, ha, a, dx, _, _, rfl, ha, rf_strong _ _ _, _, rfl, b, dy, _, rfl, hb, b, dy, _, _, rfl, hb, rf_strong _ _ _, rfl, _, rfl, ?_⟩
        by_cases e2 : s = s'
        · refine ifT (by simp [e2]) ?_
          refine ⟨_, rfl, a, dx, _, rfl, ha, a, dx, _, _, rfl, ha, rf_pull _ _ _, _, rfl, b, dy, _, rfl, hb, b, dy, _, _, rfl, hb, rf_pull _ _ _, rfl, ?_⟩
          exact fin _ (by simp [e1, e2])
        · refine ifF (by simp [e2]) ?_
          exact fin _ (by simp [e2])
      · refine ifF (by simp; omega) ?_
        exact fin _ (by simp [e1])
    · refine ⟨_, rfl, _, .ref CR, _, _, false, rfl, .own _, T.tyT hb, T.kTR, false, rfl, iteT q⟩
/-! ### Rules.bags -/
def spBags (CR : Addr) : Sp := fun vs H Q _ => ∃ (r : Addr) (c : Nat) (s p : Bool), vs = [.ref r] ∧ RulesAt CR H r c s p ∧ CapOk c ∧
  ∀ (H' : Hp) (l : Addr) (xs : List V), Same H H' → H l = none → H' l = some (.lst xs) → BgL H' xs (bagsOf c) → Q (.ref l) H'
theorem rgV_nums (c : Nat) : rgV 0 ((c : Int) + 1) = (nums c).map V.int := by
  unfold rgV nums
  rw [List.map_map]
  have e : ((c : Int) + 1 - 0).toNat = c + 1 := by omega
  rw [e]
  apply List.map_congr_left
  intro n _
  show V.int (0 + (n : Int)) = V.int (n : Int)
  rw [Int.zero_add]
theorem scBags : FnScope ["self", "counts", "a", "b"] ["self"] (defScope sRBags) := ⟨rfl, rfl, rfl, by decide +kernel, rfl, by decide +kernel, by decide +kernel⟩
theorem ok_bags (T : Tx K mg CR CT) (D : DefM K CR "bags" "Rules.bags" 11 5 ["self"]) (p1 : CalP P w K mg base CR 1 "cap" (getSp CR "own_cap")) : CalM P w K mg base CR 3 "bags" ["self"] (spBags CR) := by
  obtain ⟨f, fd, G, me, bi⟩ := D
  refine ⟨f, fd, G.ok scBags (fun vs H Q E h => ?_) (fun cdv A outer s H vs Q E hr h => ?_), me, bi⟩
  · obtain ⟨r, c, s, p, rfl, _⟩ := h
    rfl
  · obtain ⟨r, c, s, p, rfl, ⟨dx, ha⟩, hc, k⟩ := h
    refine ⟨_, pss_cons (ps_set (i := 1) scBags.nd rfl (Or.inr rfl) (pe_listRg rfl rfl T.fr.list (prg_1 rfl T.fr.range (pe_op op_add (pe_calP p1 T.clR hr (pv 0)) pe_int))))
      (pss_one (ps_ret (by exact (pe_lc2 (own := [("a", 2), ("b", 3)]) (vs1 := [3]) (g := gName 2) (g1 := gName 3) (tt := tYes) (tt1 := tYes) (wi1 := iList K (tVar 1)) (te := tTup (tCons (tVar 2) (tCons (tVar 3) tNil))) rfl scBags.nd (pi_list (pv 1))
        (blkOk_by (N := ["self", "counts", "a", "b"]) (sc := defScope sRBags) (by decide +kernel)) (by decide)
        (fun _ _ _ _ _ => pg_name (i := 2) scBags.nd rfl (Or.inl rfl)) (fun _ _ _ _ _ => pts_nil) (fun _ _ _ _ _ => pi_list (pv 1))
        (fun _ _ _ _ _ => pg_name (i := 3) scBags.nd rfl (Or.inl rfl)) (fun _ _ _ _ _ => pts_nil) (fun _ _ _ _ _ => pe_tup (pa_cons (pv 2) (pa_cons (pv 3) pa_nil))))))), ?_⟩
    have hln : (nums c).length = c + 1 := by unfold nums; rw [List.length_map, List.length_range]
    have hc2 : c ≤ 2 := by rcases hc with rfl | rfl <;> decide
    refine ⟨_, rfl, r, dx, _, rfl, ha, r, dx, _, _, rfl, ha, rf_cap _ _ _, _, _, rfl, rfl, _, rfl, RgOk.of_le (by omega) (by omega) (by omega) (by omega), fun lq hlq => ?_⟩
    rw [rgV_nums]
    have s1 : Same H (L2.upd H lq (.lst ((nums c).map V.int))) := Same.new hlq
    generalize hH1 : L2.upd H lq (.lst ((nums c).map V.int)) = H1
    have hq1 : H1 lq = some (.lst ((nums c).map V.int)) := by rw [← hH1]; exact upd_same
    rw [hH1] at s1
    have ix : ∀ (i : Nat) (x : V), ((nums c).map V.int)[i]? = some x → ∃ a, (nums c)[i]? = some a ∧ x = .int a := fun i x h => by
      rw [List.getElem?_map] at h
      obtain ⟨a, h1, h2⟩ := Option.map_eq_some_iff.mp h
      exact ⟨a, h1, h2.symm⟩
    refine ⟨_, rfl, lq, rfl, ⟨_, SqL.of hq1⟩, fun D hD => ?_⟩
    let rowsTo : Nat → List Bg := fun i => ((nums c).take i).flatMap fun a => (nums c).map fun b => (a, b)
    let Pv : Nat → Hp → Prop := fun i H' => Same H1 H' ∧ ∃ acc, H' D = some (.lst acc) ∧ BgL H' acc (rowsTo i) ∧ acc.length = (c + 1) * i
    have lst_at : ∀ {H' : Hp}, Same H1 H' → SqL K H' lq ((nums c).map V.int) := fun e => SqL.of (e _ _ hq1)
    refine ⟨fun i m H' => m = (nums c).length - i ∧ i ≤ (nums c).length ∧ Pv i H', ⟨_, rfl, Nat.zero_le _, Same.new hD, [], upd_same, .nil, by simp⟩, ?_⟩
    rintro i m H' ⟨rfl, hi, e1, acc, hacc, hb, hal⟩
    by_cases hlt : i < (nums c).length
    · refine .inr ⟨⟨_, ((nums c).map V.int)[i]'(by rw [List.length_map]; exact hlt), lst_at e1, List.getElem?_eq_getElem _⟩, Pv (i + 1), fun H'' p => ⟨(nums c).length - (i + 1), by omega, rfl, hlt, p⟩, ?_⟩
      rintro x H'' ⟨rfl, hy⟩
      obtain ⟨a, hax, rfl⟩ := ix i x (hy _ (lst_at e1))
      refine ⟨rfl, ?_⟩
      refine ⟨_, rfl, lq, rfl, ⟨_, lst_at e1⟩, ?_⟩
      let Pw : Nat → Hp → Prop := fun j H' => Same H1 H' ∧ ∃ acc, H' D = some (.lst acc) ∧ BgL H' acc (rowsTo i ++ ((nums c).take j).map fun b => (a, b)) ∧ acc.length = (c + 1) * i + j
      refine ⟨fun j m H' => m = (nums c).length - j ∧ j ≤ (nums c).length ∧ Pw j H', ⟨_, rfl, Nat.zero_le _, e1, acc, hacc, by simpa using hb, by omega⟩, ?_⟩
      rintro j m H2 ⟨rfl, hj, e2, acc2, hacc2, hb2, hal2⟩
      by_cases hlt2 : j < (nums c).length
      · refine .inr ⟨⟨_, ((nums c).map V.int)[j]'(by rw [List.length_map]; exact hlt2), lst_at e2, List.getElem?_eq_getElem _⟩, Pw (j + 1), fun H'' p => ⟨(nums c).length - (j + 1), by omega, rfl, hlt2, p⟩, ?_⟩
        rintro y H3 ⟨rfl, hy2⟩
        obtain ⟨b, hbx, rfl⟩ := ix j y (hy2 _ (lst_at e2))
        refine ⟨rfl, _, rfl, _, rfl, (by show 2 ≤ sizeLine; decide), fun t ht => ?_⟩
        have ntD : D ≠ t := ne_of_none hacc2 ht
        have hD3 : L2.upd H3 t (.tup [.int a, .int b]) D = some (.lst acc2) := by rw [upd_ne ntD]; exact hacc2
        have hi3 : (c + 1) * i ≤ 9 := by
          have h3 : c + 1 ≤ 3 := by omega
          have h4 : i ≤ 3 := by omega
          exact Nat.le_trans (Nat.mul_le_mul h3 h4) (by decide)
        refine ⟨acc2, hD3, Nat.lt_of_le_of_lt (m := 12) (by omega) (by decide), ?_⟩
        refine ⟨fun z o h => ?_, _, upd_same, ?_, by rw [List.length_append, List.length_singleton]; omega⟩
        · rw [upd_ne (ne_of_none h hD), upd_ne (ne_of_none (e2 _ _ h) ht)]
          exact e2 _ _ h
        · have tk : Tk H3 (L2.upd (L2.upd H3 t (.tup [.int a, .int b])) D (.lst (acc2 ++ [.ref t]))) := (Tk.new ht).trans (Tk.put hD3)
          have new : IsBag (L2.upd (L2.upd H3 t (.tup [.int a, .int b])) D (.lst (acc2 ++ [.ref t]))) (.ref t) (a, b) := ⟨t, rfl, by rw [upd_ne ntD.symm]; exact upd_same⟩
          have z := Paired.app (hb2.tk tk) (Paired.one new)
          rw [take_more hbx, List.map_append, ← List.append_assoc]
          exact z
      · have ej : j = (nums c).length := by omega
        subst ej
        refine .inl ⟨⟨_, lst_at e2, by rw [List.length_map]; exact Nat.le_refl _⟩, e2, acc2, hacc2, ?_, ?_⟩
        · rw [List.take_length] at hb2
          have er : rowsTo (i + 1) = rowsTo i ++ (nums c).map fun b => (a, b) := by
            show ((nums c).take (i + 1)).flatMap _ = _
            rw [take_more hax, List.flatMap_append]
            simp [rowsTo]
          rw [er]
          exact hb2
        · rw [hal2, hln, Nat.mul_add, Nat.mul_one]
    · have ei : i = (nums c).length := by omega
      subst ei
      refine .inl ⟨⟨_, lst_at e1, by rw [List.length_map]; exact Nat.le_refl _⟩, ?_⟩
      have er : rowsTo (nums c).length = bagsOf c := by
        show ((nums c).take (nums c).length).flatMap _ = _
        rw [List.take_length]
        rfl
      rw [er] at hb
      exact k H' D acc (s1.trans e1) (s1.free hD) hacc hb
end
end Rt
set_option Elab.async false
set_option linter.all false
set_option maxRecDepth 100000
set_option maxHeartbeats 2000000
namespace Rt
open PySem PySem.Spec PyProof.Rows L2
theorem capOf (c : Nat) (s p : Bool) {CR : Addr} {H : Hp} {r dx : Addr} (h : H r = some (.ins CR dx (rf c s p))) {Q : VK} (q : Q (.int c) H) : getSp CR "own_cap" [.ref r] H Q E0 :=
  ⟨r, dx, _, _, rfl, h, rf_cap _ _ _, q⟩
/-! ### is_bag -/
abbrev sIsBag : Stmt := topS 12
def spIsBag (CR : Addr) : Sp := fun vs H Q _ => ∃ (r : Addr) (c : Nat) (s p : Bool) (v : V), vs = [.ref r, v] ∧ RulesAt CR H r c s p ∧
  ((∃ b ∈ bagsOf c, IsBag H v b ∧ ∀ H', Same H H' → Q (.bl true) H') ∨ (v = .str "star" ∧ Q (.bl false) H))
theorem scIsBag : FnScope ["rules", "thing", "carried"] ["rules", "thing"] (defScope sIsBag) := ⟨rfl, rfl, rfl, by decide +kernel, rfl, by decide +kernel, by decide +kernel⟩
section
variable {P : Program} {w : World} {K : PySem.W.Frag} {mg : Str → Option Value} {base : Heap} {CR CT : Addr}
theorem ok_isBag (T : Tx K mg CR CT) (D : Def K mg "is_bag" 12 ["rules", "thing"]) (c1 : Cal P w K mg base CX0 1 "is_integer" ["thing"] spInt) (p1 : CalP P w K mg base CR 1 "cap" (getSp CR "own_cap")) :
    Cal P w K mg base CX0 3 "is_bag" ["rules", "thing"] (spIsBag CR) := by
  obtain ⟨f, fd, G, gl, bi⟩ := D
  refine ⟨f, fd, G.ok scIsBag (fun vs H Q E h => ?_) (fun cdv A outer s H vs Q E hr h => ?_), gl, G.kp, bi⟩
  · obtain ⟨r, c, s, p, v, rfl, _⟩ := h
    rfl
  · obtain ⟨r, c, s, p, v, rfl, ⟨dx, ha⟩, k⟩ := h
    have hr1 : Room 1 _ := hr.mono (by decide)
    refine ⟨_, pss_cons (ps_if (PW.pt (pw_or (pt_not (pt_val (pe_isB T.fr (pv 1) (hy := T.fr.tuple) (hv := bt_tuple)))) (pw_or1 (pt_cmpR op_ne (pe_callB call_len_seq (by rfl) T.fr.len bt_len (pa_cons (pv 1) pa_nil)) pe_int (nomark _))))) (pss_one (ps_ret pe_bl)) pss_nil)
      (pss_one (ps_ret (pe_callB (cr_all rfl) (by rfl) T.fr.all bt_all (pa_cons (by exact (pe_lc (own := [("carried", 2)]) (g := gName 2) (tt := tYes) rfl scIsBag.nd (pi_tup (pv 1))
        (blkOk_by (N := ["rules", "thing", "carried"]) (sc := defScope sIsBag) (by decide +kernel)) (fun _ _ _ _ _ => pg_name (i := 2) scIsBag.nd rfl (Or.inl rfl)) (fun _ _ _ _ _ => pts_nil)
        (fun _ _ _ _ _ => pe_and (pe_cal c1 hr1 pass0 (pa_cons (pv 2) pa_nil)) (pe_one (pe_chain op_le op_le pe_int (pv 2) (pe_calP p1 T.clR hr (pv 0))))))) pa_nil)))), ?_⟩
    rcases k with ⟨b, hb, ⟨q, rfl, hq⟩, k⟩ | ⟨rfl, k⟩
    · refine ⟨_, rfl, _, .ty "tuple", _, _, true, rfl, .ty _, .base (.tup hq), kit_ty (by decide +kernel), true, rfl, iteF ?_⟩
      refine ⟨_, rfl, q, _, rfl, .inr (SqT.of hq), rfl, _, rfl, ifF (by simp) ?_⟩
      refine ⟨_, rfl, q, rfl, ⟨_, SqT.of hq⟩, fun D hD => ?_⟩
      have hb' := mem_bags.mp hb
      have nqD : q ≠ D := ne_of_none hq hD
      refine lc_tup (K := K) (a := q) (xs := [.int b.1, .int b.2]) (fun i H' => H' = L2.upd H D (.lst ((List.replicate i true).map V.bl))) rfl (fun i H' _ e => by rw [e]; exact SqT.of (by rw [upd_ne nqD]; exact hq)) ?_ ?_
      · rintro i x H' hx rfl
        obtain ⟨z, rfl, hz⟩ : ∃ z : Int, x = .int z ∧ (0 ≤ z ∧ z ≤ c) := by
          match i, hx with
          | 0, hx => exact ⟨b.1, by simpa using hx.symm, hb'.1⟩
          | 1, hx => exact ⟨b.2, by simpa using hx.symm, hb'.2⟩
        have hi2 : i < 2 := by
          have := (List.getElem?_eq_some_iff.mp hx).1
          simpa using this
        refine ⟨rfl, ?_⟩
        refine ⟨_, rfl, z, rfl, true, rfl, iteT ?_⟩
        refine ⟨_, rfl, _, _, rfl, rfl, _, rfl, ifT (decide_eq_true hz.1) ?_⟩
        have hr' : L2.upd H D (.lst ((List.replicate i true).map V.bl)) r = some (.ins CR dx (rf c s p)) := by rw [upd_ne (ne_of_none ha hD)]; exact ha
        refine ⟨_, rfl, r, dx, _, rfl, hr', capOf c s p hr' ⟨_, _, rfl, rfl, ?_⟩⟩
        dsimp only
        rw [decide_eq_true hz.2]
        refine ⟨_, upd_same, ?_, ?_⟩
        · rw [List.length_map, List.length_replicate]
          exact Nat.lt_trans hi2 (by decide)
        · rw [upd_upd, List.replicate_succ', List.map_append]
          rfl
      · rintro H' rfl
        refine ⟨D, _, rfl, SqL.of upd_same, ?_⟩
        exact k _ (Same.new hD)
    · refine ⟨_, rfl, _, .ty "tuple", _, _, false, rfl, .ty _, .base (.str _), kit_ty (by decide +kernel), false, rfl, ?_⟩
      exact iteT k
end
end Rt
set_option Elab.async false
set_option linter.all false
set_option maxRecDepth 100000
set_option maxHeartbeats 2000000
namespace Rt
open PySem PySem.Spec PyProof.Rows L2
/-! ### what a for walks: a list or a tuple -/
def iSeq (K : PySem.W.Frag) (tl : TE) : TI := fun σ H R => tl σ H fun x H1 => ∃ a, x = .ref a ∧ (((∃ xs, SqL K H1 a xs) ∧ R (Itl K a) H1) ∨ ((∃ xs, SqT K H1 a xs) ∧ R (Itt K a) H1))
theorem pi_seq {X : Cx} {tg l : Expr} {tl : TE} (hl : PE X l tl) : PI X tg l (iSeq X.K tl) := by
  refine ⟨fun pins s σ H R I h => thn (hl.run pins s σ H _ I h) ?_⟩
  rintro v s1 ⟨x, H1, I1, r1, a, rfl, q⟩
  cases r1
  have own : ∀ b ∈ [s1.heap.objs.size], FpOk X pins H1 b := fun b hb => by
    rw [show b = s1.heap.objs.size by simpa using hb]
    exact I1.fpOk (Nat.le_refl _) (I1.hok.fresh (Nat.le_refl _))
  rcases q with ⟨⟨xs, hq⟩, q⟩ | ⟨⟨xs, hq⟩, q⟩
  · obtain ⟨its, rv, pl, hz⟩ := I1.list hq
    refine wpAny_pyIter_list pl.isList ?_
    exact ⟨s1.heap.objs.size, [s1.heap.objs.size], _, _, H1, rfl, I1.kept (t' := s1.toks) (fun b o e => Heap.get?_push_of_some _ e), turn_list a _, ⟨_, Heap.get?_push_size _ rfl, rfl, rfl⟩, own, q⟩
  · obtain ⟨its, rv, pl, hz⟩ := I1.tuple hq
    refine wpAny_pyIter_tuple (show s1.heap.IsTuple a its.toArray from pl) ?_
    exact ⟨s1.heap.objs.size, [s1.heap.objs.size], _, _, H1, rfl, I1.kept (t' := s1.toks) (fun b o e => Heap.get?_push_of_some _ e), turn_tuple a _, ⟨_, Heap.get?_push_size _ rfl, rfl, rfl⟩, own, q⟩
/-! ### comprehensions over a walk -/
/-- what a walked comprehension has to show (the layer's own form) -/
def LcEnd (J : It) (g : TG) (tt : TT) (te : TE) (vs : List Nat) (σ : L2.St) (H1 : Hp) (D : Addr) (Qd : Hp → Prop) : Prop :=
  ∃ W : Nat → Nat → Hp → Prop, (∃ m, W 0 m (upd H1 D (.lst []))) ∧ ∀ i m H, W i m H →
    (J.stop i H ∧ Qd H) ∨ (J.go i H ∧ ∃ Nx : Hp → Prop, (∀ H', Nx H' → ∃ m', m' < m ∧ W (i + 1) m' H') ∧
      ∀ x H', J.yld i H x H' → g x (wipe σ vs) H' fun σ2 H2 => wipe σ2 vs = wipe σ vs ∧ tt σ2 H2 fun b H3 =>
        if b = true then te σ2 H3 fun y H4 => ∃ acc, H4 D = some (.lst acc) ∧ acc.length < sizeLine ∧ Nx (upd H4 D (.lst (acc ++ [y]))) else Nx H3)
/-- one element a turn, no test: F i tells the i-th -/
theorem lc_build {J : It} {n k : Nat} {G : Hp → Prop} {Y : Nat → Hp → V → Hp → Prop} (w : Walk J n G Y) {te : TE} {vs : List Nat} {σ : L2.St} {H1 : Hp} {D : Addr} {Qd : Hp → Prop}
    (hw : ∀ x, wipe ((wipe σ vs).set k (some x)) vs = wipe σ vs) (hn : n ≤ 1000) (I : Hp → Prop) (F : Nat → V → Hp → Prop) (h0 : I (upd H1 D (.lst []))) (hG : ∀ H, I H → G H)
    (hI : ∀ H acc acc', I H → H D = some (.lst acc) → I (upd H D (.lst acc'))) (hF : ∀ i y H acc acc', F i y H → H D = some (.lst acc) → F i y (upd H D (.lst acc')))
    (hs : ∀ i x H H' (R : VK), i < n → I H → (∃ acc, H D = some (.lst acc)) → Y i H x H' →
      (∀ y H4, I H4 → H4 D = H D → F i y H4 → (∀ j z, F j z H → F j z H4) → R y H4) → te ((wipe σ vs).set k (some x)) H' R)
    (hd : ∀ H acc, I H → H D = some (.lst acc) → acc.length = n → (∀ (i : Nat) y, acc[i]? = some y → F i y H) → Qd H) : LcEnd J (gName k) tYes te vs σ H1 D Qd := by
  refine lc_it w (fun i H => I H ∧ ∃ acc, H D = some (.lst acc) ∧ acc.length = i ∧ ∀ (j : Nat) y, acc[j]? = some y → F j y H) ⟨h0, [], upd_same, rfl, fun j y h => by simp at h⟩ (fun i H _ p => hG H p.1) ?_ ?_
  · rintro i x H H' hi ⟨hi0, acc, hacc, hl, hf⟩ hy
    refine ⟨hw x, ?_⟩
    refine hs i x H H' _ hi hi0 ⟨acc, hacc⟩ hy ?_
    intro y H4 i4 e4 f4 m4
    have h4 : H4 D = some (.lst acc) := e4.trans hacc
    refine ⟨acc, h4, Nat.lt_of_lt_of_le (by omega : acc.length < 1001) (by decide), hI _ _ _ i4 h4, _, upd_same, by rw [List.length_append, List.length_singleton, hl], ?_⟩
    intro j z hz
    refine hF j z H4 acc _ ?_ h4
    by_cases hj : j < acc.length
    · rw [List.getElem?_append_left hj] at hz
      exact m4 j z (hf j z hz)
    · rw [List.getElem?_append_right (by omega)] at hz
      have e : j - acc.length = 0 := by
        cases q : j - acc.length with
        | zero => rfl
        | succ m =>
          rw [q] at hz
          simp at hz
      rw [e] at hz
      have ez : y = z := Option.some.inj hz
      have ej : j = i := by omega
      rw [← ez, ej]
      exact f4
  · rintro H ⟨hi0, acc, hacc, hl, hf⟩
    exact hd H acc hi0 hacc hl hf
/-- those that a test lets, the items themselves; a new list of them -/
theorem lc_pick {J : It} {k : Nat} {G : Hp → Prop} {xs : List V} {os : List Oc} (w : Walk J xs.length G (YAt xs)) {tt : TT} {vs : List Nat} {σ : L2.St} {H1 : Hp} {D : Addr} {Qd : Hp → Prop}
    (hw : ∀ x, wipe ((wipe σ vs).set k (some x)) vs = wipe σ vs) (hk : ∀ x, ((wipe σ vs).set k (some x))[k]? = some (some x)) (hD : H1 D = none) (hn : os.length ≤ 1000) (ho : OcL H1 xs os) (q : Oc → Bool) (hG : ∀ H, Same H1 H → G H)
    (hs : ∀ x o H (R : Bool → Hp → Prop), IsOc H x o → o ∈ os → Same H1 H → R (q o) H → tt ((wipe σ vs).set k (some x)) H R)
    (hd : ∀ H acc, Same H1 H → H D = some (.lst acc) → OcL H acc (os.filter q) → Qd H) : LcEnd J (gName k) tt (tVar k) vs σ H1 D Qd := by
  have hl : xs.length = os.length := Paired.length ho
  refine lc_it w (fun i H => Same H1 H ∧ ∃ acc, H D = some (.lst acc) ∧ OcL H acc ((os.take i).filter q)) ⟨Same.new hD, [], upd_same, .nil⟩ (fun i H _ p => hG H p.1) ?_ ?_
  · rintro i x H H' hi ⟨e1, acc, hacc, hac⟩ ⟨rfl, hx⟩
    refine ⟨hw x, ?_⟩
    obtain ⟨o, hio, hxo⟩ := Paired.at (ho.tk (Same.tk e1)) hx
    refine hs x o H' _ hxo (List.mem_of_getElem? hio) e1 ?_
    have hal : acc.length ≤ i := by
      rw [Paired.length hac]
      exact Nat.le_trans (List.length_filter_le _ _) (by rw [List.length_take]; exact Nat.min_le_left _ _)
    by_cases hq : q o = true
    · rw [if_pos hq]
      refine ⟨x, hk x, acc, hacc, Nat.lt_of_le_of_lt (m := 1000) (by omega) (by decide), ?_⟩
      have tk : Tk H' (L2.upd H' D (.lst (acc ++ [x]))) := Tk.put hacc
      refine ⟨fun b o h => by rw [upd_ne (ne_of_none h hD)]; exact e1 b o h, _, upd_same, ?_⟩
      rw [filter_more hio, if_pos hq]
      exact Paired.app (hac.tk tk) (Paired.one (hxo.tk tk))
    · rw [if_neg hq]
      refine ⟨e1, acc, hacc, ?_⟩
      rw [filter_more hio, if_neg hq, List.append_nil]
      exact hac
  · rintro H ⟨e1, acc, hacc, hac⟩
    rw [hl, List.take_length] at hac
    exact hd H acc e1 hacc hac
theorem Same.keepD {H1 H : Hp} {D : Addr} {acc acc' : List V} (hD : H1 D = none) (e : Same H1 H) : Same H1 (L2.upd H D (.lst acc')) := fun b o h => by
  rw [upd_ne (ne_of_none h hD)]
  exact e b o h
end Rt
set_option Elab.async false
set_option linter.all false
set_option maxRecDepth 100000
set_option maxHeartbeats 2000000
namespace Rt
open PySem PySem.Spec PyProof.Rows L2
theorem u65 {k : Nat} {A : Around} (r : Room k A) : A.units + 65 < cLine := by
  have := r.un
  omega
theorem u70 {k : Nat} {A : Around} (r : Room k A) : A.units + 70 < cLine := by
  have := r.un
  omega
theorem u64 {k : Nat} {A : Around} (r : Room k A) : A.units + 64 < cLine := by
  have := r.un
  omega
theorem u3 {k : Nat} {A : Around} (r : Room k A) : A.units + 3 < cLine := by
  have := r.un
  omega
theorem rf_no {c : Nat} {s p : Bool} {m : Str} (h1 : (m == ("own_cap" : Str)) = false) (h2 : (m == ("own_strong" : Str)) = false) (h3 : (m == ("own_pull" : Str)) = false) : (rf c s p).lookup m = none := by
  simp [rf, List.lookup, h1, h2, h3]
theorem rf_bags (c : Nat) (s p : Bool) : (rf c s p).lookup ("bags" : Str) = none := rf_no (by decide +kernel) (by decide +kernel) (by decide +kernel)
theorem bag_oc {c : Nat} {o : Oc} (h : o ∈ ocs c) : o = .star ∨ ∃ b ∈ bagsOf c, o = ocOf b := by
  cases o with
  | star => exact .inl rfl
  | bag x y => exact .inr ⟨(x, y), bag_mem_ocs.mp h, rfl⟩
abbrev sCkBag : Stmt := topS 14
abbrev sIsOc : Stmt := topS 17
abbrev sOio : Stmt := topS 18
abbrev sAre : Stmt := topS 19
abbrev sCkOc : Stmt := topS 20
abbrev sListed : Stmt := topS 21
/-- a bag of the rules: nothing happens -/
def spCkBag (CR : Addr) : Sp := fun vs H Q _ => ∃ (r : Addr) (c : Nat) (s p : Bool) (v : V), vs = [.ref r, v] ∧ RulesAt CR H r c s p ∧ (∃ b ∈ bagsOf c, IsBag H v b) ∧ ∀ H', Same H H' → Q .non H'
def spIsOc (CR : Addr) : Sp := fun vs H Q _ => ∃ (r : Addr) (c : Nat) (s p : Bool) (v : V), vs = [.ref r, v] ∧ RulesAt CR H r c s p ∧ (∃ o ∈ ocs c, IsOc H v o) ∧ ∀ H', Same H H' → Q (.bl true) H'
def spCkOc (CR : Addr) : Sp := fun vs H Q _ => ∃ (r : Addr) (c : Nat) (s p : Bool) (v : V), vs = [.ref r, v] ∧ RulesAt CR H r c s p ∧ (∃ o ∈ ocs c, IsOc H v o) ∧ ∀ H', Same H H' → Q .non H'
def spOio (CR : Addr) : Sp := fun vs H Q _ => ∃ (r : Addr) (c : Nat) (s p : Bool), vs = [.ref r] ∧ RulesAt CR H r c s p ∧ CapOk c ∧
  ∀ (H' : Hp) (l : Addr) (xs : List V), Same H H' → H l = none → H' l = some (.lst xs) → OcL H' xs (ocs c) → Q (.ref l) H'
/-- a row: a list or a tuple of outcomes -/
def RowAt (H : Hp) (a : Addr) (os : List Oc) : Prop := ∃ xs, (H a = some (.lst xs) ∨ H a = some (.tup xs)) ∧ OcL H xs os
theorem RowAt.same {H H' : Hp} {a : Addr} {os : List Oc} (h : RowAt H a os) (e : Same H H') : RowAt H' a os := by
  obtain ⟨xs, h1, h2⟩ := h
  exact ⟨xs, h1.imp (e _ _) (e _ _), h2.tk (Same.tk e)⟩
/-- an outcome in a row -/
def rInOc : R2 := fun x y H Q => ∃ (a : Addr) (o : Oc) (os : List Oc), y = .ref a ∧ IsOc H x o ∧ RowAt H a os ∧ Q (.bl (decide (o ∈ os))) H
theorem op_inOc {X : Cx} (hu : X.A.units + 65 < cLine) : OpR X (compareOp .In) rInOc := by
  intro pins s σ H x y v u Q I rx ry h
  obtain ⟨a, o, os, rfl, hx, ⟨xs, ha, ho⟩, q⟩ := h
  obtain ⟨as, r1⟩ := Dp.reads I (ocD o) x v hx.dp rx
  have fin : EP X pins σ Q (.bool ((os.map ocD).any fun z => PyData.eqv z (ocD o))) s := by
    rw [ocsD_any]
    exact ⟨.bl _, H, I, rfl, q⟩
  rcases ha with ha | ha
  · obtain ⟨bs, r2⟩ := Dp.reads I (.list (os.map ocD)) (.ref a) u (.lst (SqL.of ha) (OcL.dp ho)) ry
    exact SeqAt.in_list_reads r2 r1 (SeqAt.canLay_of_shaped (ocsD_shapedL os)) (SeqAt.canLay_of_shaped (ocD_shaped o)) (room_in_shaped (ocD_shaped o) hu) fin
  · obtain ⟨bs, r2⟩ := Dp.reads I (.tuple (os.map ocD)) (.ref a) u (.tup (SqT.of ha) (OcL.dp ho)) ry
    exact SeqAt.in_tuple_reads r2 r1 (SeqAt.canLay_of_shaped (ocsD_shapedT os)) (SeqAt.canLay_of_shaped (ocD_shaped o)) (room_in_shaped (ocD_shaped o) hu) fin
def spAre (CR : Addr) : Sp := fun vs H Q _ => ∃ (r a : Addr) (c : Nat) (s p : Bool) (os : List Oc), vs = [.ref r, .ref a] ∧ RulesAt CR H r c s p ∧ RowAt H a os ∧ os.length ≤ 1000 ∧ (∀ o ∈ os, o ∈ ocs c) ∧ ∀ H', Same H H' → Q (.bl true) H'
def spListed (CR : Addr) : Sp := fun vs H Q _ => ∃ (r a : Addr) (c : Nat) (s p : Bool) (os : List Oc), vs = [.ref r, .ref a] ∧ RulesAt CR H r c s p ∧ CapOk c ∧ RowAt H a os ∧
  ∀ (H' : Hp) (l : Addr) (xs : List V), Same H H' → H l = none → H' l = some (.lst xs) → OcL H' xs (lst c os) → Q (.ref l) H'
theorem scCkBag : FnScope ["rules", "thing"] ["rules", "thing"] (defScope sCkBag) := ⟨rfl, rfl, rfl, by decide +kernel, rfl, by decide +kernel, by decide +kernel⟩
theorem scIsOc : FnScope ["rules", "thing"] ["rules", "thing"] (defScope sIsOc) := ⟨rfl, rfl, rfl, by decide +kernel, rfl, by decide +kernel, by decide +kernel⟩
theorem scOio : FnScope ["rules"] ["rules"] (defScope sOio) := ⟨rfl, rfl, rfl, by decide +kernel, rfl, by decide +kernel, by decide +kernel⟩
theorem scAre : FnScope ["rules", "thing", "item"] ["rules", "thing"] (defScope sAre) := ⟨rfl, rfl, rfl, by decide +kernel, rfl, by decide +kernel, by decide +kernel⟩
theorem scCkOc : FnScope ["rules", "thing"] ["rules", "thing"] (defScope sCkOc) := ⟨rfl, rfl, rfl, by decide +kernel, rfl, by decide +kernel, by decide +kernel⟩
theorem scListed : FnScope ["rules", "had", "each"] ["rules", "had"] (defScope sListed) := ⟨rfl, rfl, rfl, by decide +kernel, rfl, by decide +kernel, by decide +kernel⟩
section
variable {P : Program} {w : World} {K : PySem.W.Frag} {mg : Str → Option Value} {base : Heap} {CR CT : Addr}
theorem ok_ckBag (D : Def K mg "check_bag" 14 ["rules", "thing"]) (c1 : Cal P w K mg base CX0 3 "is_bag" ["rules", "thing"] (spIsBag CR)) : Cal P w K mg base CX0 4 "check_bag" ["rules", "thing"] (spCkBag CR) := by
  obtain ⟨f, fd, G, gl, bi⟩ := D
  refine ⟨f, fd, G.ok scCkBag (fun vs H Q E h => ?_) (fun cdv A outer s H vs Q E hr h => ?_), gl, G.kp, bi⟩
  · obtain ⟨r, c, s, p, v, rfl, _⟩ := h
    rfl
  · obtain ⟨r, c, s, p, v, rfl, hR, ⟨b, hb, hv⟩, k⟩ := h
    refine ⟨_, pss_one (ps_if (pt_not (pt_val (pe_cal c1 hr pass0 (pa_cons (pv 0) (pa_cons (pv 1) pa_nil))))) (pss_one ps_never) pss_nil), ?_⟩
    exact ⟨_, rfl, _, rfl, r, c, s, p, v, rfl, hR, .inl ⟨b, hb, hv, fun H' e => ⟨true, rfl, iteF (k H' e)⟩⟩⟩
theorem ok_isOc (T : Tx K mg CR CT) (D : Def K mg "is_outcome" 17 ["rules", "thing"]) (c1 : Cal P w K mg base CX0 3 "is_bag" ["rules", "thing"] (spIsBag CR)) : Cal P w K mg base CX0 4 "is_outcome" ["rules", "thing"] (spIsOc CR) := by
  obtain ⟨f, fd, G, gl, bi⟩ := D
  obtain ⟨ts, gs⟩ := T.gstar
  refine ⟨f, fd, G.ok scIsOc (fun vs H Q E h => ?_) (fun cdv A outer s H vs Q E hr h => ?_), gl, G.kp, bi⟩
  · obtain ⟨r, c, s, p, v, rfl, _⟩ := h
    rfl
  · obtain ⟨r, c, s, p, v, rfl, hR, ⟨o, ho, hv⟩, k⟩ := h
    refine ⟨_, pss_one (ps_ret (pe_or (pe_cal c1 hr pass0 (pa_cons (pv 0) (pa_cons (pv 1) pa_nil))) (pe_one (pe_and (pe_isB T.fr (pv 1) (hy := T.fr.str) (hv := bt_str))
      (pe_one (pe_cmpR op_eq (pv 1) (pe_glob (v := .str "star") rfl gs ⟨_, rfl⟩) (nomark _))))))), ?_⟩
    rcases bag_oc ho with rfl | ⟨b, hb, rfl⟩
    · have ev : v = .str "star" := hv
      subst ev
      refine ⟨_, rfl, _, rfl, r, c, s, p, _, rfl, hR, .inr ⟨rfl, false, rfl, iteF ?_⟩⟩
      refine ⟨_, rfl, _, .ty "str", _, _, true, rfl, .ty _, .base (.str _), kit_ty (by decide +kernel), true, rfl, iteT ?_⟩
      refine ⟨_, rfl, rfl, ?_⟩
      rw [decide_eq_true rfl]
      exact k H (Same.refl H)
    · exact ⟨_, rfl, _, rfl, r, c, s, p, v, rfl, hR, .inl ⟨b, hb, hv, fun H' e => ⟨true, rfl, iteT (k H' e)⟩⟩⟩
theorem ok_ckOc (D : Def K mg "check_outcome" 20 ["rules", "thing"]) (c1 : Cal P w K mg base CX0 4 "is_outcome" ["rules", "thing"] (spIsOc CR)) : Cal P w K mg base CX0 5 "check_outcome" ["rules", "thing"] (spCkOc CR) := by
  obtain ⟨f, fd, G, gl, bi⟩ := D
  refine ⟨f, fd, G.ok scCkOc (fun vs H Q E h => ?_) (fun cdv A outer s H vs Q E hr h => ?_), gl, G.kp, bi⟩
  · obtain ⟨r, c, s, p, v, rfl, _⟩ := h
    rfl
  · obtain ⟨r, c, s, p, v, rfl, hR, hv, k⟩ := h
    refine ⟨_, pss_one (ps_if (pt_not (pt_val (pe_cal c1 hr pass0 (pa_cons (pv 0) (pa_cons (pv 1) pa_nil))))) (pss_one ps_never) pss_nil), ?_⟩
    exact ⟨_, rfl, _, rfl, r, c, s, p, v, rfl, hR, hv, fun H' e => ⟨true, rfl, iteF (k H' e)⟩⟩
theorem ok_oio (T : Tx K mg CR CT) (D : Def K mg "outcomes_in_order" 18 ["rules"]) (c1 : CalM P w K mg base CR 3 "bags" ["self"] (spBags CR)) : Cal P w K mg base CX0 4 "outcomes_in_order" ["rules"] (spOio CR) := by
  obtain ⟨f, fd, G, gl, bi⟩ := D
  obtain ⟨ts, gs⟩ := T.gstar
  refine ⟨f, fd, G.ok scOio (fun vs H Q E h => ?_) (fun cdv A outer s H vs Q E hr h => ?_), gl, G.kp, bi⟩
  · obtain ⟨r, c, s, p, rfl, _⟩ := h
    rfl
  · obtain ⟨r, c, s, p, rfl, hR, hc, k⟩ := h
    obtain ⟨dx, hr'⟩ := id hR
    refine ⟨_, pss_one (ps_ret (pe_op op_cat (pe_calM0 c1 T.clR hr (pv 0)) (pe_lst (pa_cons (pe_glob (v := .str "star") rfl gs ⟨_, rfl⟩) pa_nil)))), ?_⟩
    refine ⟨_, rfl, r, dx, _, rfl, hr', rf_bags _ _ _, r, c, s, p, rfl, hR, hc, fun H' l xs e hl hx hb => ?_⟩
    refine ⟨(by show 1 ≤ sizeLine; decide), fun m hm => ?_⟩
    have nlm : l ≠ m := ne_of_none hx hm
    refine ⟨l, m, xs, [.str "star"], rfl, rfl, by rw [upd_ne nlm]; exact hx, upd_same, ?_, fun q hq => ?_⟩
    · have := len_bags hc
      rw [Paired.length hb]
      show _ + 1 ≤ sizeLine
      exact Nat.le_trans (by omega : _ ≤ 10) (by decide)
    · have e2 : Same H' (L2.upd (L2.upd H' m (.lst [.str "star"])) q (.lst (xs ++ [.str "star"]))) := (Same.new hm).trans (Same.new hq)
      refine k _ q _ (e.trans e2) (e.free ((Same.new (H := H') hm).free hq)) upd_same ?_
      exact Paired.app ((BgL.oc hb).tk (Same.tk e2)) (Paired.one (show IsOc _ (.str "star") .star from rfl))
theorem ok_are (T : Tx K mg CR CT) (D : Def K mg "are_outcomes" 19 ["rules", "thing"]) (c1 : Cal P w K mg base CX0 4 "is_outcome" ["rules", "thing"] (spIsOc CR)) : Cal P w K mg base CX0 5 "are_outcomes" ["rules", "thing"] (spAre CR) := by
  obtain ⟨f, fd, G, gl, bi⟩ := D
  refine ⟨f, fd, G.ok scAre (fun vs H Q E h => ?_) (fun cdv A outer s H vs Q E hr h => ?_), gl, G.kp, bi⟩
  · obtain ⟨r, a, c, s, p, os, rfl, _⟩ := h
    rfl
  · obtain ⟨r, a, c, s, p, os, rfl, hR, ⟨xs, ha, ho⟩, hn, hsub, k⟩ := h
    refine ⟨_, pss_one (ps_ret (pe_and (pe_callB call_isiT (by rfl) T.fr.isinstance (by decide +kernel) (pa_cons (pv 1) (pa_cons (pe_tup (pa_cons (pe_bltn (v := .ty "list") (by rfl) T.fr.list bt_list rfl) (pa_cons (pe_bltn (v := .ty "tuple") (by rfl) T.fr.tuple bt_tuple rfl) pa_nil))) pa_nil)))
      (pe_one (pe_callB (cr_all rfl) (by rfl) T.fr.all bt_all (pa_cons (by exact (pe_lc (own := [("item", 2)]) (g := gName 2) (tt := tYes) rfl scAre.nd (pi_seq (pv 1))
        (blkOk_by (N := ["rules", "thing", "item"]) (sc := defScope sAre) (by decide +kernel)) (fun _ _ _ _ _ => pg_name (i := 2) scAre.nd rfl (Or.inl rfl)) (fun _ _ _ _ _ => pts_nil)
        (fun _ _ _ _ _ => pe_cal c1 hr pass0 (pa_cons (pv 0) (pa_cons (pv 2) pa_nil))))) pa_nil))))), ?_⟩
    refine ⟨_, rfl, (by show 2 ≤ sizeLine; decide), fun tp htp => ?_⟩
    have e0 : Same H (L2.upd H tp (.tup [.ty "list", .ty "tuple"])) := Same.new htp
    generalize hH1 : L2.upd H tp (.tup [.ty "list", .ty "tuple"]) = H1
    have ht1 : H1 tp = some (.tup [.ty "list", .ty "tuple"]) := by rw [← hH1]; exact upd_same
    rw [hH1] at e0
    have ha1 := ha.imp (e0 _ _) (e0 _ _)
    obtain ⟨t, ty, kt⟩ : ∃ t, TyX K H1 (.ref a) t ∧ PySem.W.kitAny K t [.type "list", .type "tuple"] = some true := by
      rcases ha1 with z | z
      · exact ⟨_, .base (.lst z), kitAny_cons (b := true) (kit_ty (by decide +kernel)) (fun q => nomatch q) (fun _ => rfl)⟩
      · exact ⟨_, .base (.tup z), kitAny_cons (b := false) (kit_ty (by decide +kernel)) (fun _ => kitAny_cons (b := true) (kit_ty (by decide +kernel)) (fun q => nomatch q) (fun _ => rfl)) (fun q => nomatch q)⟩
    refine ⟨_, tp, _, t, _, true, rfl, ht1, .cons (.ty _) (.cons (.ty _) .nil), ty, kt, true, rfl, iteT ?_⟩
    have key : ∀ (J : It) (G : Hp → Prop), Walk J xs.length G (YAt xs) → (∀ H', Same H1 H' → G H') → ∀ D, H1 D = none →
        LcEnd J (gName 2) tYes (tCall (spIsOc CR) [] E0 (tCons (tVar 0) (tCons (tVar 2) tNil))) [2] (L2.start ["rules", "thing", "item"] [.ref r, .ref a]) H1 D (fun H2 => rAll K [.ref D] H2 Q) := ?_
    · refine ⟨_, rfl, a, rfl, ?_⟩
      rcases ha1 with z | z
      · exact .inl ⟨⟨xs, SqL.of z⟩, fun D hD => key _ _ walk_list (fun H' e => SqL.of (e _ _ z)) D hD⟩
      · exact .inr ⟨⟨xs, SqT.of z⟩, fun D hD => key _ _ walk_tup (fun H' e => SqT.of (e _ _ z)) D hD⟩
    intro J G w hG D hD
    have hl : xs.length = os.length := Paired.length ho
    refine lc_build w (k := 2) (fun x => rfl) (by omega) (fun H' => Same H1 H') (fun _ y _ => y = .bl true) (Same.new hD) hG (fun H' acc acc' e h => Same.keepD hD e (acc := acc)) (fun _ _ _ _ _ h _ => h) ?_ ?_
    · rintro i x H2 H3 R hi e1 ⟨acc, hacc⟩ ⟨rfl, hx⟩ hR2
      obtain ⟨o, hio, hxo⟩ := Paired.at ((ho.tk (Same.tk e0)).tk (Same.tk e1)) hx
      refine ⟨_, rfl, _, rfl, r, c, s, p, x, rfl, (hR.same e0).same e1, ⟨o, hsub o (List.mem_of_getElem? hio), hxo⟩, fun H4 e4 => ?_⟩
      exact hR2 _ H4 (e1.trans e4) (e4 _ _ hacc |>.trans hacc.symm) rfl fun _ _ z => z
    · intro H2 acc e2 hacc hal hall
      have ea : acc = (List.replicate acc.length true).map V.bl := by
        apply List.ext_getElem?
        intro i
        rw [List.getElem?_map, List.getElem?_replicate]
        by_cases hi : i < acc.length
        · have z := hall i _ (List.getElem?_eq_getElem hi)
          rw [if_pos hi, List.getElem?_eq_getElem hi, z]
          rfl
        · rw [if_neg hi, List.getElem?_eq_none (by omega)]
          rfl
      refine ⟨D, List.replicate acc.length true, rfl, by rw [← ea]; exact SqL.of hacc, ?_⟩
      have et : (List.replicate acc.length true).all id = true := by simp
      rw [et]
      exact k H2 (e0.trans e2)
theorem ok_listed (T : Tx K mg CR CT) (D : Def K mg "listed" 21 ["rules", "had"]) (c1 : Cal P w K mg base CX0 4 "outcomes_in_order" ["rules"] (spOio CR)) : Cal P w K mg base CX0 5 "listed" ["rules", "had"] (spListed CR) := by
  obtain ⟨f, fd, G, gl, bi⟩ := D
  refine ⟨f, fd, G.ok scListed (fun vs H Q E h => ?_) (fun cdv A outer s H vs Q E hr h => ?_), gl, G.kp, bi⟩
  · obtain ⟨r, a, c, s, p, os, rfl, _⟩ := h
    rfl
  · obtain ⟨r, a, c, s, p, os, rfl, hR, hc, ⟨xs, ha, ho⟩, k⟩ := h
    refine ⟨_, pss_one (ps_ret (by exact (pe_lc (own := [("each", 2)]) (g := gName 2) (tt := tTest (tOp rInOc (tVar 2) (tVar 1))) rfl scListed.nd (pi_list (pe_cal c1 hr pass0 (pa_cons (pv 0) pa_nil)))
        (blkOk_by (N := ["rules", "had", "each"]) (sc := defScope sListed) (by decide +kernel)) (fun _ _ _ _ _ => pg_name (i := 2) scListed.nd rfl (Or.inl rfl))
        (fun _ _ _ _ _ => pts_one (pt_cmpR (op_inOc (u65 hr)) (pv 2) (pv 1) (by rfl)))
        (fun _ _ _ _ _ => pv 2)))), ?_⟩
    refine ⟨_, rfl, r, c, s, p, rfl, hR, hc, fun H1 l ys e1 hl hy hb => ?_⟩
    refine ⟨l, rfl, ⟨_, SqL.of hy⟩, fun D hD => ?_⟩
    refine lc_pick walk_list (k := 2) (q := fun o => decide (o ∈ os)) (fun x => rfl) (fun x => rfl) hD (Nat.le_trans (len_ocs hc) (by decide)) hb (fun H2 e2 => SqL.of (e2 _ _ hy)) ?_ ?_
    · intro x o H2 R hx hm e2 hR2
      have e3 := e1.trans e2
      exact ⟨x, rfl, .ref a, rfl, a, o, os, rfl, hx, RowAt.same ⟨xs, ha, ho⟩ e3, _, rfl, hR2⟩
    · intro H2 acc e2 hacc hoc
      exact k H2 D acc (e1.trans e2) (e1.free hD) hacc hoc
end
end Rt
set_option Elab.async false
set_option linter.all false
set_option maxRecDepth 100000
set_option maxHeartbeats 2000000
namespace Rt
open PySem PySem.Spec PyProof.Rows L2
/-! ### check_rows -/
abbrev sCkRows : Stmt := topS 22
/-- a dict with a row for each bag, in any order -/
def RowsAt (H : Hp) (d : Addr) (c : Nat) (L : Rw) : Prop := ∃ kvs, H d = some (.dT kvs) ∧ kvs.length = (bagsOf c).length ∧ (∀ kv ∈ kvs, ∃ b ∈ bagsOf c, kv.1 = keyOf b) ∧
  ∀ b ∈ bagsOf c, ∃ a, valV kvs (keyOf b) = some (.ref a) ∧ RowAt H a (L b)
theorem RowsAt.same {H H' : Hp} {d : Addr} {c : Nat} {L : Rw} (h : RowsAt H d c L) (e : Same H H') : RowsAt H' d c L := by
  obtain ⟨kvs, h1, h2, h3, h4⟩ := h
  refine ⟨kvs, e _ _ h1, h2, h3, fun b hb => ?_⟩
  obtain ⟨a, e1, e2⟩ := h4 b hb
  exact ⟨a, e1, e2.same e⟩
def GoodR (c : Nat) (L : Rw) : Prop := ∀ b ∈ bagsOf c, (L b).Nodup ∧ ∀ o ∈ L b, o ∈ ocs c
theorem GoodR.len {c : Nat} {L : Rw} (hc : CapOk c) (g : GoodR c L) {b : Bg} (hb : b ∈ bagsOf c) : (L b).length ≤ 10 := by
  obtain ⟨h1, h2⟩ := g b hb
  rw [← lst_length hc h1 h2]
  exact Nat.le_trans (List.length_filter_le _ _) (len_ocs hc)
/-- what is locked and unlocked again -/
theorem Same.unlock {H H2 : Hp} {d : Addr} {o : Obj} {u : HO} (hd : H d = some u) (e : Same (L2.upd H d (.frz o u)) H2) : Same H (L2.upd H2 d u) := fun b v h => by
  by_cases hb : b = d
  · rw [hb, upd_same]
    rw [hb, hd] at h
    exact h
  · rw [upd_ne hb]
    exact e b v (by rw [upd_ne hb]; exact h)
theorem RulesAt.lock {CR : Addr} {H : Hp} {r d : Addr} {c : Nat} {s p : Bool} {o : HO} {kvs : List (List Key × V)} (h : RulesAt CR H r c s p) (hd : H d = some (.dT kvs)) : RulesAt CR (L2.upd H d o) r c s p := by
  obtain ⟨dx, h⟩ := h
  exact ⟨dx, by rw [upd_ne (ne_of h hd (by intro z; cases z))]; exact h⟩
theorem Tk.lock {H : Hp} {d : Addr} {o : HO} {kvs : List (List Key × V)} (hd : H d = some (.dT kvs)) : Tk H (L2.upd H d o) := Tk.upd fun xs z => by rw [hd] at z; cases z
def spCkRows (CR : Addr) : Sp := fun vs H Q _ => ∃ (r d : Addr) (c : Nat) (s p : Bool) (L : Rw), vs = [.ref r, .ref d] ∧ RulesAt CR H r c s p ∧ CapOk c ∧ RowsAt H d c L ∧ GoodR c L ∧ ∀ H', Same H H' → Q .non H'
theorem scCkRows : FnScope ["rules", "rows", "bags", "bag", "row", "key"] ["rules", "rows"] (defScope sCkRows) := ⟨rfl, rfl, rfl, by decide +kernel, rfl, by decide +kernel, by decide +kernel⟩
theorem all_true {acc : List V} (h : ∀ (i : Nat) y, acc[i]? = some y → y = .bl true) : acc = (List.replicate acc.length true).map V.bl := by
  apply List.ext_getElem?
  intro i
  rw [List.getElem?_map, List.getElem?_replicate]
  by_cases hi : i < acc.length
  · have z := h i _ (List.getElem?_eq_getElem hi)
    rw [if_pos hi, List.getElem?_eq_getElem hi, z]
    rfl
  · rw [if_neg hi, List.getElem?_eq_none (by omega)]
    rfl
theorem LcEnd.imp {J : It} {g : TG} {tt : TT} {te : TE} {vs : List Nat} {σ : L2.St} {H1 : Hp} {D : Addr} {Qd Qe : Hp → Prop} (h : LcEnd J g tt te vs σ H1 D Qd) (i : ∀ H, Qd H → Qe H) : LcEnd J g tt te vs σ H1 D Qe := by
  obtain ⟨W, h0, hs⟩ := h
  exact ⟨W, h0, fun i' m H hw => (hs i' m H hw).imp (fun z => ⟨z.1, i H z.2⟩) id⟩
section
variable {P : Program} {w : World} {K : PySem.W.Frag} {mg : Str → Option Value} {base : Heap} {CR CT : Addr}
theorem ok_ckRows (T : Tx K mg CR CT) (D : Def K mg "check_rows" 22 ["rules", "rows"]) (c1 : CalM P w K mg base CR 3 "bags" ["self"] (spBags CR)) (c2 : Cal P w K mg base CX0 3 "is_bag" ["rules", "thing"] (spIsBag CR))
    (c3 : Cal P w K mg base CX0 5 "are_outcomes" ["rules", "thing"] (spAre CR)) (c4 : Cal P w K mg base CX0 5 "listed" ["rules", "had"] (spListed CR)) : Cal P w K mg base CX0 6 "check_rows" ["rules", "rows"] (spCkRows CR) := by
  obtain ⟨f, fd, G, gl, bi⟩ := D
  refine ⟨f, fd, G.ok scCkRows (fun vs H Q E h => ?_) (fun cdv A outer s H vs Q E hr h => ?_), gl, G.kp, bi⟩
  · obtain ⟨r, d, c, s, p, L, rfl, _⟩ := h
    rfl
  · obtain ⟨r, d, c, s, p, L, rfl, hR, hc, hrows, hgood, k⟩ := h
    have hr3 : Room 3 _ := hr.mono (by decide)
    refine ⟨_, (pss_cons (ps_set (i := 2) scCkRows.nd rfl (Or.inl rfl) (pe_calM0 c1 T.clR hr3 (pv 0))) (pss_cons (ps_if (PW.pt (pw_or (pt_not (pt_val (pe_isB T.fr (pv 1) (hy := T.fr.dict) (hv := bt_dict)))) (pw_or (pt_cmpR op_ne (pe_callB call_len_dT (by rfl) T.fr.len bt_len (pa_cons (pv 1) pa_nil)) (pe_callB call_len_seq (by rfl) T.fr.len bt_len (pa_cons (pv 2) pa_nil)) (nomark _)) (pw_or1 (pt_not (pt_val (pe_callB (cr_all rfl) (by rfl) T.fr.all bt_all (pa_cons (by exact (pe_lock (pe_lc (own := [("key", 5)]) (g := gName 5) (tt := tYes)  rfl scCkRows.nd (pi_keys (pv 1)) (blkOk_by (N := ["rules", "rows", "bags", "bag", "row", "key"]) (sc := defScope sCkRows) (by decide +kernel)) (fun _ _ _ _ _ => (pg_name (i := 5) scCkRows.nd rfl (Or.inl rfl))) (fun _ _ _ _ _ => pts_nil) (fun _ _ _ _ _ => (pe_cal c2 hr3 pass0 (pa_cons (pv 0) (pa_cons (pv 5) pa_nil))))))) pa_nil)))))))) (pss_one ps_never) pss_nil) (pss_one (ps_for PassesOwn.never rfl (pi_list (pv 2)) (pg_name (i := 3) scCkRows.nd rfl (Or.inl rfl)) (pss_cons (ps_set (i := 4) scCkRows.nd rfl (Or.inl rfl) (pe_dget (hu_of hr) (pv 1) (pv 3) (fun _ _ => rfl))) (pss_one (ps_if (PW.pt (pw_or (pt_not (pt_val (pe_cal c3 hr pass0 (pa_cons (pv 0) (pa_cons (pv 4) pa_nil))))) (pw_or1 (pt_cmpR op_ne (pe_callB call_len_seq (by rfl) T.fr.len bt_len (pa_cons (pe_cal c4 hr pass0 (pa_cons (pv 0) (pa_cons (pv 4) pa_nil))) pa_nil)) (pe_callB call_len_seq (by rfl) T.fr.len bt_len (pa_cons (pv 4) pa_nil)) (nomark _))))) (pss_one ps_never) pss_nil))))))), ?_⟩
    obtain ⟨dx, hr'⟩ := id hR
    refine ⟨_, rfl, r, dx, _, rfl, hr', rf_bags _ _ _, r, c, s, p, rfl, hR, hc, fun H1 lb xs e1 hlb hx hb => ?_⟩
    obtain ⟨kvs, hd, hlen, hkeys, hvals⟩ := hrows.same e1
    refine ⟨_, rfl, _, .ty "dict", _, _, true, rfl, .ty _, .base (.dT hd), kit_ty (by decide +kernel), true, rfl, iteF ?_⟩
    refine ⟨_, rfl, d, kvs, rfl, hd, _, rfl, lb, xs, rfl, .inl (SqL.of hx), rfl, _, rfl, ifF (by rw [hlen, ← Paired.length hb]; simp) ?_⟩
    -- all keys are bags
    refine ⟨d, _, hd, True.intro, fun od => ?_⟩
    have hRL : RulesAt CR (L2.upd H1 d (.frz od (.dT kvs))) r c s p := (hR.same e1).lock hd
    refine ⟨_, rfl, d, od, rfl, .inr ⟨kvs, upd_same, fun D hD => ?_⟩⟩
    have key : LcEnd (Itkt d od kvs) (gName 5) tYes (tCall (spIsBag CR) [] E0 (tCons (tVar 0) (tCons (tVar 5) tNil))) [5] (L2.start ["rules", "rows", "bags", "bag", "row", "key"] [.ref r, .ref d] |>.set 2 (some (.ref lb)))
        (L2.upd H1 d (.frz od (.dT kvs))) D (fun H2 => Same (L2.upd H1 d (.frz od (.dT kvs))) H2 ∧ ∃ acc, H2 D = some (.lst acc) ∧ ∀ (i : Nat) y, acc[i]? = some y → y = .bl true) := by
      refine lc_build walk_keysT (k := 5) (fun x => rfl) (by rw [hlen]; exact Nat.le_trans (len_bags hc) (by decide)) (fun H' => Same (L2.upd H1 d (.frz od (.dT kvs))) H') (fun _ y _ => y = .bl true) (Same.new hD)
        (fun H' e => e _ _ upd_same) (fun H' acc acc' e h => Same.keepD hD e (acc := acc)) (fun _ _ _ _ _ h _ => h) ?_ (fun H2 acc e2 hacc _ hall => ⟨e2, acc, hacc, hall⟩)
      rintro i x H2 H3 R hi e2 ⟨acc, hacc⟩ ⟨rfl, kk, vv, q, hkv, rfl, hq⟩ hR2
      obtain ⟨b, hbm, hkb⟩ := hkeys _ (List.mem_of_getElem? hkv)
      have hkb' : kk = keyOf b := hkb
      subst hkb'
      refine ⟨_, rfl, _, rfl, r, c, s, p, _, rfl, hRL.same e2, .inl ⟨b, hbm, ⟨q, rfl, hq⟩, fun H4 e4 => ?_⟩⟩
      exact hR2 _ H4 (e2.trans e4) ((e4 _ _ hacc).trans hacc.symm) rfl fun _ _ z => z
    refine LcEnd.imp key ?_
    rintro H2 ⟨e2, acc, hacc, hall⟩
    have hD2 : D ≠ d := fun z => by rw [z, upd_same] at hD; cases hD
    refine ⟨e2 _ _ upd_same, ?_⟩
    have e3 : Same H1 (L2.upd H2 d (.dT kvs)) := Same.unlock hd e2
    refine ⟨D, List.replicate acc.length true, rfl, by rw [← all_true hall]; exact SqL.of (by rw [upd_ne hD2]; exact hacc), true, ?_, iteF ?_⟩
    · simp
    generalize hH3 : L2.upd H2 d (.dT kvs) = H3
    rw [hH3] at e3
    have e03 : Same H H3 := e1.trans e3
    have hx3 := e3 _ _ hx
    have hb3 := hb.tk (Same.tk e3)
    -- each bag's row
    refine ⟨_, rfl, lb, rfl, ⟨_, SqL.of hx3⟩, for_list (K := K) (a := lb) (xs := xs) (fun i σ H' => (∃ v1 v2 : Option V, σ = [some (.ref r), some (.ref d), some (.ref lb), v1, v2, none]) ∧ Same H3 H')
      ⟨⟨none, none, rfl⟩, Same.refl _⟩ (fun i σ H' _ e => SqL.of (e.2 _ _ hx3)) ?_ ?_⟩
    · rintro i y σ H4 hi ⟨⟨v1, v2, rfl⟩, e4⟩
      obtain ⟨b, hbi, hyb⟩ := Paired.at (hb3.tk (Same.tk e4)) hi
      have hbm : b ∈ bagsOf c := List.mem_of_getElem? hbi
      obtain ⟨q, rfl, hq⟩ := hyb
      obtain ⟨a, hva, hrow⟩ := hvals b hbm
      have e14 : Same H1 H4 := e3.trans e4
      refine ⟨_, rfl, _, rfl, d, .ref a, rfl, by rw [← hva]; exact DGet.t (k := keyOf b) (e14 _ _ hd) hq, ?_⟩
      obtain ⟨nd, sub⟩ := hgood b hbm
      have hrow4 := hrow.same e14
      refine ⟨_, rfl, _, rfl, r, a, c, s, p, L b, rfl, (hR.same e03).same e4, hrow4, Nat.le_trans (hgood.len hc hbm) (by decide), sub, fun H5 e5 => ?_⟩
      refine ⟨true, rfl, iteF ?_⟩
      refine ⟨_, rfl, _, rfl, r, a, c, s, p, L b, rfl, ((hR.same e03).same e4).same e5, hc, hrow4.same e5, fun H6 l ys e6 _ hl hys => ?_⟩
      obtain ⟨zs, hzs, hoz⟩ := (hrow4.same e5).same e6
      refine ⟨l, ys, rfl, .inl (SqL.of hl), _, rfl, a, zs, rfl, hzs.imp SqL.of SqT.of, rfl, _, rfl, ifF ?_ ?_⟩
      · rw [Paired.length hys, Paired.length hoz, lst_length hc nd sub]
        simp
      · exact ⟨⟨_, _, rfl⟩, (e4.trans e5).trans e6⟩
    · rintro σ H4 ⟨⟨v1, v2, rfl⟩, e4⟩
      exact k H4 (e03.trans e4)
end
end Rt
set_option Elab.async false
set_option linter.all false
set_option maxRecDepth 100000
set_option maxHeartbeats 2000000
namespace Rt
open PySem PySem.Spec PyProof.Rows L2
/-! ### the errors: made with one value, kept in the field "value" -/
/-- the i-th statement's class: its __init__ -/
abbrev sExI (i : Nat) : Stmt := inClass (topS i) 0
def spExI (C : Addr) : Sp := fun vs H Q _ => ∃ (a : Addr) (v : V), vs = [.ref a, v] ∧ H a = some (exo a C none) ∧ ∀ dx, H dx = none → dx ≠ a → Q .non (upd (upd H dx (exd dx [("value", v)])) a (exo a C (some dx)))
/-- such an error's class, as the top has written it -/
structure ExD (K : PySem.W.Frag) (mg : Str → Option Value) (x : Str) (i : Nat) (C CM : Addr) : Prop where
  oex : OexC K C
  xf : XfC K C
  exf : ExcF K C
  no : PySem.W.findIn K (.ref C) "value" = some none
  gl : mg x = some (.ref C)
  te : PySem.W.exmOne K (.ref C) (.ref C) = some true
  km : PySem.W.kitOne K (.ref C) (.ref CM) = some true
  ini : ∃ (f : Addr) (fd : FuncData) (qual : Str), Fun K "__init__" qual (sExI i) f fd ∧ PySem.W.findIn K (.ref C) "__init__" = some (some (.ref f)) ∧ PySem.W.typeIn K (.ref f) = some (.type "function") ∧ L2.Binds K fd ["self", "value"] []
theorem scEx2 : FnScope ["self", "value"] ["self", "value"] (defScope (sExI 2)) := ⟨rfl, rfl, rfl, by decide +kernel, rfl, by decide +kernel, by decide +kernel⟩
theorem scEx5 : FnScope ["self", "value"] ["self", "value"] (defScope (sExI 5)) := ⟨rfl, rfl, rfl, by decide +kernel, rfl, by decide +kernel, by decide +kernel⟩
/-- raise X(e) -/
def tRaiseV (C : Addr) (W : WX) (te : TE) : TS := fun _ σ H => te σ H fun v H1 => ∀ d, H1 d = none → W (.ref C) (some d) σ (upd H1 d (.xd [("value", v)]))
section
variable {P : Program} {w : World} {K : PySem.W.Frag} {mg : Str → Option Value} {base : Heap} {C CM : Addr}
theorem ok_exi2 {f : Addr} {fd : FuncData} {qual : Str} (G : Fun K "__init__" qual (sExI 2) f fd) (T : OexC K C) (no : PySem.W.findIn K (.ref C) "value" = some none) : FnOk P w K mg base CX0 1 f fd ["self", "value"] (spExI C) := by
  refine G.ok scEx2 (fun vs H Q E h => ?_) (fun cdv A outer s H vs Q E hr h => ?_)
  · obtain ⟨a, v, rfl, _⟩ := h
    rfl
  · obtain ⟨a, v, rfl, ha, k⟩ := h
    refine ⟨_, pss_one (ps_ost (pv 0) (pv 1)), ?_⟩
    exact ⟨_, rfl, _, rfl, a, C, rfl, T, no, .inl ⟨ha, fun dx h1 h2 => k dx h1 h2⟩⟩
theorem ok_exi5 {f : Addr} {fd : FuncData} {qual : Str} (G : Fun K "__init__" qual (sExI 5) f fd) (T : OexC K C) (no : PySem.W.findIn K (.ref C) "value" = some none) : FnOk P w K mg base CX0 1 f fd ["self", "value"] (spExI C) := by
  refine G.ok scEx5 (fun vs H Q E h => ?_) (fun cdv A outer s H vs Q E hr h => ?_)
  · obtain ⟨a, v, rfl, _⟩ := h
    rfl
  · obtain ⟨a, v, rfl, ha, k⟩ := h
    refine ⟨_, pss_one (ps_ost (pv 0) (pv 1)), ?_⟩
    exact ⟨_, rfl, _, rfl, a, C, rfl, T, no, .inl ⟨ha, fun dx h1 h2 => k dx h1 h2⟩⟩
end
/-- an error class that can be raised -/
structure Exn (P : Program) (w : World) (K : PySem.W.Frag) (mg : Str → Option Value) (base : Heap) (x : Str) (C CM : Addr) : Prop where
  oex : OexC K C
  xf : XfC K C
  exf : ExcF K C
  no : PySem.W.findIn K (.ref C) "value" = some none
  gl : mg x = some (.ref C)
  te : PySem.W.exmOne K (.ref C) (.ref C) = some true
  km : PySem.W.kitOne K (.ref C) (.ref CM) = some true
  ini : ∃ (f : Addr) (fd : FuncData), FnOk P w K mg base CX0 1 f fd ["self", "value"] (spExI C) ∧ PySem.W.findIn K (.ref C) "__init__" = some (some (.ref f)) ∧ PySem.W.typeIn K (.ref f) = some (.type "function") ∧ L2.Binds K fd ["self", "value"] []
section
variable {P : Program} {w : World} {K : PySem.W.Frag} {mg : Str → Option Value} {base : Heap} {C CM : Addr} {x : Str}
theorem exn2 (D : ExD K mg x 2 C CM) : Exn P w K mg base x C CM := by
  obtain ⟨h1, h2, h3, h4, h5, h6, h7, f, fd, qual, G, a, b, c⟩ := D
  exact ⟨h1, h2, h3, h4, h5, h6, h7, f, fd, ok_exi2 G h1 h4, a, b, c⟩
theorem exn5 (D : ExD K mg x 5 C CM) : Exn P w K mg base x C CM := by
  obtain ⟨h1, h2, h3, h4, h5, h6, h7, f, fd, qual, G, a, b, c⟩ := D
  exact ⟨h1, h2, h3, h4, h5, h6, h7, f, fd, ok_exi5 G h1 h4, a, b, c⟩
end
theorem pmk_imp {X : Cx} {e : Expr} {t u : L2.St → Hp → XK → Prop} (h : PMk X e t) (i : ∀ σ H Q, u σ H Q → t σ H Q) : PMk X e u := fun pins s σ H Q I hu => h pins s σ H Q I (i σ H Q hu)
theorem ps_raiseV {X : Cx} {x : Str} {C CM : Addr} {i : Nat} {W : WX} {p p2 pos pos2 : Pos} {y : Str} (N : Exn X.prog X.w X.K X.mg X.base x C CM) (hc : X.calm = true) (hr : Room 2 X.A) (tk : Takes X W)
    (hN : X.N[i]? = some y) (hv : Vis X.env.scope y) (hy1 : (y == ("__debug__" : Str)) = false := by decide) (hy2 : (y == ("__classdict__" : Str)) = false := by decide) (hg : Gl X x := by rfl)
    (hdb : (x == ("__debug__" : Str)) = false := by decide) (he : starEach (.Name y p2 :: []) X.env = (false, eval (.Name y p2) X.env) :: starEach [] X.env := by rfl) (hpl : (backTo pos (starEach [] X.env)).any (·.1) = false := by rfl) :
    PS X (.Raise (some (.Call (.Name x p) [.Name y p2] [] pos)) none pos2) (tRaiseV C W (tVar i)) := by
  obtain ⟨f, fd, G, a, b, c⟩ := N.ini
  refine ps_raise hc tk (pmk_imp (pmk_oex N.oex a b G hr c .nil pass0 hg N.gl (pa_cons (pe_var hN hv hy1 hy2) pa_nil he) hdb he hpl) (u := fun σ H Q => tVar i σ H fun v H1 => ∀ d, H1 d = none → Q (.ref C) (some d) (upd H1 d (.xd [("value", v)]))) ?_)
  intro σ H Q h
  obtain ⟨v, hv, k⟩ := h
  refine ⟨v, hv, (by show 1 ≤ 1000; decide), fun e0 he0 => ?_⟩
  refine ⟨e0, v, rfl, upd_same, fun dx h1 h2 => ⟨rfl, dx, [("value", v)], upd_same, by rw [upd_ne h2, upd_same], ?_, ?_⟩⟩
  · rw [upd_ne h2] at h1
    exact h1
  · rw [upd_ne h2] at h1
    have e : L2.upd (del (L2.upd (L2.upd (L2.upd H e0 (exo e0 C none)) dx (exd dx [("value", v)])) e0 (exo e0 C (some dx))) e0) dx (.xd [("value", v)]) = L2.upd H dx (.xd [("value", v)]) := by
      funext b
      by_cases hb : b = dx
      · rw [hb, upd_same, upd_same]
      · rw [upd_ne hb, upd_ne hb]
        by_cases hb2 : b = e0
        · rw [hb2, del_same, he0]
        · rw [del_ne hb2, upd_ne hb2, upd_ne hb, upd_ne hb2]
    rw [e]
    exact k dx h1
/-! ### check_rules -/
abbrev sCkRules : Stmt := topS 13
/-- a thing that is no book of rules -/
def NoRules (K : PySem.W.Frag) (CR : Addr) (H : Hp) (v : V) : Prop := ∃ t, TyX K H v t ∧ PySem.W.kitOne K t (.ref CR) = some false
def spCkRules (K : PySem.W.Frag) (CR CB : Addr) : Sp := fun vs H Q E => ∃ v : V, vs = [v] ∧ ((∃ r c s p, v = .ref r ∧ RulesAt CR H r c s p ∧ Q .non H) ∨ (NoRules K CR H v ∧ ∀ d, H d = none → E (.ref CB) (some d) (upd H d (.xd [("value", v)]))))
theorem scCkRules : FnScope ["thing"] ["thing"] (defScope sCkRules) := ⟨rfl, rfl, rfl, by decide +kernel, rfl, by decide +kernel, by decide +kernel⟩
section
variable {P : Program} {w : World} {K : PySem.W.Frag} {mg : Str → Option Value} {base : Heap} {CR CT CB CM : Addr}
theorem ok_ckRules (T : Tx K mg CR CT) (D : Def K mg "check_rules" 13 ["thing"]) (N : Exn P w K mg base "BadRules" CB CM) : Cal P w K mg base (L2.CX P w) 3 "check_rules" ["thing"] (spCkRules K CR CB) := by
  obtain ⟨f, fd, G, gl, bi⟩ := D
  refine ⟨f, fd, G.okX scCkRules (fun vs H Q E h => ?_) (fun cdv A outer s H vs Q E hr h => ?_), gl, G.kp, bi⟩
  · obtain ⟨v, rfl, _⟩ := h
    rfl
  · obtain ⟨v, rfl, k⟩ := h
    refine ⟨_, pss_one (ps_if (pt_not (pt_val (pe_isC T.fr (pv 0) T.gR))) (pss_one (ps_raiseV (i := 0) N rfl hr (takes_of rfl rfl rfl rfl) rfl (Or.inl rfl))) pss_nil), ?_⟩
    rcases k with ⟨r, c, s, p, rfl, ⟨dx, hr'⟩, q⟩ | ⟨⟨t, ty, kt⟩, q⟩
    · exact ⟨_, rfl, _, .ref CR, _, _, true, rfl, .own _, T.tyR hr', T.kRR, true, rfl, iteF q⟩
    · exact ⟨_, rfl, _, .ref CR, _, _, false, rfl, .own _, ty, kt, false, rfl, iteT ⟨_, rfl, fun d hd => q d hd⟩⟩
end
end Rt
set_option Elab.async false
set_option linter.all false
set_option maxRecDepth 100000
set_option maxHeartbeats 2000000
namespace Rt
open PySem PySem.Spec PyProof.Rows L2
/-! ### dict([(bag, e) for bag in bags]) -/
theorem SameX.keep {D : Addr} {H H' : Hp} (e : SameX D H H') {b : Addr} {o o' : HO} {acc : List V} (hD : H D = some (.lst acc)) (h : H b = some o) (ho : ∀ xs, o ≠ .lst xs) : H' b = some o :=
  e b o (fun z => by rw [z, hD] at h; exact ho acc (Option.some.inj h).symm) h
theorem valV_at : ∀ {kvs : List (List Key × V)} {bs : List Bg}, kvs.map (·.1) = bs.map keyOf → bs.Nodup → ∀ {j : Nat} {b : Bg} {kv : List Key × V}, bs[j]? = some b → kvs[j]? = some kv → valV kvs (keyOf b) = some kv.2
  | [], bs, _, _, j, b, kv, _, h => by simp at h
  | p :: kvs, [], h, _, j, b, kv, h1, _ => by simp at h1
  | p :: kvs, c :: bs, h, nd, j, b, kv, h1, h2 => by
    rw [List.map_cons, List.map_cons] at h
    injection h with e1 e2
    obtain ⟨n1, n2⟩ := List.nodup_cons.mp nd
    cases j with
    | zero =>
      have a1 : c = b := Option.some.inj h1
      have a2 : p = kv := Option.some.inj h2
      subst a1
      subst a2
      exact valV_pos e1
    | succ j =>
      have a1 : bs[j]? = some b := by simpa using h1
      have a2 : kvs[j]? = some kv := by simpa using h2
      have ne : ¬ p.1 = keyOf b := fun z => n1 (by rw [keyOf_inj (e1.symm.trans z)]; exact List.mem_of_getElem? a1)
      rw [valV_neg ne]
      exact valV_at e2 n2 a1 a2
/-- a dict that has for each of the bags, in their order, a value -/
def RowsK (H : Hp) (d : Addr) (bs : List Bg) (Val : Bg → V → Hp → Prop) : Prop := ∃ kvs, H d = some (.dT kvs) ∧ kvs.map (·.1) = bs.map keyOf ∧ ∀ b ∈ bs, ∃ v, valV kvs (keyOf b) = some v ∧ Val b v H
theorem lc_pairsG {J : It} {k : Nat} {G : Hp → Prop} {Y : Nat → Hp → V → Hp → Prop} {bs : List Bg} (w : Walk J bs.length G Y) {te : TE} {vs : List Nat} {σ : L2.St} {H1 : Hp} {D : Addr} {Qd : Hp → Prop}
    (hw : ∀ x, wipe ((wipe σ vs).set k (some x)) vs = wipe σ vs) (hD : H1 D = none) (hY : ∀ i H x H', i < bs.length → Same H1 H → Y i H x H' → H' = H ∧ ∃ b, bs[i]? = some b ∧ IsBag H x b) (hn : bs.length ≤ 1000) (hG : ∀ H, Same H1 H → G H) (Val : Bg → V → Hp → Prop)
    (hs : ∀ (i : Nat) x b H (R : VK), bs[i]? = some b → IsBag H x b → Same H1 H → (∃ acc, H D = some (.lst acc)) → (∀ H4 p v, Same H H4 → H4 p = some (.tup [x, v]) → (∀ H', SameX D H4 H' → Val b v H') → R (.ref p) H4) → te ((wipe σ vs).set k (some x)) H R)
    (hd : ∀ H ps kvs, Same H1 H → H D = some (.lst (ps.map V.ref)) → Paired (PairT H) ps kvs → kvs.map (·.1) = bs.map keyOf → (∀ (j : Nat) b, bs[j]? = some b → ∃ kv, kvs[j]? = some kv ∧ ∀ H', SameX D H H' → Val b kv.2 H') → Qd H) :
    LcEnd J (gName k) tYes te vs σ H1 D Qd := by
  refine lc_build w hw (by omega) (fun H => Same H1 H) (fun i y H => ∃ b, bs[i]? = some b ∧ ∃ p q v, y = .ref p ∧ p ≠ D ∧ q ≠ D ∧ H p = some (.tup [.ref q, v]) ∧ H q = some (.tup (b |> keyOf |>.map kV)) ∧ ∀ H', SameX D H H' → Val b v H')
    (Same.new hD) hG (fun H' acc acc' e h => Same.keepD hD e (acc := acc)) ?_ ?_ ?_
  · rintro i y H acc acc' ⟨b, hbi, p, q, v, rfl, np, nq, hp, hq, hv⟩ hacc
    refine ⟨b, hbi, p, q, v, rfl, np, nq, by rw [upd_ne np]; exact hp, by rw [upd_ne nq]; exact hq, fun H' e => hv H' (SameX.trans SameX.upd e)⟩
  · rintro i x H H' R hi e1 ⟨acc, hacc⟩ hy hR
    obtain ⟨rfl, b, hbi, hxb⟩ := hY i H x H' hi e1 hy
    refine hs i x b H' _ hbi hxb e1 ⟨acc, hacc⟩ ?_
    intro H4 p v e4 hp hv
    obtain ⟨q, rfl, hq⟩ := hxb
    have hD4 : H4 D = some (.lst acc) := e4 _ _ hacc
    refine hR _ H4 (e1.trans e4) (hD4.trans hacc.symm) ⟨b, hbi, p, q, v, rfl, ne_of hp hD4 (by intro z; cases z), ne_of (e4 _ _ hq) hD4 (by intro z; cases z), hp, e4 _ _ hq, hv⟩ ?_
    rintro j z ⟨b2, hb2, p2, q2, v2, rfl, np2, nq2, hp2, hq2, hv2⟩
    exact ⟨b2, hb2, p2, q2, v2, rfl, np2, nq2, e4 _ _ hp2, e4 _ _ hq2, fun H'' e => hv2 H'' (SameX.trans (Same.x e4) e)⟩
  · intro H acc e2 hacc hal hf
    have key : ∀ (n : Nat), n ≤ bs.length → ∃ (ps : List Addr) (kvs : List (List Key × V)), acc.take n = ps.map V.ref ∧ Paired (PairT H) ps kvs ∧ kvs.map (·.1) = (bs.take n).map keyOf ∧
        ∀ (j : Nat) b, (bs.take n)[j]? = some b → ∃ kv, kvs[j]? = some kv ∧ ∀ H', SameX D H H' → Val b kv.2 H' := by
      intro n
      induction n with
      | zero => intro _; exact ⟨[], [], rfl, .nil, rfl, fun j b h => by simp at h⟩
      | succ n ih =>
        intro hn'
        obtain ⟨ps, kvs, h1, h2, h3, h4⟩ := ih (by omega)
        have hna : n < acc.length := by omega
        obtain ⟨b, hbn, p, q, v, ey, np, nq, hp, hq, hv⟩ := hf n _ (List.getElem?_eq_getElem hna)
        have hkl : kvs.length = n := by
          have z := congrArg List.length h3
          rw [List.length_map, List.length_map, List.length_take] at z
          omega
        refine ⟨ps ++ [p], kvs ++ [(keyOf b, v)], ?_, Paired.app h2 (Paired.one ⟨q, hp, hq⟩), ?_, ?_⟩
        · rw [take_more (List.getElem?_eq_getElem hna), h1, ey, List.map_append]
          rfl
        · rw [List.map_append, h3, take_more hbn, List.map_append]
          rfl
        · intro j b' hj
          rw [take_more hbn] at hj
          have hbl : (bs.take n).length = n := by rw [List.length_take]; omega
          by_cases hjn : j < n
          · rw [List.getElem?_append_left (by omega)] at hj
            obtain ⟨kv, z1, z2⟩ := h4 j b' hj
            exact ⟨kv, by rw [List.getElem?_append_left (by omega)]; exact z1, z2⟩
          · rw [List.getElem?_append_right (by omega), hbl] at hj
            have ej : j - n = 0 := by
              cases q : j - n with
              | zero => rfl
              | succ m => rw [q] at hj; simp at hj
            rw [ej] at hj
            have eb : b = b' := Option.some.inj hj
            subst eb
            exact ⟨(keyOf b, v), by rw [List.getElem?_append_right (by omega), hkl, ej]; rfl, hv⟩
    obtain ⟨ps, kvs, h1, h2, h3, h4⟩ := key bs.length (Nat.le_refl _)
    rw [List.take_length] at h3 h4
    rw [List.take_of_length_le (by omega)] at h1
    exact hd H ps kvs e2 (by rw [hacc, h1]) h2 h3 h4
theorem lc_pairs {J : It} {k : Nat} {G : Hp → Prop} {xs : List V} {bs : List Bg} (w : Walk J xs.length G (YAt xs)) {te : TE} {vs : List Nat} {σ : L2.St} {H1 : Hp} {D : Addr} {Qd : Hp → Prop}
    (hw : ∀ x, wipe ((wipe σ vs).set k (some x)) vs = wipe σ vs) (hD : H1 D = none) (hb : BgL H1 xs bs) (hn : bs.length ≤ 1000) (hG : ∀ H, Same H1 H → G H) (Val : Bg → V → Hp → Prop)
    (hs : ∀ (i : Nat) x b H (R : VK), bs[i]? = some b → IsBag H x b → Same H1 H → (∃ acc, H D = some (.lst acc)) → (∀ H4 p v, Same H H4 → H4 p = some (.tup [x, v]) → (∀ H', SameX D H4 H' → Val b v H') → R (.ref p) H4) → te ((wipe σ vs).set k (some x)) H R)
    (hd : ∀ H ps kvs, Same H1 H → H D = some (.lst (ps.map V.ref)) → Paired (PairT H) ps kvs → kvs.map (·.1) = bs.map keyOf → (∀ (j : Nat) b, bs[j]? = some b → ∃ kv, kvs[j]? = some kv ∧ ∀ H', SameX D H H' → Val b kv.2 H') → Qd H) :
    LcEnd J (gName k) tYes te vs σ H1 D Qd := by
  have hl : xs.length = bs.length := Paired.length hb
  rw [hl] at w
  exact lc_pairsG w hw hD (fun i H x H' hi e1 hy => ⟨hy.1, Paired.at (hb.tk (Same.tk e1)) (by rw [hy.1] at *; exact hy.2)⟩) hn hG Val hs hd
def rDictT (K : PySem.W.Frag) : List V → Hp → VK → Prop := fun xs H Q => ∃ (a : Addr) (ps : List Addr) (kvs : List (List Key × V)), xs = [.ref a] ∧ SqL K H a (ps.map V.ref) ∧ Paired (PairT H) ps kvs ∧ (kvs.map (·.1)).Nodup ∧
  ∀ p, H p = none → Q (.ref p) (upd H p (.dT kvs))
theorem call_dctT {X : Cx} {k : Nat} (hc : X.calm = true) (hr : Room k X.A) : CallR X (.type "dict") (rDictT X.K) := call_dictT hc (u3 hr)
/-- what dict() makes of it -/
theorem rowsK_new {K : PySem.W.Frag} {H1 H : Hp} {bs : List Bg} {D : Addr} {ps : List Addr} {kvs : List (List Key × V)} {Val : Bg → V → Hp → Prop} {Q : VK} (nd : bs.Nodup) (hD1 : H1 D = none) (e : Same H1 H) (hD : H D = some (.lst (ps.map V.ref))) (hp : Paired (PairT H) ps kvs)
    (hk : kvs.map (·.1) = bs.map keyOf) (hv : ∀ (j : Nat) b, bs[j]? = some b → ∃ kv, kvs[j]? = some kv ∧ ∀ H', SameX D H H' → Val b kv.2 H')
    (k : ∀ d H', Same H1 H' → H1 d = none → RowsK H' d bs Val → Q (.ref d) H') :
    rDictT K [V.ref D] H Q := by
  refine ⟨D, ps, kvs, rfl, SqL.of hD, hp, ?_, fun d hd => ?_⟩
  · rw [hk]
    refine List.Pairwise.map keyOf (fun a b h z => h (keyOf_inj z)) nd
  · refine k d _ (e.trans (Same.new hd)) (e.free hd) ⟨kvs, upd_same, hk, fun b hb => ?_⟩
    obtain ⟨j, hj, ej⟩ := List.getElem_of_mem hb
    have hj' : bs[j]? = some b := by rw [← ej]; exact List.getElem?_eq_getElem hj
    obtain ⟨kv, h1, h2⟩ := hv j b hj'
    exact ⟨kv.2, valV_at hk nd hj' h1, h2 _ (Same.x (Same.new hd))⟩
theorem RowsK.imp {H H' : Hp} {d : Addr} {bs : List Bg} {Val Val' : Bg → V → Hp → Prop} (h : RowsK H d bs Val) (e : H' d = H d) (i : ∀ b ∈ bs, ∀ v, Val b v H → Val' b v H') : RowsK H' d bs Val' := by
  obtain ⟨kvs, h1, h2, h3⟩ := h
  refine ⟨kvs, by rw [e]; exact h1, h2, fun b hb => ?_⟩
  obtain ⟨v, z1, z2⟩ := h3 b hb
  exact ⟨v, z1, i b hb v z2⟩
/-- rows as lists or tuples; rows as a table keeps them -/
def ValR (L : Rw) : Bg → V → Hp → Prop := fun b v H => ∃ a, v = .ref a ∧ RowAt H a (L b)
def ValT (R : Rw) : Bg → V → Hp → Prop := fun b v H => ∃ a xs, v = .ref a ∧ H a = some (.tup xs) ∧ OcL H xs (R b)
theorem ValT.tk {R : Rw} {b : Bg} {v : V} {H H' : Hp} (h : ValT R b v H) (e : Tk H H') : ValT R b v H' := by
  obtain ⟨a, xs, rfl, h1, h2⟩ := h
  exact ⟨a, xs, rfl, e _ _ h1, h2.tk e⟩
theorem ValR.same {R : Rw} {b : Bg} {v : V} {H H' : Hp} (h : ValR R b v H) (e : Same H H') : ValR R b v H' := by
  obtain ⟨a, rfl, h1⟩ := h
  exact ⟨a, rfl, h1.same e⟩
theorem RowsK.rows {H : Hp} {d : Addr} {c : Nat} {L : Rw} (h : RowsK H d (bagsOf c) (ValR L)) : RowsAt H d c L := by
  obtain ⟨kvs, h1, h2, h3⟩ := h
  refine ⟨kvs, h1, ?_, fun kv hkv => ?_, fun b hb => ?_⟩
  · have z := congrArg List.length h2
    rw [List.length_map, List.length_map] at z
    exact z
  · have z : kv.1 ∈ kvs.map (·.1) := List.mem_map_of_mem hkv
    rw [h2] at z
    obtain ⟨b, hb, e⟩ := List.mem_map.mp z
    exact ⟨b, hb, e.symm⟩
  · obtain ⟨v, z1, a, rfl, z2⟩ := h3 b hb
    exact ⟨a, z1, z2⟩
/-- a row list made behind D: it is not D -/
theorem rowX {H4 : Hp} {D l : Addr} {xs : List V} {os : List Oc} {acc : List V} (hD : H4 D = some (.lst acc)) (hl : H4 l = some (.lst xs)) (ne : l ≠ D) (ho : OcL H4 xs os) : ∀ H', SameX D H4 H' → RowAt H' l os := by
  intro H' e
  refine ⟨xs, .inl (e _ _ ne hl), ho.tk fun b ys hb => e _ _ (ne_of hb hD (by intro z; cases z)) hb⟩
theorem SameX.tk {D : Addr} {H H' : Hp} {acc : List V} (hD : H D = some (.lst acc)) (e : SameX D H H') : Tk H H' := fun b ys hb => e _ _ (ne_of hb hD (by intro z; cases z)) hb
end Rt
set_option Elab.async false
set_option linter.all false
set_option maxRecDepth 100000
set_option maxHeartbeats 2000000
namespace Rt
open PySem PySem.Spec PyProof.Rows L2
/-! ### Table -/
def tf (r d : Addr) : List (Str × V) := [("own_rules", .ref r), ("kept", .ref d)]
theorem tf_put (r d : Addr) : putF "kept" (.ref d) (putF "own_rules" (.ref r) []) = tf r d := by
  have e1 : ¬ (("own_rules" : Str) = "kept") := by decide +kernel
  show (if ("own_rules" : Str) = "kept" then _ else (("own_rules" : Str), V.ref r) :: [(("kept" : Str), V.ref d)]) = _
  rw [if_neg e1]
  rfl
theorem tf_rules (r d : Addr) : (tf r d).lookup ("own_rules" : Str) = some (.ref r) := by simp [tf, List.lookup]
theorem tf_kept (r d : Addr) : (tf r d).lookup ("kept" : Str) = some (.ref d) := by
  have e1 : (("kept" : Str) == "own_rules") = false := by decide +kernel
  simp [tf, List.lookup, e1]
theorem tf_no {r d : Addr} {m : Str} (h1 : (m == ("own_rules" : Str)) = false) (h2 : (m == ("kept" : Str)) = false) : (tf r d).lookup m = none := by
  simp [tf, List.lookup, h1, h2]
theorem tf_outs (r d : Addr) : (tf r d).lookup ("outcomes" : Str) = none := tf_no (by decide +kernel) (by decide +kernel)
theorem tf_lets (r d : Addr) : (tf r d).lookup ("lets" : Str) = none := tf_no (by decide +kernel) (by decide +kernel)
theorem tf_within (r d : Addr) : (tf r d).lookup ("within" : Str) = none := tf_no (by decide +kernel) (by decide +kernel)
/-- a table stands at x: its book of rules r, its rows R -/
def TableAt (CR CT : Addr) (H : Hp) (x r : Addr) (c : Nat) (s p : Bool) (R : Rw) : Prop := ∃ dx d, H x = some (.ins CT dx (tf r d)) ∧ RowsK H d (bagsOf c) (ValT R) ∧ RulesAt CR H r c s p ∧ CapOk c ∧ CanR c R
theorem TableAt.same {CR CT : Addr} {H H' : Hp} {x r : Addr} {c : Nat} {s p : Bool} {R : Rw} (h : TableAt CR CT H x r c s p R) (e : Same H H') : TableAt CR CT H' x r c s p R := by
  obtain ⟨dx, d, h1, h2, h3, h4, h5⟩ := h
  obtain ⟨kvs, g1, _⟩ := id h2
  exact ⟨dx, d, e _ _ h1, h2.imp ((e _ _ g1).trans g1.symm) (fun b _ v z => z.tk (Same.tk e)), h3.same e, h4, h5⟩
theorem TableAt.eqR {CR CT : Addr} {H : Hp} {x r : Addr} {c : Nat} {s p : Bool} {R S : Rw} (h : TableAt CR CT H x r c s p R) (e : EqR' c R S) : TableAt CR CT H x r c s p S := by
  obtain ⟨dx, d, h1, ⟨kvs, g1, g2, g3⟩, h3, h4, h5⟩ := h
  refine ⟨dx, d, h1, ⟨kvs, g1, g2, fun b hb => ?_⟩, h3, h4, fun b hb => by rw [← e b hb]; exact h5 b hb⟩
  obtain ⟨v, z1, a, xs, z2, z3, z4⟩ := g3 b hb
  exact ⟨v, z1, a, xs, z2, z3, by rw [← e b hb]; exact z4⟩
theorem TableAt.rules {CR CT : Addr} {H : Hp} {x r : Addr} {c : Nat} {s p : Bool} {R : Rw} (h : TableAt CR CT H x r c s p R) : RulesAt CR H r c s p := by
  obtain ⟨dx, d, h1, h2, h3, h4, h5⟩ := h
  exact h3
theorem CanR.len {c : Nat} (hc : CapOk c) {R : Rw} (h : CanR c R) {b : Bg} (hb : b ∈ bagsOf c) : (R b).length ≤ 10 := by
  rw [← show lst c (R b) = R b from h b hb]
  exact Nat.le_trans (List.length_filter_le _ _) (len_ocs hc)
def rTupOf (K : PySem.W.Frag) : List V → Hp → VK → Prop := fun xs H Q => ∃ p ys, xs = [V.ref p] ∧ ((SqL K H p ys ∧ ∀ l, H l = none → Q (.ref l) (upd H l (.tup ys))) ∨ (SqT K H p ys ∧ Q (.ref p) H))
theorem call_tupOf {X : Cx} : CallR X (.type "tuple") (rTupOf X.K) := call_tuple_of
def rLstOf (K : PySem.W.Frag) : List V → Hp → VK → Prop := fun xs H Q => ∃ p ys, xs = [V.ref p] ∧ (SqL K H p ys ∨ SqT K H p ys) ∧ ∀ l, H l = none → Q (.ref l) (upd H l (.lst ys))
theorem call_lstOf {X : Cx} : CallR X (.type "list") (rLstOf X.K) := call_list_of
abbrev sTInit : Stmt := inClass (topS 23) 0
def spTInit (CR CT : Addr) : Sp := fun vs H Q _ => ∃ (x dx r d : Addr) (c : Nat) (s p : Bool) (L : Rw), vs = [.ref x, .ref r, .ref d] ∧ RulesAt CR H r c s p ∧ CapOk c ∧ RowsAt H d c L ∧ GoodR c L ∧ H x = some (.ins CT dx []) ∧
  ∀ H', SameX x H H' → TableAt CR CT H' x r c s p (fun b => lst c (L b)) → Q .non H'
theorem scTInit : FnScope ["self", "rules", "rows", "bag"] ["self", "rules", "rows"] (defScope sTInit) := ⟨rfl, rfl, rfl, by decide +kernel, rfl, by decide +kernel, by decide +kernel⟩
/-- Table's own __init__ -/
def DefTI (K : PySem.W.Frag) (mg : Str → Option Value) (C : Addr) : Prop :=
  ∃ (f : Addr) (fd : FuncData), Fun K "__init__" "Table.__init__" sTInit f fd ∧ Mk K C f ∧ mg "Table" = some (.ref C) ∧ L2.Binds K fd ["self", "rules", "rows"] []
section
variable {P : Program} {w : World} {K : PySem.W.Frag} {mg : Str → Option Value} {base : Heap} {CR CT CB CM : Addr}
theorem ok_tinit (T : Tx K mg CR CT) (D : DefTI K mg CT) (cR : Cal P w K mg base (L2.CX P w) 3 "check_rules" ["thing"] (spCkRules K CR CB)) (cW : Cal P w K mg base CX0 6 "check_rows" ["rules", "rows"] (spCkRows CR))
    (cB : CalM P w K mg base CR 3 "bags" ["self"] (spBags CR)) (cL : Cal P w K mg base CX0 5 "listed" ["rules", "had"] (spListed CR)) : CalI P w K mg base CT 8 "Table" ["self", "rules", "rows"] (spTInit CR CT) := by
  obtain ⟨f, fd, G, mk, gl, bi⟩ := D
  refine ⟨f, fd, G.ok (k := 7) scTInit (fun vs H Q E h => ?_) (fun cdv A outer s H vs Q E hr h => ?_), mk, gl, bi⟩
  · obtain ⟨x, dx, r, d, c, s, p, L, rfl, _⟩ := h
    rfl
  · obtain ⟨x, dx, r, d, c, s, p, L, rfl, hR, hc, hrows, hgood, hx, k⟩ := h
    have hr3 : Room 3 _ := hr.mono (by decide)
    have hr5 : Room 5 _ := hr.mono (by decide)
    have hr6 : Room 6 _ := hr.mono (by decide)
    refine ⟨_, (pss_cons (ps_expr (pe_cal cR hr3 passL (pa_cons (pv 1) pa_nil))) (pss_cons (ps_expr (pe_cal cW hr6 pass0 (pa_cons (pv 1) (pa_cons (pv 2) pa_nil)))) (pss_cons (ps_fld (pv 0) (pv 1) rfl) (pss_one (ps_fld (pv 0) (pe_callTy (call_dctT rfl hr) (by rfl) T.fr.dict bt_dict (pa_cons (by exact (pe_lc (own := [("bag", 3)]) (g := gName 3) (tt := tYes) (te := tTup (tCons (tVar 3) (tCons (tCB (rTupOf K) (tCons (tCall (spListed CR) [] E0 (tCons (tVar 1) (tCons (tDGet (tVar 2) (tVar 3)) tNil))) tNil)) tNil))) rfl scTInit.nd (pi_list (pe_calM0 cB T.clR hr3 (pv 1))) (blkOk_by (N := ["self", "rules", "rows", "bag"]) (sc := defScope sTInit) (by decide +kernel)) (fun _ _ _ _ _ => (pg_name (i := 3) scTInit.nd rfl (Or.inl rfl))) (fun _ _ _ _ _ => pts_nil) (fun _ _ _ _ _ => (pe_tup (pa_cons (pv 3) (pa_cons (pe_callTy call_tupOf (by rfl) T.fr.tuple bt_tuple (pa_cons (pe_cal cL hr5 pass0 (pa_cons (pv 1) (pa_cons (pe_dget (hu_of hr) (pv 2) (pv 3) (fun _ _ => rfl)) pa_nil))) pa_nil)) pa_nil)))))) pa_nil)) rfl))))), ?_⟩
    obtain ⟨dr, hr'⟩ := id hR
    refine ⟨_, rfl, _, rfl, .inl ⟨r, c, s, p, rfl, hR, ?_⟩⟩
    refine ⟨_, rfl, _, rfl, r, d, c, s, p, L, rfl, hR, hc, hrows, hgood, fun H1 e1 => ?_⟩
    refine ⟨_, rfl, _, rfl, x, CT, dx, [], rfl, e1 _ _ hx, T.clT, T.nr, (by show 0 < 1000; decide), ?_⟩
    have nrx : r ≠ x := by
      intro z
      obtain ⟨dr, h⟩ := hR
      rw [z, hx] at h
      simp [rf] at h
    obtain ⟨kvs, hd, _⟩ := id hrows
    have ndx : d ≠ x := ne_of hd hx (by intro z; cases z)
    have s2 : SameX x H1 (L2.upd H1 x (.ins CT dx (putF "own_rules" (.ref r) []))) := SameX.upd
    generalize hH2 : L2.upd H1 x (.ins CT dx (putF "own_rules" (.ref r) [])) = H2
    have hx2 : H2 x = some (.ins CT dx (putF "own_rules" (.ref r) [])) := by rw [← hH2]; exact upd_same
    rw [hH2] at s2
    have s02 : SameX x H H2 := (Same.x e1).trans s2
    have hR2 : RulesAt CR H2 r c s p := by
      obtain ⟨dr, h⟩ := hR
      exact ⟨dr, s02 _ _ nrx h⟩
    have tk2 : Tk H H2 := fun b ys h => s02 _ _ (ne_of h hx (by intro z; cases z)) h
    have hrows2 : RowsAt H2 d c L := by
      obtain ⟨kvs, h1, h2, h3, h4⟩ := hrows
      refine ⟨kvs, s02 _ _ ndx h1, h2, h3, fun b hb => ?_⟩
      obtain ⟨a, z1, xs, z2, z3⟩ := h4 b hb
      refine ⟨a, z1, xs, z2.imp (fun z => s02 _ _ (ne_of z hx (by intro z; cases z)) z) (tk2 _ _), z3.tk tk2⟩
    refine ⟨_, rfl, r, _, _, rfl, hR2.choose_spec, rf_bags _ _ _, r, c, s, p, rfl, hR2, hc, fun H3 lb xs e3 hlb hlx hb => ?_⟩
    refine ⟨lb, rfl, ⟨_, SqL.of hlx⟩, fun D hD => ?_⟩
    have key : LcEnd (Itl K lb) (gName 3) tYes (tTup (tCons (tVar 3) (tCons (tCB (rTupOf K) (tCons (tCall (spListed CR) [] E0 (tCons (tVar 1) (tCons (tDGet (tVar 2) (tVar 3)) tNil))) tNil)) tNil))) [3]
        (L2.start ["self", "rules", "rows", "bag"] [.ref x, .ref r, .ref d]) H3 D (fun H4 => ∃ ps kvs, Same H3 H4 ∧ H4 D = some (.lst (ps.map V.ref)) ∧ Paired (PairT H4) ps kvs ∧ kvs.map (·.1) = (bagsOf c).map keyOf ∧
          ∀ (j : Nat) b, (bagsOf c)[j]? = some b → ∃ kv, kvs[j]? = some kv ∧ ∀ H', SameX D H4 H' → ValT (fun b => lst c (L b)) b kv.2 H') := by
      refine lc_pairs walk_list (k := 3) (fun x => rfl) hD hb (Nat.le_trans (len_bags hc) (by decide)) (fun H e => SqL.of (e _ _ hlx)) (ValT fun b => lst c (L b)) ?_ (fun H4 ps kvs e h1 h2 h3 h4 => ⟨ps, kvs, e, h1, h2, h3, h4⟩)
      intro i y b H4 Rk hbi hyb e4 ⟨acc, hacc⟩ hRk
      have hbm : b ∈ bagsOf c := List.mem_of_getElem? hbi
      obtain ⟨q, rfl, hq⟩ := hyb
      have e24 : Same H2 H4 := e3.trans e4
      obtain ⟨kvs, g1, g2, g3, g4⟩ := hrows2.same e24
      obtain ⟨a, hva, hrow⟩ := g4 b hbm
      refine ⟨_, rfl, _, rfl, _, rfl, _, rfl, d, .ref a, rfl, by rw [← hva]; exact DGet.t (k := keyOf b) g1 hq, ?_⟩
      refine ⟨r, a, c, s, p, L b, rfl, hR2.same e24, hc, hrow, fun H5 l ys e5 hl hly hoy => ?_⟩
      refine ⟨l, ys, rfl, .inl ⟨SqL.of hly, fun t ht => ?_⟩⟩
      refine ⟨(by show 2 ≤ sizeLine; decide), fun pr hpr => ?_⟩
      have e6 : Same H5 (L2.upd H5 t (.tup ys)) := Same.new ht
      have e7 : Same (L2.upd H5 t (.tup ys)) (L2.upd (L2.upd H5 t (.tup ys)) pr (.tup [.ref q, .ref t])) := Same.new hpr
      refine hRk _ pr (.ref t) ((e5.trans e6).trans e7) upd_same ?_
      intro H' eH
      have hD6 := (e6.trans e7) _ _ (e5 _ _ hacc)
      exact ValT.tk (H := L2.upd (L2.upd H5 t (.tup ys)) pr (.tup [.ref q, .ref t])) ⟨t, ys, rfl, e7 _ _ upd_same, hoy.tk (Same.tk (e6.trans e7))⟩ (SameX.tk hD6 eH)
    refine LcEnd.imp key ?_
    rintro H4 ⟨ps, kvs, e4, h1, h2, h3, h4⟩
    unfold tNil
    dsimp only
    refine rowsK_new (nd_bags hc) hD e4 h1 h2 h3 h4 ?_
    intro d' H' e5 hd' hrk
    refine ⟨_, rfl, x, CT, dx, _, rfl, e5 _ _ (e3 _ _ hx2), T.clT, T.nk, (by show 1 < 1000; decide), ?_⟩
    rw [tf_put]
    have nd'x : d' ≠ x := fun z => by rw [z, e3 _ _ hx2] at hd'; cases hd'
    refine k _ ((s02.trans (Same.x (e3.trans e5))).trans SameX.upd) ⟨dx, d', upd_same, hrk.imp (upd_ne nd'x) (fun b _ v z => ?_), ?_, hc, fun b _ => can_lst _ _⟩
    · refine z.tk fun b ys hb => ?_
      rw [upd_ne (ne_of hb (e5 _ _ (e3 _ _ hx2)) (by intro z; cases z))]
      exact hb
    · obtain ⟨dr, h⟩ := hR2
      exact ⟨dr, by rw [upd_ne nrx]; exact e5 _ _ (e3 _ _ h)⟩
end
end Rt
set_option Elab.async false
set_option linter.all false
set_option maxRecDepth 100000
set_option maxHeartbeats 2000000
namespace Rt
open PySem PySem.Spec PyProof.Rows L2
/-! ### a table as it is read, its dict maybe walked at the time -/
def TableRd (CR CT : Addr) (H : Hp) (x r : Addr) (c : Nat) (s p : Bool) (R : Rw) : Prop := ∃ dx d kvs, H x = some (.ins CT dx (tf r d)) ∧ Rd H d (.dT kvs) ∧ (∀ b ∈ bagsOf c, ∃ v, valV kvs (keyOf b) = some v ∧ ValT R b v H) ∧ RulesAt CR H r c s p ∧ CapOk c ∧ CanR c R
theorem TableAt.rd {CR CT : Addr} {H : Hp} {x r : Addr} {c : Nat} {s p : Bool} {R : Rw} (h : TableAt CR CT H x r c s p R) : TableRd CR CT H x r c s p R := by
  obtain ⟨dx, d, h1, ⟨kvs, g1, g2, g3⟩, h3, h4, h5⟩ := h
  exact ⟨dx, d, kvs, h1, .inl g1, g3, h3, h4, h5⟩
theorem Rd.same {H H' : Hp} {d : Addr} {u : HO} (h : Rd H d u) (e : Same H H') : Rd H' d u := h.imp (e _ _) fun ⟨o, z⟩ => ⟨o, e _ _ z⟩
theorem TableRd.same {CR CT : Addr} {H H' : Hp} {x r : Addr} {c : Nat} {s p : Bool} {R : Rw} (h : TableRd CR CT H x r c s p R) (e : Same H H') : TableRd CR CT H' x r c s p R := by
  obtain ⟨dx, d, kvs, h1, h2, h3, h4, h5, h6⟩ := h
  exact ⟨dx, d, kvs, e _ _ h1, Rd.same h2 e, fun b hb => (h3 b hb).imp fun v z => ⟨z.1, z.2.tk (Same.tk e)⟩, h4.same e, h5, h6⟩
theorem TableRd.lock {CR CT : Addr} {H : Hp} {x r : Addr} {c : Nat} {s p : Bool} {R : Rw} {d0 : Addr} {kvs0 : List (List Key × V)} {o : Obj} (h : TableRd CR CT H x r c s p R) (h0 : H d0 = some (.dT kvs0)) : TableRd CR CT (L2.upd H d0 (.frz o (.dT kvs0))) x r c s p R := by
  obtain ⟨dx, d, kvs, h1, h2, h3, h4, h5, h6⟩ := h
  have tk : Tk H (L2.upd H d0 (.frz o (.dT kvs0))) := Tk.lock h0
  refine ⟨dx, d, kvs, by rw [upd_ne (ne_of h1 h0 (by intro z; cases z))]; exact h1, ?_, fun b hb => (h3 b hb).imp fun v z => ⟨z.1, z.2.tk tk⟩, h4.lock h0, h5, h6⟩
  by_cases hd : d = d0
  · subst hd
    rcases h2 with h2 | ⟨o2, h2⟩
    · rw [h0] at h2
      cases h2
      exact .inr ⟨o, upd_same⟩
    · rw [h0] at h2
      cases h2
  · exact h2.imp (fun z => by rw [upd_ne hd]; exact z) fun ⟨o2, z⟩ => ⟨o2, by rw [upd_ne hd]; exact z⟩
theorem TableRd.rules {CR CT : Addr} {H : Hp} {x r : Addr} {c : Nat} {s p : Bool} {R : Rw} (h : TableRd CR CT H x r c s p R) : RulesAt CR H r c s p := by
  obtain ⟨dx, d, kvs, h1, h2, h3, h4, h5⟩ := h
  exact h4
theorem DGet.rdT {H : Hp} {a q : Addr} {kvs : List (List Key × V)} {b : Bg} {v : V} (e : Rd H a (.dT kvs)) (eb : H q = some (.tup [.int b.1, .int b.2])) (hv : valV kvs (keyOf b) = some v) : DGet H a (.ref q) (some v) := by
  rw [← hv]
  exact .inr ⟨kvs, keyOf b, q, e, rfl, eb, rfl⟩
abbrev sOuts : Stmt := inClass (topS 23) 2
abbrev sLets : Stmt := inClass (topS 23) 3
abbrev sWithin : Stmt := inClass (topS 23) 4
abbrev sOr : Stmt := inClass (topS 23) 5
abbrev sTEq : Stmt := inClass (topS 23) 6
abbrev sBoth : Stmt := topS 24
abbrev sLike : Stmt := topS 25
def spOuts (CR CT : Addr) : Sp := fun vs H Q _ => ∃ (x r : Addr) (c : Nat) (s p : Bool) (R : Rw) (v : V) (b : Bg), vs = [.ref x, v] ∧ TableRd CR CT H x r c s p R ∧ b ∈ bagsOf c ∧ IsBag H v b ∧
  ∀ (H' : Hp) (l : Addr) (xs : List V), Same H H' → H l = none → H' l = some (.lst xs) → OcL H' xs (R b) → Q (.ref l) H'
def spLets (CR CT : Addr) : Sp := fun vs H Q _ => ∃ (x r : Addr) (c : Nat) (s p : Bool) (R : Rw) (v w : V) (b : Bg) (o : Oc), vs = [.ref x, v, w] ∧ TableRd CR CT H x r c s p R ∧ b ∈ bagsOf c ∧ IsBag H v b ∧ o ∈ ocs c ∧ IsOc H w o ∧
  ∀ H', Same H H' → Q (.bl (decide (o ∈ R b))) H'
theorem scOuts : FnScope ["self", "bag"] ["self", "bag"] (defScope sOuts) := ⟨rfl, rfl, rfl, by decide +kernel, rfl, by decide +kernel, by decide +kernel⟩
theorem scLets : FnScope ["self", "bag", "outcome"] ["self", "bag", "outcome"] (defScope sLets) := ⟨rfl, rfl, rfl, by decide +kernel, rfl, by decide +kernel, by decide +kernel⟩
/-- a thing that is no table -/
def NoTable (K : PySem.W.Frag) (CT : Addr) (H : Hp) (v : V) : Prop := ∃ t, TyX K H v t ∧ PySem.W.kitOne K t (.ref CT) = some false
def spLike (K : PySem.W.Frag) (CR CT CB : Addr) : Sp := fun vs H Q E => ∃ (x r : Addr) (c : Nat) (s p : Bool) (R : Rw) (v : V), vs = [.ref x, v] ∧ TableRd CR CT H x r c s p R ∧
  ((∃ (y r' : Addr) (S : Rw), v = .ref y ∧ TableRd CR CT H y r' c s p S ∧ Q .non H) ∨
   ((NoTable K CT H v ∨ ∃ (y r' : Addr) (c' : Nat) (s' p' : Bool) (S : Rw), v = .ref y ∧ TableRd CR CT H y r' c' s' p' S ∧ ¬ (c' = c ∧ s' = s ∧ p' = p)) ∧ ∀ d, H d = none → E (.ref CB) (some d) (upd H d (.xd [("value", v)]))))
theorem scLike : FnScope ["table", "other"] ["table", "other"] (defScope sLike) := ⟨rfl, rfl, rfl, by decide +kernel, rfl, by decide +kernel, by decide +kernel⟩
theorem getRules {CR CT : Addr} {H : Hp} {x r : Addr} {c : Nat} {s p : Bool} {R : Rw} (h : TableRd CR CT H x r c s p R) {Q : VK} (q : Q (.ref r) H) : getSp CT "own_rules" [.ref x] H Q E0 := by
  obtain ⟨dx, d, kvs, h1, h2, h3, h4, h5⟩ := h
  exact ⟨x, dx, _, _, rfl, h1, tf_rules _ _, q⟩
/-- what pe_calP reads of a table's rules -/
theorem propRules {CR CT : Addr} {H : Hp} {x r : Addr} {c : Nat} {s p : Bool} {R : Rw} (h : TableRd CR CT H x r c s p R) {Q : VK} (q : Q (.ref r) H) :
    ∃ a dx fs, V.ref x = .ref a ∧ H a = some (.ins CT dx fs) ∧ getSp CT "own_rules" [V.ref a] H Q E0 := by
  obtain ⟨dx, d, kvs, h1, _⟩ := id h
  exact ⟨x, dx, _, rfl, h1, getRules h q⟩
section
variable {P : Program} {w : World} {K : PySem.W.Frag} {mg : Str → Option Value} {base : Heap} {CR CT CB CM : Addr}
theorem ok_outs (T : Tx K mg CR CT) (D : DefM K CT "outcomes" "Table.outcomes" 23 2 ["self", "bag"]) (c1 : Cal P w K mg base CX0 4 "check_bag" ["rules", "thing"] (spCkBag CR)) (p1 : CalP P w K mg base CT 1 "rules" (getSp CT "own_rules")) :
    CalM P w K mg base CT 5 "outcomes" ["self", "bag"] (spOuts CR CT) := by
  obtain ⟨f, fd, G, me, bi⟩ := D
  refine ⟨f, fd, G.ok scOuts (fun vs H Q E h => ?_) (fun cdv A outer s H vs Q E hr h => ?_), me, bi⟩
  · obtain ⟨x, r, c, s, p, R, v, b, rfl, _⟩ := h
    rfl
  · obtain ⟨x, r, c, s, p, R, v, b, rfl, hT, hb, hv, k⟩ := h
    have hr2 : Room 2 _ := hr.mono (by decide)
    refine ⟨_, (pss_cons (ps_expr (pe_cal c1 hr pass0 (pa_cons (pe_calP p1 T.clT hr2 (pv 0)) (pa_cons (pv 1) pa_nil)))) (pss_one (ps_ret (pe_callTy call_lstOf (by rfl) T.fr.list bt_list (pa_cons (pe_dget (hu_of hr) (pe_fld (pv 0) rfl) (pv 1) (fun _ _ => rfl)) pa_nil))))), ?_⟩
    refine ⟨_, rfl, propRules hT ⟨_, rfl, r, c, s, p, v, rfl, hT.rules, ⟨b, hb, hv⟩, fun H1 e1 => ?_⟩⟩
    obtain ⟨dx, d, kvs, h1, h2, h3, h4, h5, h6⟩ := hT.same e1
    obtain ⟨v', z1, a, xs, rfl, z2, z3⟩ := h3 b hb
    obtain ⟨q, rfl, hq⟩ := hv.tk (Same.tk e1)
    refine ⟨_, rfl, x, CT, dx, _, _, rfl, h1, T.clT, T.nk, tf_kept _ _, _, rfl, d, _, rfl, DGet.rdT h2 hq z1, ?_⟩
    refine ⟨a, xs, rfl, .inr (SqT.of z2), fun l hl => ?_⟩
    exact k _ l xs (e1.trans (Same.new hl)) (e1.free hl) upd_same (z3.tk (Same.tk (Same.new hl)))
theorem ok_lets (T : Tx K mg CR CT) (D : DefM K CT "lets" "Table.lets" 23 3 ["self", "bag", "outcome"]) (c1 : Cal P w K mg base CX0 4 "check_bag" ["rules", "thing"] (spCkBag CR)) (c2 : Cal P w K mg base CX0 5 "check_outcome" ["rules", "thing"] (spCkOc CR))
    (p1 : CalP P w K mg base CT 1 "rules" (getSp CT "own_rules")) : CalM P w K mg base CT 6 "lets" ["self", "bag", "outcome"] (spLets CR CT) := by
  obtain ⟨f, fd, G, me, bi⟩ := D
  refine ⟨f, fd, G.ok scLets (fun vs H Q E h => ?_) (fun cdv A outer s H vs Q E hr h => ?_), me, bi⟩
  · obtain ⟨x, r, c, s, p, R, v, w', b, o, rfl, _⟩ := h
    rfl
  · obtain ⟨x, r, c, s, p, R, v, w', b, o, rfl, hT, hb, hv, ho, hw, k⟩ := h
    have hr2 : Room 2 _ := hr.mono (by decide)
    have hr4 : Room 4 _ := hr.mono (by decide)
    refine ⟨_, (pss_cons (ps_expr (pe_cal c1 hr4 pass0 (pa_cons (pe_calP p1 T.clT hr2 (pv 0)) (pa_cons (pv 1) pa_nil)))) (pss_cons (ps_expr (pe_cal c2 hr pass0 (pa_cons (pe_calP p1 T.clT hr2 (pv 0)) (pa_cons (pv 2) pa_nil)))) (pss_one (ps_ret (pe_cmpR (op_inOc (u65 hr)) (pv 2) (pe_dget (hu_of hr) (pe_fld (pv 0) rfl) (pv 1) (fun _ _ => rfl)) (by rfl)))))), ?_⟩
    refine ⟨_, rfl, propRules hT ⟨_, rfl, r, c, s, p, v, rfl, hT.rules, ⟨b, hb, hv⟩, fun H1 e1 => ?_⟩⟩
    refine ⟨_, rfl, propRules (hT.same e1) ⟨_, rfl, r, c, s, p, w', rfl, (hT.same e1).rules, ⟨o, ho, hw.tk (Same.tk e1)⟩, fun H2 e2 => ?_⟩⟩
    have e12 := e1.trans e2
    obtain ⟨dx, d, kvs, h1, h2, h3, h4, h5, h6⟩ := hT.same e12
    obtain ⟨v', z1, a, xs, rfl, z2, z3⟩ := h3 b hb
    obtain ⟨q, rfl, hq⟩ := hv.tk (Same.tk e12)
    refine ⟨_, rfl, _, rfl, x, CT, dx, _, _, rfl, h1, T.clT, T.nk, tf_kept _ _, _, rfl, d, _, rfl, DGet.rdT h2 hq z1, ?_⟩
    exact ⟨a, o, R b, rfl, hw.tk (Same.tk e12), ⟨xs, .inr z2, z3⟩, k H2 e12⟩
theorem ok_like (T : Tx K mg CR CT) (D : Def K mg "check_like" 25 ["table", "other"]) (N : Exn P w K mg base "BadTable" CB CM) (cE : CalE P w K mg base CR 3 (spREq CR CT)) (p1 : CalP P w K mg base CT 1 "rules" (getSp CT "own_rules")) :
    Cal P w K mg base (L2.CX P w) 5 "check_like" ["table", "other"] (spLike K CR CT CB) := by
  obtain ⟨f, fd, G, gl, bi⟩ := D
  refine ⟨f, fd, G.okX (k := 4) scLike (fun vs H Q E h => ?_) (fun cdv A outer s H vs Q E hr h => ?_), gl, G.kp, bi⟩
  · obtain ⟨x, r, c, s, p, R, v, rfl, _⟩ := h
    rfl
  · obtain ⟨x, r, c, s, p, R, v, rfl, hT, k⟩ := h
    have hr2 : Room 2 _ := hr.mono (by decide)
    refine ⟨_, (pss_one (ps_if (PW.pt (pw_or (pt_not (pt_val (pe_isC T.fr (pv 1) T.gT))) (pw_or1 (pt_cmpR (op_neE cE hr) (pe_calP p1 T.clT hr2 (pv 1)) (pe_calP p1 T.clT hr2 (pv 0)) (nomark _))))) (pss_one (ps_raiseV (i := 1) N rfl hr2 (takes_of rfl rfl rfl rfl) rfl (Or.inl rfl))) pss_nil)), ?_⟩
    obtain ⟨dx, hr'⟩ := hT.rules
    rcases k with ⟨y, r', S, rfl, hS, q⟩ | ⟨⟨t, ty, kt⟩ | ⟨y, r', c', s', p', S, rfl, hS, hne⟩, q⟩
    · obtain ⟨dy, d, kvs, h1, _⟩ := id hS
      obtain ⟨dz, hr2'⟩ := hS.rules
      refine ⟨_, rfl, _, .ref CT, _, _, true, rfl, .own _, T.tyT h1, T.kTT, true, rfl, iteF ?_⟩
      refine ⟨_, rfl, propRules hS ⟨_, rfl, propRules hT ?_⟩⟩
      refine ⟨r', r, _, _, _, _, rfl, rfl, hr2', hr', r', r, c, s, p, rfl, hS.rules, .inl ⟨c, s, p, hT.rules, _, rfl, _, rfl, ?_⟩⟩
      refine ifF ?_ q
      simp
    · refine ⟨_, rfl, _, .ref CT, _, _, false, rfl, .own _, ty, kt, false, rfl, iteT ?_⟩
      exact ⟨_, rfl, fun d hd => q d hd⟩
    · obtain ⟨dy, d, kvs, h1, _⟩ := id hS
      obtain ⟨dz, hr2'⟩ := hS.rules
      refine ⟨_, rfl, _, .ref CT, _, _, true, rfl, .own _, T.tyT h1, T.kTT, true, rfl, iteF ?_⟩
      refine ⟨_, rfl, propRules hS ⟨_, rfl, propRules hT ?_⟩⟩
      refine ⟨r', r, _, _, _, _, rfl, rfl, hr2', hr', r', r, c', s', p', rfl, hS.rules, .inl ⟨c, s, p, hT.rules, _, rfl, _, rfl, ?_⟩⟩
      refine ifT ?_ ⟨_, rfl, fun d hd => q d hd⟩
      rw [decide_eq_false hne]
      rfl
end
end Rt
set_option Elab.async false
set_option linter.all false
set_option maxRecDepth 100000
set_option maxHeartbeats 2000000
namespace Rt
open PySem PySem.Spec PyProof.Rows L2
/-! ### new tables -/
/-- Table(rules, rows) of good rows, as pe_calI reads it -/
theorem mk_table {CR CT : Addr} {H1 : Hp} {r d : Addr} {c : Nat} {s p : Bool} {L : Rw} {Q : VK} (hR : RulesAt CR H1 r c s p) (hc : CapOk c) (hrows : RowsAt H1 d c L) (hg : GoodR c L)
    (k : ∀ H' z, Same H1 H' → H1 z = none → TableAt CR CT H' z r c s p (fun b => lst c (L b)) → Q (.ref z) H') :
    ∀ x dx, H1 x = none → H1 dx = none → dx ≠ x → spTInit CR CT [.ref x, .ref r, .ref d] (L2.upd (L2.upd H1 dx (.own x)) x (.ins CT dx [])) (fun v H2 => v = .non ∧ Q (.ref x) H2) E0 := by
  intro x dx hx hdx ne
  have e1 : Same H1 (L2.upd (L2.upd H1 dx (.own x)) x (.ins CT dx [])) := fun b o h => by rw [upd_ne (ne_of_none h hx), upd_ne (ne_of_none h hdx)]; exact h
  refine ⟨x, dx, r, d, c, s, p, L, rfl, hR.same e1, hc, hrows.same e1, hg, upd_same, fun H' e2 ht => ⟨rfl, k H' x (fun b o h => e2 b o (ne_of_none h hx) (e1 b o h)) hx ht⟩⟩
theorem good_lst {c : Nat} (hc : CapOk c) (F : Rw) : GoodR c (fun b => lst c (F b)) := fun b _ => ⟨lst_nodup hc _, fun o h => (mem_lst.mp h).1⟩
theorem GoodR.can {c : Nat} (hc : CapOk c) {R : Rw} (h : CanR c R) : GoodR c R := fun b hb => by
  rw [← show lst c (R b) = R b from h b hb]
  exact ⟨lst_nodup hc _, fun o h => (mem_lst.mp h).1⟩
/-- of rows already in order: as they are -/
theorem TableAt.canon {CR CT : Addr} {H : Hp} {x r : Addr} {c : Nat} {s p : Bool} {R : Rw} (hR : CanR c R) (h : TableAt CR CT H x r c s p (fun b => lst c (R b))) : TableAt CR CT H x r c s p R := h.eqR fun b hb => hR b hb
def spBoth (CR CT : Addr) : Sp := fun vs H Q _ => ∃ (x y r r' : Addr) (c : Nat) (s p : Bool) (R S : Rw) (v : V) (b : Bg), vs = [.ref x, .ref y, v] ∧ TableRd CR CT H x r c s p R ∧ TableRd CR CT H y r' c s p S ∧ b ∈ bagsOf c ∧ IsBag H v b ∧
  ∀ (H' : Hp) (l : Addr) (xs : List V), Same H H' → H l = none → H' l = some (.lst xs) → OcL H' xs (orR c R S b) → Q (.ref l) H'
theorem scBoth : FnScope ["one", "other", "bag"] ["one", "other", "bag"] (defScope sBoth) := ⟨rfl, rfl, rfl, by decide +kernel, rfl, by decide +kernel, by decide +kernel⟩
/-- what a method's call reads of a table -/
theorem methT {CR CT : Addr} {H : Hp} {x r : Addr} {c : Nat} {s p : Bool} {R : Rw} {m : Str} (h : TableRd CR CT H x r c s p R) (hm : ∀ r d, (tf r d).lookup m = none) {Z : V → Prop} (q : Z (.ref x)) :
    ∃ a dx fs, V.ref x = .ref a ∧ H a = some (.ins CT dx fs) ∧ fs.lookup m = none ∧ Z (.ref x) := by
  obtain ⟨dx, d, kvs, h1, _⟩ := id h
  exact ⟨x, dx, _, rfl, h1, hm _ _, q⟩
section
variable {P : Program} {w : World} {K : PySem.W.Frag} {mg : Str → Option Value} {base : Heap} {CR CT CB CM : Addr}
theorem ok_both (T : Tx K mg CR CT) (D : Def K mg "both_rows" 24 ["one", "other", "bag"]) (cO : CalM P w K mg base CT 5 "outcomes" ["self", "bag"] (spOuts CR CT)) (cL : Cal P w K mg base CX0 5 "listed" ["rules", "had"] (spListed CR))
    (p1 : CalP P w K mg base CT 1 "rules" (getSp CT "own_rules")) : Cal P w K mg base CX0 6 "both_rows" ["one", "other", "bag"] (spBoth CR CT) := by
  obtain ⟨f, fd, G, gl, bi⟩ := D
  refine ⟨f, fd, G.ok (k := 5) scBoth (fun vs H Q E h => ?_) (fun cdv A outer s H vs Q E hr h => ?_), gl, G.kp, bi⟩
  · obtain ⟨x, y, r, r', c, s, p, R, S, v, b, rfl, _⟩ := h
    rfl
  · obtain ⟨x, y, r, r', c, s, p, R, S, v, b, rfl, hT, hS, hb, hv, k⟩ := h
    have hr2 : Room 2 _ := hr.mono (by decide)
    refine ⟨_, (pss_one (ps_ret (pe_cal cL hr pass0 (pa_cons (pe_calP p1 T.clT hr2 (pv 0)) (pa_cons (pe_op op_cat (pe_calM cO T.clT hr (pv 0) (pa_cons (pv 2) pa_nil)) (pe_calM cO T.clT hr (pv 1) (pa_cons (pv 2) pa_nil))) pa_nil))))), ?_⟩
    obtain ⟨dx, d, kvs, h1, _, _, _, hc, hcR⟩ := id hT
    refine ⟨_, rfl, propRules hT ?_⟩
    refine ⟨_, rfl, x, dx, _, rfl, h1, tf_outs _ _, _, rfl, x, r, c, s, p, R, v, b, rfl, hT, hb, hv, fun H1 l1 xs e1 hl1 hx1 ho1 => ?_⟩
    have hS1 := hS.same e1
    obtain ⟨dy, dd, kvs', g1, _, _, _, _, hcS⟩ := id hS1
    refine ⟨_, rfl, y, dy, _, rfl, g1, tf_outs _ _, _, rfl, y, r', c, s, p, S, v, b, rfl, hS1, hb, hv.tk (Same.tk e1), fun H2 l2 ys e2 hl2 hx2 ho2 => ?_⟩
    refine ⟨l1, l2, xs, ys, rfl, rfl, e2 _ _ hx1, hx2, ?_, fun q hq => ?_⟩
    · have z1 := hcR.len hc hb
      have z2 := hcS.len hc hb
      rw [Paired.length ho1, Paired.length ho2]
      exact Nat.le_trans (m := 20) (by omega) (by decide)
    have e3 : Same H2 (L2.upd H2 q (.lst (xs ++ ys))) := Same.new hq
    have e12 := e1.trans e2
    have e13 := e12.trans e3
    refine ⟨r, q, c, s, p, R b ++ S b, rfl, hT.rules.same e13, hc, ⟨xs ++ ys, .inl upd_same, Paired.app (ho1.tk (Same.tk (e2.trans e3))) (ho2.tk (Same.tk e3))⟩, fun H3 l zs e4 hl hz hoz => ?_⟩
    exact k H3 l zs (e13.trans e4) (e13.free hl) hz hoz
end
/-! ### | -/
def spOr (CR CT : Addr) : Sp := fun vs H Q _ => ∃ (x y r r' : Addr) (c : Nat) (s p : Bool) (R S : Rw), vs = [.ref x, .ref y] ∧ TableRd CR CT H x r c s p R ∧ TableRd CR CT H y r' c s p S ∧
  ∀ H' z, Same H H' → H z = none → TableAt CR CT H' z r c s p (orR c R S) → Q (.ref z) H'
theorem scOr : FnScope ["self", "other", "bag"] ["self", "other"] (defScope sOr) := ⟨rfl, rfl, rfl, by decide +kernel, rfl, by decide +kernel, by decide +kernel⟩
/-- the result of a comprehension of (bag, row) whose rows are lists -/
def PairsEnd (H3 : Hp) (D : Addr) (c : Nat) (F : Rw) : Hp → Prop := fun H4 => ∃ ps kvs, Same H3 H4 ∧ H4 D = some (.lst (ps.map V.ref)) ∧ Paired (PairT H4) ps kvs ∧ kvs.map (·.1) = (bagsOf c).map keyOf ∧
  ∀ (j : Nat) b, (bagsOf c)[j]? = some b → ∃ kv, kvs[j]? = some kv ∧ ∀ H', SameX D H4 H' → ValR F b kv.2 H'
/-- .. and what then is made of it -/
theorem PairsEnd.make {K : PySem.W.Frag} {CR CT : Addr} {H3 H4 : Hp} {D r : Addr} {c : Nat} {s p : Bool} {F : Rw} {Q : VK} (hc : CapOk c) (hD : H3 D = none) (h : PairsEnd H3 D c F H4) (hR : RulesAt CR H3 r c s p) (hF : CanR c F)
    (k : ∀ H' z, Same H3 H' → H3 z = none → TableAt CR CT H' z r c s p F → Q (.ref z) H') :
    rDictT K [.ref D] H4 fun v H5 => ∀ x dx, H5 x = none → H5 dx = none → dx ≠ x → spTInit CR CT [.ref x, .ref r, v] (L2.upd (L2.upd H5 dx (.own x)) x (.ins CT dx [])) (fun v H2 => v = .non ∧ Q (.ref x) H2) E0 := by
  obtain ⟨ps, kvs, e4, h1, h2, h3, h4⟩ := h
  refine rowsK_new (nd_bags hc) hD e4 h1 h2 h3 h4 ?_
  intro d' H' e5 hd' hrk
  exact mk_table (hR.same e5) hc hrk.rows (GoodR.can hc hF) fun H6 z e6 hz ht => k H6 z (e5.trans e6) (e5.free hz) (TableAt.canon hF ht)
section
variable {P : Program} {w : World} {K : PySem.W.Frag} {mg : Str → Option Value} {base : Heap} {CR CT CB CM : Addr}
theorem ok_or (T : Tx K mg CR CT) (D : DefO K CT "Table.__or__" 23 5) (cK : Cal P w K mg base (L2.CX P w) 5 "check_like" ["table", "other"] (spLike K CR CT CB)) (cB : CalM P w K mg base CR 3 "bags" ["self"] (spBags CR))
    (cW : Cal P w K mg base CX0 6 "both_rows" ["one", "other", "bag"] (spBoth CR CT)) (cT : CalI P w K mg base CT 8 "Table" ["self", "rules", "rows"] (spTInit CR CT)) (p1 : CalP P w K mg base CT 1 "rules" (getSp CT "own_rules")) : CalO P w K mg base CT 10 (spOr CR CT) := by
  obtain ⟨f, fd, G, me, bi⟩ := D
  refine ⟨f, fd, G.ok (k := 9) scOr (fun vs H Q E h => ?_) (fun cdv A outer s H vs Q E hr h => ?_), me, bi⟩
  · obtain ⟨x, y, r, r', c, s, p, R, S, rfl, _⟩ := h
    rfl
  · obtain ⟨x, y, r, r', c, s, p, R, S, rfl, hT, hS, k⟩ := h
    have hr2 : Room 2 _ := hr.mono (by decide)
    have hr3 : Room 3 _ := hr.mono (by decide)
    have hr5 : Room 5 _ := hr.mono (by decide)
    have hr6 : Room 6 _ := hr.mono (by decide)
    refine ⟨_, (pss_cons (ps_expr (pe_cal cK hr5 passL (pa_cons (pv 0) (pa_cons (pv 1) pa_nil)))) (pss_one (ps_ret (pe_calI cT hr (pa_cons (pe_calP p1 T.clT hr2 (pv 0)) (pa_cons (pe_callTy (call_dctT rfl hr) (by rfl) T.fr.dict bt_dict (pa_cons (by exact (pe_lc (own := [("bag", 2)]) (g := gName 2) (tt := tYes)  rfl scOr.nd (pi_list (pe_calM0 cB T.clR hr3 (pe_calP p1 T.clT hr2 (pv 0)))) (blkOk_by (N := ["self", "other", "bag"]) (sc := defScope sOr) (by decide +kernel)) (fun _ _ _ _ _ => (pg_name (i := 2) scOr.nd rfl (Or.inl rfl))) (fun _ _ _ _ _ => pts_nil) (fun _ _ _ _ _ => (pe_tup (pa_cons (pv 2) (pa_cons (pe_cal cW hr6 pass0 (pa_cons (pv 0) (pa_cons (pv 1) (pa_cons (pv 2) pa_nil)))) pa_nil)))))) pa_nil)) pa_nil)))))), ?_⟩
    obtain ⟨dx, d, kvs, h1, _, _, _, hc, hcR⟩ := id hT
    refine ⟨_, rfl, _, rfl, x, r, c, s, p, R, .ref y, rfl, hT, .inl ⟨y, r', S, rfl, hS, ?_⟩⟩
    refine ⟨_, rfl, propRules hT ?_⟩
    obtain ⟨dr, hr'⟩ := hT.rules
    refine ⟨_, rfl, x, dx, _, rfl, h1, getRules hT ⟨r, dr, _, rfl, hr', rf_bags _ _ _, r, c, s, p, rfl, hT.rules, hc, fun H3 lb xs e3 hlb hlx hb => ?_⟩⟩
    refine ⟨lb, rfl, ⟨_, SqL.of hlx⟩, fun D hD => ?_⟩
    have key : LcEnd (Itl K lb) (gName 2) tYes (tTup (tCons (tVar 2) (tCons (tCall (spBoth CR CT) [] E0 (tCons (tVar 0) (tCons (tVar 1) (tCons (tVar 2) tNil)))) tNil))) [2]
        (L2.start ["self", "other", "bag"] [.ref x, .ref y]) H3 D (PairsEnd H3 D c (orR c R S)) := by
      refine lc_pairs walk_list (k := 2) (fun x => rfl) hD hb (Nat.le_trans (len_bags hc) (by decide)) (fun H e => SqL.of (e _ _ hlx)) (ValR (orR c R S)) ?_ (fun H4 ps kvs e h1 h2 h3 h4 => ⟨ps, kvs, e, h1, h2, h3, h4⟩)
      intro i z b H4 Rk hbi hyb e4 ⟨acc, hacc⟩ hRk
      have hbm : b ∈ bagsOf c := List.mem_of_getElem? hbi
      have e34 := e3.trans e4
      refine ⟨_, rfl, _, rfl, _, rfl, _, rfl, x, y, r, r', c, s, p, R, S, z, b, rfl, hT.same e34, hS.same e34, hbm, hyb, fun H5 l ys e5 hl hly hoy => ?_⟩
      refine ⟨(by show 2 ≤ sizeLine; decide), fun pr hpr => ?_⟩
      have e6 : Same H5 (L2.upd H5 pr (.tup [z, .ref l])) := Same.new hpr
      have hD6 := e6 _ _ (e5 _ _ hacc)
      refine hRk _ pr (.ref l) (e5.trans e6) upd_same fun H' eH => ⟨l, rfl, rowX hD6 (e6 _ _ hly) (fun q => by rw [q, hacc] at hl; cases hl) (hoy.tk (Same.tk e6)) H' eH⟩
    refine LcEnd.imp key ?_
    intro H4 hE
    exact PairsEnd.make (K := K) (p := p) (s := s) hc hD hE (hT.rules.same e3) (can_or c R S) fun H' z e hz ht => k H' z (e3.trans e) (e3.free hz) ht
end
end Rt
set_option Elab.async false
set_option linter.all false
set_option maxRecDepth 100000
set_option maxHeartbeats 2000000
namespace Rt
open PySem PySem.Spec PyProof.Rows L2
/-! ### Table.__eq__ -/
def spTEq (K : PySem.W.Frag) (CR CT : Addr) : Sp := fun vs H Q _ => ∃ (x r : Addr) (c : Nat) (s p : Bool) (R : Rw) (v : V), vs = [.ref x, v] ∧ TableAt CR CT H x r c s p R ∧
  ((∃ (y r' : Addr) (S : Rw), v = .ref y ∧ TableAt CR CT H y r' c s p S ∧ EqR' c R S ∧ Q (.bl true) H) ∨ (NoTable K CT H v ∧ Q (.bl false) H))
theorem scTEq : FnScope ["self", "other"] ["self", "other"] (defScope sTEq) := ⟨rfl, rfl, rfl, by decide +kernel, rfl, by decide +kernel, by decide +kernel⟩
theorem RowsK.eqT {K : PySem.W.Frag} {H : Hp} {c : Nat} {d e : Addr} {R S : Rw} {Q : VK} (hc : CapOk c) (h : RowsK H d (bagsOf c) (ValT R)) (g : RowsK H e (bagsOf c) (ValT S)) (hq : EqR' c R S) (q : Q (.bl true) H) : rEqT K (.ref d) (.ref e) H Q := by
  obtain ⟨ks, h1, h2, h3⟩ := h
  obtain ⟨ls, g1, g2, g3⟩ := g
  refine ⟨d, e, ks, ls, rfl, rfl, h1, g1, ?_, fun p hp => ?_, q⟩
  · have z1 := congrArg List.length h2
    have z2 := congrArg List.length g2
    rw [List.length_map, List.length_map] at z1 z2
    omega
  · obtain ⟨j, hj, ej⟩ := List.getElem_of_mem hp
    have hj' : ks[j]? = some p := by rw [← ej]; exact List.getElem?_eq_getElem hj
    have hjb : j < (bagsOf c).length := by
      have z1 := congrArg List.length h2
      rw [List.length_map, List.length_map] at z1
      omega
    have hb : (bagsOf c)[j]? = some (bagsOf c)[j] := List.getElem?_eq_getElem hjb
    have hbm : (bagsOf c)[j] ∈ bagsOf c := List.getElem_mem hjb
    have hv := valV_at h2 (nd_bags hc) hb hj'
    have hk : p.1 = keyOf (bagsOf c)[j] := by
      have z := congrArg (fun l => l[j]?) h2
      simp only [List.getElem?_map, hj', hb, Option.map_some] at z
      exact Option.some.inj z
    obtain ⟨v, z1, a, xs, rfl, z2, z3⟩ := h3 _ hbm
    obtain ⟨u, w1, a', ys, rfl, w2, w3⟩ := g3 _ hbm
    rw [hv] at z1
    have ep : p.2 = .ref a := Option.some.inj z1
    refine ⟨.ref a', .tuple ((R (bagsOf c)[j]).map ocD), .tuple ((S (bagsOf c)[j]).map ocD), by rw [hk]; exact w1, by rw [ep]; exact .tup (SqT.of z2) z3.dp, .tup (SqT.of w2) w3.dp, ocsD_shapedT _, ocsD_shapedT _, ?_⟩
    rw [hq _ hbm]
    exact ocsD_eqvAll _
section
variable {P : Program} {w : World} {K : PySem.W.Frag} {mg : Str → Option Value} {base : Heap} {CR CT CB CM : Addr}
theorem ok_teq (T : Tx K mg CR CT) (D : DefE K CT "Table.__eq__" 23 6) (cE : CalE P w K mg base CR 3 (spREq CR CT)) (p1 : CalP P w K mg base CT 1 "rules" (getSp CT "own_rules")) : CalE P w K mg base CT 4 (spTEq K CR CT) := by
  obtain ⟨f, fd, G, me, bi⟩ := D
  refine ⟨f, fd, G.ok (k := 3) scTEq (fun vs H Q E h => ?_) (fun cdv A outer s H vs Q E hr h => ?_), me, bi⟩
  · obtain ⟨x, r, c, s, p, R, v, rfl, _⟩ := h
    rfl
  · obtain ⟨x, r, c, s, p, R, v, rfl, hT, k⟩ := h
    have hr2 : Room 2 _ := hr.mono (by decide)
    refine ⟨_, (pss_one (ps_ret (pe_and (pe_isC T.fr (pv 1) T.gT) (pe_and (pe_cmpR (op_eqE cE hr) (pe_calP p1 T.clT hr2 (pv 0)) (pe_calP p1 T.clT hr2 (pv 1)) (nomark _)) (pe_one (pe_cmpR (op_eqT (u70 hr)) (pe_fld (pv 0) rfl) (pe_fld (pv 1) rfl) (nomark _))))))), ?_⟩
    rcases k with ⟨y, r', S, rfl, hS, hq, q⟩ | ⟨⟨t, ty, kt⟩, q⟩
    · obtain ⟨dx, d, h1, h2, ⟨dr, h3⟩, hc, h5⟩ := id hT
      obtain ⟨dy, e, g1, g2, ⟨ds, g3⟩, _, g5⟩ := id hS
      refine ⟨_, rfl, _, .ref CT, _, _, true, rfl, .own _, T.tyT g1, T.kTT, true, rfl, ifT rfl ?_⟩
      refine ⟨_, rfl, propRules hT.rd ⟨_, rfl, propRules hS.rd ?_⟩⟩
      refine ⟨r, r', _, _, _, _, rfl, rfl, h3, g3, r, r', c, s, p, rfl, hT.rules, .inl ⟨c, s, p, hS.rules, ?_⟩⟩
      refine ⟨_, rfl, ifT (by simp) ?_⟩
      refine ⟨_, rfl, x, CT, dx, _, _, rfl, h1, T.clT, T.nk, tf_kept _ _, _, rfl, y, CT, dy, _, _, rfl, g1, T.clT, T.nk, tf_kept _ _, ?_⟩
      exact RowsK.eqT hc h2 g2 hq q
    · refine ⟨_, rfl, _, .ref CT, _, _, false, rfl, .own _, ty, kt, false, rfl, ifF rfl q⟩
end
/-! ### within -/
def spWithin (CR CT : Addr) : Sp := fun vs H Q _ => ∃ (x y r r' : Addr) (c : Nat) (s p : Bool) (R S : Rw), vs = [.ref x, .ref y] ∧ TableAt CR CT H x r c s p R ∧ TableRd CR CT H y r' c s p S ∧ (∀ b ∈ bagsOf c, ∀ o ∈ R b, o ∈ S b) ∧ ∀ H', Same H H' → Q (.bl true) H'
theorem scWithin : FnScope ["self", "other", "bag", "outcome"] ["self", "other"] (defScope sWithin) := ⟨rfl, rfl, rfl, by decide +kernel, rfl, by decide +kernel, by decide +kernel⟩
section
variable {P : Program} {w : World} {K : PySem.W.Frag} {mg : Str → Option Value} {base : Heap} {CR CT CB CM : Addr}
theorem ok_within (T : Tx K mg CR CT) (D : DefM K CT "within" "Table.within" 23 4 ["self", "other"]) (cK : Cal P w K mg base (L2.CX P w) 5 "check_like" ["table", "other"] (spLike K CR CT CB))
    (cL : CalM P w K mg base CT 6 "lets" ["self", "bag", "outcome"] (spLets CR CT)) : CalM P w K mg base CT 7 "within" ["self", "other"] (spWithin CR CT) := by
  obtain ⟨f, fd, G, me, bi⟩ := D
  refine ⟨f, fd, G.ok (k := 6) scWithin (fun vs H Q E h => ?_) (fun cdv A outer s H vs Q E hr h => ?_), me, bi⟩
  · obtain ⟨x, y, r, r', c, s, p, R, S, rfl, _⟩ := h
    rfl
  · obtain ⟨x, y, r, r', c, s, p, R, S, rfl, hT, hS, hw, k⟩ := h
    have hr5 : Room 5 _ := hr.mono (by decide)
    refine ⟨_, (pss_cons (ps_expr (pe_cal cK hr5 passL (pa_cons (pv 0) (pa_cons (pv 1) pa_nil)))) (pss_cons (ps_lock (ps_for PassesOwn.never rfl (pi_keys (pe_fld (pv 0) rfl)) (pg_name (i := 2) scWithin.nd rfl (Or.inr rfl)) (pss_one (ps_if (pt_not (pt_val (pe_callB (cr_all rfl) (by rfl) T.fr.all bt_all (pa_cons (by exact (pe_lc (own := [("outcome", 3)]) (g := gName 3) (tt := tYes) (te := tMeth CT "lets" (spLets CR CT) [] E0 (tVar 1) (tCons (tVar 2) (tCons (tVar 3) tNil))) rfl scWithin.nd (pi_tup (pe_dget (hu_of hr) (pe_fld (pv 0) rfl) (pv 2) (fun _ _ => rfl))) (blkOk_by (N := ["self", "other", "bag", "outcome"]) (sc := defScope sWithin) (by decide +kernel)) (fun _ _ _ _ _ => (pg_name (i := 3) scWithin.nd rfl (Or.inl rfl))) (fun _ _ _ _ _ => pts_nil) (fun _ _ _ _ _ => (pe_calM cL T.clT hr (pv 1) (pa_cons (pv 2) (pa_cons (pv 3) pa_nil)))))) pa_nil)))) (pss_one (ps_ret pe_bl)) pss_nil)))) (pss_one (ps_ret pe_bl)))), ?_⟩
    obtain ⟨dx, d, h1, ⟨kvs, hd, hkv, hval⟩, _, hc, hcR⟩ := id hT
    refine ⟨_, rfl, _, rfl, x, r, c, s, p, R, .ref y, rfl, hT.rd, .inl ⟨y, r', S, rfl, hS, ?_⟩⟩
    refine ⟨d, _, hd, True.intro, fun od => ?_⟩
    have hTL := hT.rd.lock (o := od) hd
    have hSL := hS.lock (o := od) hd
    have tkL : Tk H (L2.upd H d (.frz od (.dT kvs))) := Tk.lock hd
    have hdL : L2.upd H d (.frz od (.dT kvs)) d = some (.frz od (.dT kvs)) := upd_same
    have h1L : L2.upd H d (.frz od (.dT kvs)) x = some (.ins CT dx (tf r d)) := by rw [upd_ne (ne_of h1 hd (by intro z; cases z))]; exact h1
    have hun : ∀ H2, Same (L2.upd H d (.frz od (.dT kvs))) H2 → Same H (L2.upd H2 d (.dT kvs)) := fun H2 e => Same.unlock hd e
    generalize L2.upd H d (.frz od (.dT kvs)) = HL at hTL hSL tkL hdL h1L hun ⊢
    refine ⟨_, rfl, x, CT, dx, _, _, rfl, h1L, T.clT, T.nk, tf_kept _ _, d, od, rfl, .inr ⟨kvs, hdL, for_it walk_keysT (fun i σ H' => (∃ v, σ = [some (.ref x), some (.ref y), v, none]) ∧ Same HL H') ⟨⟨none, rfl⟩, Same.refl _⟩ (fun i σ H' _ e => e.2 _ _ hdL) ?_ ?_⟩⟩
    · rintro i z σ H2 H3 hi ⟨⟨v, rfl⟩, e2⟩ ⟨rfl, kk, vv, q, hk, rfl, hq⟩
      have hib : i < (bagsOf c).length := by
        have z1 := congrArg List.length hkv
        rw [List.length_map, List.length_map] at z1
        omega
      have hbb : (bagsOf c)[i]? = some (bagsOf c)[i] := List.getElem?_eq_getElem hib
      generalize (bagsOf c)[i] = b at hbb
      have hbm : b ∈ bagsOf c := List.mem_of_getElem? hbb
      have ekk : kk = keyOf b := by
        have z := congrArg (fun l => l[i]?) hkv
        simp only [List.getElem?_map, hk, hbb, Option.map_some] at z
        exact Option.some.inj z
      subst ekk
      have hqb : IsBag H3 (.ref q) b := ⟨q, rfl, hq⟩
      obtain ⟨u, z1, a, xs, rfl, z2, z3⟩ := hval b hbm
      have z2' := e2 _ _ (tkL _ _ z2)
      have z3' := (z3.tk tkL).tk (Same.tk e2)
      refine ⟨_, rfl, x, CT, dx, _, _, rfl, e2 _ _ h1L, T.clT, T.nk, tf_kept _ _, _, rfl, d, _, rfl, DGet.rdT (.inr ⟨od, e2 _ _ hdL⟩) hq z1, ?_⟩
      refine ⟨a, rfl, ⟨xs, SqT.of z2'⟩, fun D hD => ?_⟩
      have key : LcEnd (Itt K a) (gName 3) tYes (tMeth CT "lets" (spLets CR CT) [] E0 (tVar 1) (tCons (tVar 2) (tCons (tVar 3) tNil))) [3] [some (.ref x), some (.ref y), some (.ref q), none] H3 D
          (fun H4 => Same H3 H4 ∧ ∃ acc, H4 D = some (.lst acc) ∧ ∀ (i : Nat) y, acc[i]? = some y → y = .bl true) := by
        have hl : xs.length = (R b).length := Paired.length z3'
        refine lc_build walk_tup (k := 3) (fun x => rfl) (by rw [hl]; exact Nat.le_trans (hcR.len hc hbm) (by decide)) (fun H' => Same H3 H') (fun _ y _ => y = .bl true) (Same.new hD)
          (fun H' e => SqT.of (e _ _ z2')) (fun H' acc acc' e h => Same.keepD hD e (acc := acc)) (fun _ _ _ _ _ h _ => h) ?_ (fun H2 acc e2 hacc _ hall => ⟨e2, acc, hacc, hall⟩)
        rintro j o' H4 H5 Rk hj e4 ⟨acc, hacc⟩ ⟨rfl, hx⟩ hRk
        obtain ⟨o, hjo, hxo⟩ := Paired.at (z3'.tk (Same.tk e4)) hx
        have hom : o ∈ R b := List.mem_of_getElem? hjo
        have hS5 := (hSL.same e2).same e4
        obtain ⟨dy, dd, kvs', g1, _⟩ := id hS5
        refine ⟨_, rfl, y, dy, _, rfl, g1, tf_lets _ _, _, rfl, _, rfl, y, r', c, s, p, S, _, _, b, o, rfl, hS5, hbm, hqb.tk (Same.tk e4), (hcR b hbm).sub hom, hxo, fun H6 e6 => ?_⟩
        rw [decide_eq_true (hw b hbm o hom)]
        exact hRk _ H6 (e4.trans e6) ((e6 _ _ hacc).trans hacc.symm) rfl fun _ _ z => z
      refine LcEnd.imp key ?_
      rintro H4 ⟨e4, acc, hacc, hall⟩
      refine ⟨D, List.replicate acc.length true, rfl, by rw [← all_true hall]; exact SqL.of hacc, true, ?_, iteF ⟨⟨_, rfl⟩, e2.trans e4⟩⟩
      simp
    · rintro σ H2 ⟨⟨v, rfl⟩, e2⟩
      exact ⟨e2 _ _ hdL, k _ (hun H2 e2)⟩
end
end Rt
set_option Elab.async false
set_option linter.all false
set_option maxRecDepth 100000
set_option maxHeartbeats 2000000
namespace Rt
open PySem PySem.Spec PyProof.Rows L2
abbrev sBehind : Stmt := topS 26
abbrev sThen : Stmt := topS 27
abbrev sSame : Stmt := topS 28
abbrev sNone : Stmt := topS 29
/-! ### behind -/
def spBehind (CR CT : Addr) : Sp := fun vs H Q _ => ∃ (x y r r' : Addr) (c : Nat) (s p : Bool) (R S : Rw) (v : V) (b : Bg), vs = [.ref x, .ref y, v] ∧ TableRd CR CT H x r c s p R ∧ TableRd CR CT H y r' c s p S ∧ b ∈ bagsOf c ∧ IsBag H v b ∧
  ∀ (H' : Hp) (l : Addr) (xs : List V), Same H H' → H l = none → H' l = some (.lst xs) → OcL H' xs (behindL R S b) → Q (.ref l) H'
theorem scBehind : FnScope ["one", "other", "bag", "found", "outcome"] ["one", "other", "bag"] (defScope sBehind) := ⟨rfl, rfl, rfl, by decide +kernel, rfl, by decide +kernel, by decide +kernel⟩
def ends (S : Rw) : Oc → List Oc
  | .star => [.star]
  | .bag x y => S (x, y)
theorem behind_ends (R S : Rw) (b : Bg) : behindL R S b = (R b).flatMap (ends S) := by
  unfold behindL
  congr 1
section
variable {P : Program} {w : World} {K : PySem.W.Frag} {mg : Str → Option Value} {base : Heap} {CR CT CB CM : Addr}
theorem ok_behind (T : Tx K mg CR CT) (D : Def K mg "behind" 26 ["one", "other", "bag"]) (cO : CalM P w K mg base CT 5 "outcomes" ["self", "bag"] (spOuts CR CT)) : Cal P w K mg base CX0 6 "behind" ["one", "other", "bag"] (spBehind CR CT) := by
  obtain ⟨f, fd, G, gl, bi⟩ := D
  obtain ⟨ts, gs⟩ := T.gstar
  refine ⟨f, fd, G.ok (k := 5) scBehind (fun vs H Q E h => ?_) (fun cdv A outer s H vs Q E hr h => ?_), gl, G.kp, bi⟩
  · obtain ⟨x, y, r, r', c, s, p, R, S, v, b, rfl, _⟩ := h
    rfl
  · obtain ⟨x, y, r, r', c, s, p, R, S, v, b, rfl, hT, hS, hb, hv, k⟩ := h
    refine ⟨_, (pss_cons (ps_set (i := 3) scBehind.nd rfl (Or.inl rfl) (pe_lst pa_nil)) (pss_cons (ps_for PassesOwn.never rfl (pi_list (pe_calM cO T.clT hr (pv 0) (pa_cons (pv 2) pa_nil))) (pg_name (i := 4) scBehind.nd rfl (Or.inl rfl)) (pss_one (ps_if (pt_cmpR (op_eqD (u64 hr)) (pv 4) (pe_glob (v := .str "star") rfl gs ⟨_, rfl⟩) (by rfl)) (pss_one (ps_expr (pe_bm PySem.F.plainAttrs_list PySem.F.slot_list_append PySem.F.type_list_append mt_append (pv 3) (pa_cons (pe_glob (v := .str "star") rfl gs ⟨_, rfl⟩) pa_nil)))) (pss_one (ps_expr (pe_bm PySem.F.plainAttrs_list PySem.F.slot_list_extend PySem.F.type_list_extend mt_extend (pv 3) (pa_cons (pe_calM cO T.clT hr (pv 1) (pa_cons (pv 4) pa_nil)) pa_nil))))))) (pss_one (ps_ret (pv 3))))), ?_⟩
    obtain ⟨dx, d, kvs, h1, _, _, _, hc, hcR⟩ := id hT
    refine ⟨(by show 0 ≤ sizeLine; decide), fun l hl => ?_⟩
    have e0 : Same H (L2.upd H l (.lst [])) := Same.new hl
    refine ⟨_, rfl, x, dx, _, rfl, e0 _ _ h1, tf_outs _ _, _, rfl, x, r, c, s, p, R, v, b, rfl, hT.same e0, hb, hv.tk (Same.tk e0), fun H1 lw ws e1 hlw hw ho => ?_⟩
    have e01 := e0.trans e1
    have hl1 : H1 l = some (.lst []) := e1 _ _ upd_same
    have nlw : lw ≠ l := fun z => by rw [z, upd_same] at hlw; cases hlw
    refine ⟨lw, rfl, ⟨_, SqL.of hw⟩, for_list (K := K) (a := lw) (xs := ws) (fun i σ H' => (∃ o : Option V, σ = [some (.ref x), some (.ref y), some v, some (.ref l), o]) ∧ Same H H' ∧ H' lw = some (.lst ws) ∧ OcL H' ws (R b) ∧
      ∃ acc, H' l = some (.lst acc) ∧ OcL H' acc (((R b).take i).flatMap (ends S)) ∧ acc.length ≤ 10 * i) ⟨⟨none, rfl⟩, e01, hw, ho, [], hl1, .nil, Nat.zero_le _⟩ (fun i σ H' _ e => SqL.of e.2.2.1) ?_ ?_⟩
    · rintro i z σ H2 hi ⟨⟨o0, rfl⟩, e2, hw2, ho2, acc, hacc, hoa, hal⟩
      obtain ⟨o, hio, hzo⟩ := Paired.at ho2 hi
      have hom : o ∈ R b := List.mem_of_getElem? hio
      have hi10 : i < 10 := Nat.lt_of_lt_of_le (List.getElem?_eq_some_iff.mp hio).1 (hcR.len hc hb)
      have more : ((R b).take (i + 1)).flatMap (ends S) = ((R b).take i).flatMap (ends S) ++ ends S o := by
        rw [take_more hio, List.flatMap_append]
        simp
      have nk : ∀ {H3 : Hp}, Same H2 H3 → ∀ acc', Same H (L2.upd H3 l (.lst acc')) := fun e acc' b o h => by
        rw [upd_ne (ne_of_none h hl)]
        exact e _ _ (e2 _ _ h)
      refine ⟨_, rfl, ocD o, .str "star", hzo.dp, .str _, ocD_shaped o, (by decide +kernel), _, rfl, ?_⟩
      have eq : PyData.eqv (ocD o) (.str "star") = decide (o = .star) := ocD_eqv o .star
      by_cases hs : o = .star
      · refine ifT (c := PyData.eqv (ocD o) (.str "star")) (by rw [eq]; exact decide_eq_true hs) ?_
        subst hs
        refine ⟨_, rfl, .inl ⟨rfl, _, SqL.of hacc⟩, l, acc, _, rfl, rfl, hacc, Nat.lt_of_le_of_lt (m := 100) (by omega) (by decide), ?_⟩
        refine ⟨⟨_, rfl⟩, nk (Same.refl _) _, by rw [upd_ne nlw]; exact hw2, ho2.tk (Tk.put hacc), _, upd_same, ?_, by rw [List.length_append, List.length_singleton]; omega⟩
        rw [more]
        exact Paired.app (hoa.tk (Tk.put hacc)) (Paired.one (show IsOc _ (.str "star") .star from rfl))
      · refine ifF (c := PyData.eqv (ocD o) (.str "star")) (by rw [eq]; exact decide_eq_false hs) ?_
        obtain ⟨b', rfl, hbm'⟩ : ∃ b', o = ocOf b' ∧ b' ∈ bagsOf c := by
          rcases bag_oc ((hcR b hb).sub hom) with h | ⟨b', h1, h2⟩
          · exact absurd h hs
          · exact ⟨b', h2, h1⟩
        have hS2 := hS.same e2
        obtain ⟨dy, dd, kvs', g1, _, _, _, _, hcS⟩ := id hS2
        refine ⟨_, rfl, .inl ⟨rfl, _, SqL.of hacc⟩, _, rfl, y, dy, _, rfl, g1, tf_outs _ _, _, rfl, y, r', c, s, p, S, z, b', rfl, hS2, hbm', hzo, fun H3 m ms e3 hm hms hom3 => ?_⟩
        have hacc3 := e3 _ _ hacc
        have hSl := hcS.len hc hbm'
        have hml := Paired.length hom3
        refine ⟨l, m, acc, ms, rfl, rfl, hacc3, hms, Nat.le_trans (m := 200) (by omega) (by decide), ?_⟩
        refine ⟨⟨_, rfl⟩, nk e3 _, by rw [upd_ne nlw]; exact e3 _ _ hw2, (ho2.tk (Same.tk e3)).tk (Tk.put hacc3), _, upd_same, ?_, by rw [List.length_append]; omega⟩
        rw [more]
        exact Paired.app ((hoa.tk (Same.tk e3)).tk (Tk.put hacc3)) (hom3.tk (Tk.put hacc3))
    · rintro σ H2 ⟨⟨o0, rfl⟩, e2, hw2, ho2, acc, hacc, hoa, hal⟩
      refine ⟨_, rfl, k H2 l acc e2 hl hacc ?_⟩
      rw [Paired.length ho2, List.take_length] at hoa
      rw [behind_ends]
      exact hoa
end
/-! ### same, none -/
def spMk (K : PySem.W.Frag) (CR CT CB : Addr) (F : Rw) : Sp := fun vs H Q E => ∃ v : V, vs = [v] ∧ ((∃ (r : Addr) (c : Nat) (s p : Bool), v = .ref r ∧ RulesAt CR H r c s p ∧ CapOk c ∧ ∀ H' z, Same H H' → H z = none → TableAt CR CT H' z r c s p F → Q (.ref z) H') ∨
  (NoRules K CR H v ∧ ∀ d, H d = none → E (.ref CB) (some d) (upd H d (.xd [("value", v)]))))
theorem scSame : FnScope ["rules", "bag"] ["rules"] (defScope sSame) := ⟨rfl, rfl, rfl, by decide +kernel, rfl, by decide +kernel, by decide +kernel⟩
theorem scNone : FnScope ["rules", "bag"] ["rules"] (defScope sNone) := ⟨rfl, rfl, rfl, by decide +kernel, rfl, by decide +kernel, by decide +kernel⟩
section
variable {P : Program} {w : World} {K : PySem.W.Frag} {mg : Str → Option Value} {base : Heap} {CR CT CB CM : Addr}
theorem ok_same (T : Tx K mg CR CT) (D : Def K mg "same" 28 ["rules"]) (cR : Cal P w K mg base (L2.CX P w) 3 "check_rules" ["thing"] (spCkRules K CR CB)) (cB : CalM P w K mg base CR 3 "bags" ["self"] (spBags CR))
    (cT : CalI P w K mg base CT 8 "Table" ["self", "rules", "rows"] (spTInit CR CT)) : Cal P w K mg base (L2.CX P w) 10 "same" ["rules"] (spMk K CR CT CB sameR) := by
  obtain ⟨f, fd, G, gl, bi⟩ := D
  refine ⟨f, fd, G.okX (k := 9) scSame (fun vs H Q E h => ?_) (fun cdv A outer s H vs Q E hr h => ?_), gl, G.kp, bi⟩
  · obtain ⟨v, rfl, _⟩ := h
    rfl
  · obtain ⟨v, rfl, k⟩ := h
    have hr3 : Room 3 _ := hr.mono (by decide)
    refine ⟨_, (pss_cons (ps_expr (pe_cal cR hr3 (passes_call (takes_of rfl rfl rfl rfl) (fun _ _ _ _ h => h)) (pa_cons (pv 0) pa_nil))) (pss_one (ps_ret (pe_calI cT hr (pa_cons (pv 0) (pa_cons (pe_callTy (call_dctT rfl hr) (by rfl) T.fr.dict bt_dict (pa_cons (by exact (pe_lc (own := [("bag", 1)]) (g := gName 1) (tt := tYes)  rfl scSame.nd (pi_list (pe_calM0 cB T.clR hr3 (pv 0))) (blkOk_by (N := ["rules", "bag"]) (sc := defScope sSame) (by decide +kernel)) (fun _ _ _ _ _ => (pg_name (i := 1) scSame.nd rfl (Or.inl rfl))) (fun _ _ _ _ _ => pts_nil) (fun _ _ _ _ _ => (pe_tup (pa_cons (pv 1) (pa_cons (pe_lst (pa_cons (pv 1) pa_nil)) pa_nil)))))) pa_nil)) pa_nil)))))), ?_⟩
    rcases k with ⟨r, c, s, p, rfl, hR, hc, k⟩ | ⟨hn, k⟩
    · refine ⟨_, rfl, _, rfl, .inl ⟨r, c, s, p, rfl, hR, ?_⟩⟩
      obtain ⟨dr, hr'⟩ := id hR
      refine ⟨_, rfl, _, rfl, r, dr, _, rfl, hr', rf_bags _ _ _, r, c, s, p, rfl, hR, hc, fun H3 lb xs e3 hlb hlx hb => ?_⟩
      refine ⟨lb, rfl, ⟨_, SqL.of hlx⟩, fun D hD => ?_⟩
      have key : LcEnd (Itl K lb) (gName 1) tYes (tTup (tCons (tVar 1) (tCons (tLst (tCons (tVar 1) tNil)) tNil))) [1] (L2.start ["rules", "bag"] [.ref r]) H3 D (PairsEnd H3 D c sameR) := by
        refine lc_pairs walk_list (k := 1) (fun x => rfl) hD hb (Nat.le_trans (len_bags hc) (by decide)) (fun H e => SqL.of (e _ _ hlx)) (ValR sameR) ?_ (fun H4 ps kvs e h1 h2 h3 h4 => ⟨ps, kvs, e, h1, h2, h3, h4⟩)
        intro i z b H4 Rk hbi hyb e4 ⟨acc, hacc⟩ hRk
        refine ⟨_, rfl, _, rfl, (by show 1 ≤ sizeLine; decide), fun l hl => ⟨(by show 2 ≤ sizeLine; decide), fun pr hpr => ?_⟩⟩
        have e5 : Same H4 (L2.upd H4 l (.lst [z])) := Same.new hl
        have e6 : Same (L2.upd H4 l (.lst [z])) (L2.upd (L2.upd H4 l (.lst [z])) pr (.tup [z, .ref l])) := Same.new hpr
        have hD6 := e6 _ _ (e5 _ _ hacc)
        exact hRk _ pr (.ref l) (e5.trans e6) upd_same fun H' eH => ⟨l, rfl, rowX hD6 (e6 _ _ upd_same) (fun q => by rw [q, hacc] at hl; cases hl) (Paired.one (hyb.oc.tk (Same.tk (e5.trans e6)))) H' eH⟩
      refine LcEnd.imp key ?_
      intro H4 hE
      exact PairsEnd.make (K := K) (p := p) (s := s) hc hD hE (hR.same e3) (can_same hc) fun H' z e hz ht => k H' z (e3.trans e) (e3.free hz) ht
    · exact ⟨_, rfl, _, rfl, .inr ⟨hn, k⟩⟩
theorem ok_none (T : Tx K mg CR CT) (D : Def K mg "none" 29 ["rules"]) (cR : Cal P w K mg base (L2.CX P w) 3 "check_rules" ["thing"] (spCkRules K CR CB)) (cB : CalM P w K mg base CR 3 "bags" ["self"] (spBags CR))
    (cT : CalI P w K mg base CT 8 "Table" ["self", "rules", "rows"] (spTInit CR CT)) : Cal P w K mg base (L2.CX P w) 10 "none" ["rules"] (spMk K CR CT CB noneR) := by
  obtain ⟨f, fd, G, gl, bi⟩ := D
  refine ⟨f, fd, G.okX (k := 9) scNone (fun vs H Q E h => ?_) (fun cdv A outer s H vs Q E hr h => ?_), gl, G.kp, bi⟩
  · obtain ⟨v, rfl, _⟩ := h
    rfl
  · obtain ⟨v, rfl, k⟩ := h
    have hr3 : Room 3 _ := hr.mono (by decide)
    refine ⟨_, (pss_cons (ps_expr (pe_cal cR hr3 (passes_call (takes_of rfl rfl rfl rfl) (fun _ _ _ _ h => h)) (pa_cons (pv 0) pa_nil))) (pss_one (ps_ret (pe_calI cT hr (pa_cons (pv 0) (pa_cons (pe_callTy (call_dctT rfl hr) (by rfl) T.fr.dict bt_dict (pa_cons (by exact (pe_lc (own := [("bag", 1)]) (g := gName 1) (tt := tYes)  rfl scNone.nd (pi_list (pe_calM0 cB T.clR hr3 (pv 0))) (blkOk_by (N := ["rules", "bag"]) (sc := defScope sNone) (by decide +kernel)) (fun _ _ _ _ _ => (pg_name (i := 1) scNone.nd rfl (Or.inl rfl))) (fun _ _ _ _ _ => pts_nil) (fun _ _ _ _ _ => (pe_tup (pa_cons (pv 1) (pa_cons (pe_lst pa_nil) pa_nil)))))) pa_nil)) pa_nil)))))), ?_⟩
    rcases k with ⟨r, c, s, p, rfl, hR, hc, k⟩ | ⟨hn, k⟩
    · refine ⟨_, rfl, _, rfl, .inl ⟨r, c, s, p, rfl, hR, ?_⟩⟩
      obtain ⟨dr, hr'⟩ := id hR
      refine ⟨_, rfl, _, rfl, r, dr, _, rfl, hr', rf_bags _ _ _, r, c, s, p, rfl, hR, hc, fun H3 lb xs e3 hlb hlx hb => ?_⟩
      refine ⟨lb, rfl, ⟨_, SqL.of hlx⟩, fun D hD => ?_⟩
      have key : LcEnd (Itl K lb) (gName 1) tYes (tTup (tCons (tVar 1) (tCons (tLst tNil) tNil))) [1] (L2.start ["rules", "bag"] [.ref r]) H3 D (PairsEnd H3 D c noneR) := by
        refine lc_pairs walk_list (k := 1) (fun x => rfl) hD hb (Nat.le_trans (len_bags hc) (by decide)) (fun H e => SqL.of (e _ _ hlx)) (ValR noneR) ?_ (fun H4 ps kvs e h1 h2 h3 h4 => ⟨ps, kvs, e, h1, h2, h3, h4⟩)
        intro i z b H4 Rk hbi hyb e4 ⟨acc, hacc⟩ hRk
        refine ⟨_, rfl, (by show 0 ≤ sizeLine; decide), fun l hl => ⟨(by show 2 ≤ sizeLine; decide), fun pr hpr => ?_⟩⟩
        have e5 : Same H4 (L2.upd H4 l (.lst [])) := Same.new hl
        have e6 : Same (L2.upd H4 l (.lst [])) (L2.upd (L2.upd H4 l (.lst [])) pr (.tup [z, .ref l])) := Same.new hpr
        have hD6 := e6 _ _ (e5 _ _ hacc)
        exact hRk _ pr (.ref l) (e5.trans e6) upd_same fun H' eH => ⟨l, rfl, rowX hD6 (e6 _ _ upd_same) (fun q => by rw [q, hacc] at hl; cases hl) Paired.nil H' eH⟩
      refine LcEnd.imp key ?_
      intro H4 hE
      exact PairsEnd.make (K := K) (p := p) (s := s) hc hD hE (hR.same e3) (can_none c) fun H' z e hz ht => k H' z (e3.trans e) (e3.free hz) ht
    · exact ⟨_, rfl, _, rfl, .inr ⟨hn, k⟩⟩
end
/-! ### then -/
/-- a thing that is no table of these rules -/
def OddT (K : PySem.W.Frag) (CR CT : Addr) (H : Hp) (c : Nat) (s p : Bool) (v : V) : Prop := NoTable K CT H v ∨ ∃ (y r' : Addr) (c' : Nat) (s' p' : Bool) (S : Rw), v = .ref y ∧ TableRd CR CT H y r' c' s' p' S ∧ ¬ (c' = c ∧ s' = s ∧ p' = p)
def spThen (K : PySem.W.Frag) (CR CT CB : Addr) : Sp := fun vs H Q E => ∃ v w : V, vs = [v, w] ∧
  ((∃ (x y r r' : Addr) (c : Nat) (s p : Bool) (R S : Rw), v = .ref x ∧ w = .ref y ∧ TableRd CR CT H x r c s p R ∧ TableRd CR CT H y r' c s p S ∧ ∀ H' z, Same H H' → H z = none → TableAt CR CT H' z r c s p (thenR c R S) → Q (.ref z) H') ∨
   (NoTable K CT H v ∧ ∀ d, H d = none → E (.ref CB) (some d) (upd H d (.xd [("value", v)]))) ∨
   (∃ (x r : Addr) (c : Nat) (s p : Bool) (R : Rw), v = .ref x ∧ TableRd CR CT H x r c s p R ∧ OddT K CR CT H c s p w ∧ ∀ d, H d = none → E (.ref CB) (some d) (upd H d (.xd [("value", w)]))))
theorem scThen : FnScope ["one", "other", "rules", "bag"] ["one", "other"] (defScope sThen) := ⟨rfl, rfl, rfl, by decide +kernel, rfl, by decide +kernel, by decide +kernel⟩
section
variable {P : Program} {w : World} {K : PySem.W.Frag} {mg : Str → Option Value} {base : Heap} {CR CT CB CM : Addr}
theorem ok_then (T : Tx K mg CR CT) (D : Def K mg "then" 27 ["one", "other"]) (N : Exn P w K mg base "BadTable" CB CM) (cK : Cal P w K mg base (L2.CX P w) 5 "check_like" ["table", "other"] (spLike K CR CT CB)) (cB : CalM P w K mg base CR 3 "bags" ["self"] (spBags CR))
    (cL : Cal P w K mg base CX0 5 "listed" ["rules", "had"] (spListed CR)) (cH : Cal P w K mg base CX0 6 "behind" ["one", "other", "bag"] (spBehind CR CT)) (cT : CalI P w K mg base CT 8 "Table" ["self", "rules", "rows"] (spTInit CR CT))
    (p1 : CalP P w K mg base CT 1 "rules" (getSp CT "own_rules")) : Cal P w K mg base (L2.CX P w) 10 "then" ["one", "other"] (spThen K CR CT CB) := by
  obtain ⟨f, fd, G, gl, bi⟩ := D
  refine ⟨f, fd, G.okX (k := 9) scThen (fun vs H Q E h => ?_) (fun cdv A outer s H vs Q E hr h => ?_), gl, G.kp, bi⟩
  · obtain ⟨v, w', rfl, _⟩ := h
    rfl
  · obtain ⟨v, w', rfl, k⟩ := h
    have hr2 : Room 2 _ := hr.mono (by decide)
    have hr3 : Room 3 _ := hr.mono (by decide)
    have hr5 : Room 5 _ := hr.mono (by decide)
    have hr6 : Room 6 _ := hr.mono (by decide)
    refine ⟨_, (pss_cons (ps_if (pt_not (pt_val (pe_isC T.fr (pv 0) T.gT))) (pss_one (ps_raiseV (i := 0) N rfl hr2 (takes_of rfl rfl rfl rfl) rfl (Or.inr (Or.inl rfl)))) pss_nil) (pss_cons (ps_expr (pe_cal cK hr5 (passes_call (takes_of rfl rfl rfl rfl) (fun _ _ _ _ h => h)) (pa_cons (pv 0) (pa_cons (pv 1) pa_nil)))) (pss_cons (ps_set (i := 2) scThen.nd rfl (Or.inr rfl) (pe_calP p1 T.clT hr2 (pv 0))) (pss_one (ps_ret (pe_calI cT hr (pa_cons (pv 2) (pa_cons (pe_callTy (call_dctT rfl hr) (by rfl) T.fr.dict bt_dict (pa_cons (by exact (pe_lc (own := [("bag", 3)]) (g := gName 3) (tt := tYes)  rfl scThen.nd (pi_list (pe_calM0 cB T.clR hr3 (pv 2))) (blkOk_by (N := ["one", "other", "rules", "bag"]) (sc := defScope sThen) (by decide +kernel)) (fun _ _ _ _ _ => (pg_name (i := 3) scThen.nd rfl (Or.inl rfl))) (fun _ _ _ _ _ => pts_nil) (fun _ _ _ _ _ => (pe_tup (pa_cons (pv 3) (pa_cons (pe_cal cL hr5 pass0 (pa_cons (pv 2) (pa_cons (pe_cal cH hr6 pass0 (pa_cons (pv 0) (pa_cons (pv 1) (pa_cons (pv 3) pa_nil)))) pa_nil))) pa_nil)))))) pa_nil)) pa_nil)))))))), ?_⟩
    rcases k with ⟨x, y, r, r', c, s, p, R, S, rfl, rfl, hT, hS, k⟩ | ⟨⟨t, ty, kt⟩, k⟩ | ⟨x, r, c, s, p, R, rfl, hT, ho, k⟩
    · obtain ⟨dx, d, kvs, h1, _, _, _, hc, hcR⟩ := id hT
      refine ⟨_, rfl, _, .ref CT, _, _, true, rfl, .own _, T.tyT h1, T.kTT, true, rfl, iteF ?_⟩
      refine ⟨_, rfl, _, rfl, x, r, c, s, p, R, .ref y, rfl, hT, .inl ⟨y, r', S, rfl, hS, ?_⟩⟩
      refine ⟨_, rfl, propRules hT ?_⟩
      have hR := hT.rules
      obtain ⟨dr, hr'⟩ := id hR
      refine ⟨_, rfl, _, rfl, r, dr, _, rfl, hr', rf_bags _ _ _, r, c, s, p, rfl, hR, hc, fun H3 lb xs e3 hlb hlx hb => ?_⟩
      refine ⟨lb, rfl, ⟨_, SqL.of hlx⟩, fun D hD => ?_⟩
      have key : LcEnd (Itl K lb) (gName 3) tYes (tTup (tCons (tVar 3) (tCons (tCall (spListed CR) [] E0 (tCons (tVar 2) (tCons (tCall (spBehind CR CT) [] E0 (tCons (tVar 0) (tCons (tVar 1) (tCons (tVar 3) tNil)))) tNil))) tNil))) [3]
          [some (.ref x), some (.ref y), some (.ref r), none] H3 D (PairsEnd H3 D c (thenR c R S)) := by
        refine lc_pairs walk_list (k := 3) (fun x => rfl) hD hb (Nat.le_trans (len_bags hc) (by decide)) (fun H e => SqL.of (e _ _ hlx)) (ValR (thenR c R S)) ?_ (fun H4 ps kvs e h1 h2 h3 h4 => ⟨ps, kvs, e, h1, h2, h3, h4⟩)
        intro i z b H4 Rk hbi hyb e4 ⟨acc, hacc⟩ hRk
        have hbm : b ∈ bagsOf c := List.mem_of_getElem? hbi
        have e34 := e3.trans e4
        refine ⟨_, rfl, _, rfl, _, rfl, _, rfl, _, rfl, x, y, r, r', c, s, p, R, S, z, b, rfl, hT.same e34, hS.same e34, hbm, hyb, fun H5 m ms e5 hm hms hom => ?_⟩
        refine ⟨r, m, c, s, p, behindL R S b, rfl, (hR.same e34).same e5, hc, ⟨ms, .inl hms, hom⟩, fun H6 l ys e6 hl hly hoy => ?_⟩
        refine ⟨(by show 2 ≤ sizeLine; decide), fun pr hpr => ?_⟩
        have e7 : Same H6 (L2.upd H6 pr (.tup [z, .ref l])) := Same.new hpr
        have hacc5 := e5 _ _ hacc
        have hD6 := e7 _ _ (e6 _ _ hacc5)
        exact hRk _ pr (.ref l) ((e5.trans e6).trans e7) upd_same fun H' eH => ⟨l, rfl, rowX hD6 (e7 _ _ hly) (fun q => by rw [q, hacc5] at hl; cases hl) (hoy.tk (Same.tk e7)) H' eH⟩
      refine LcEnd.imp key ?_
      intro H4 hE
      exact PairsEnd.make (K := K) (p := p) (s := s) hc hD hE (hR.same e3) (can_then c R S) fun H' z e hz ht => k H' z (e3.trans e) (e3.free hz) ht
    · refine ⟨_, rfl, _, .ref CT, _, _, false, rfl, .own _, ty, kt, false, rfl, iteT ⟨_, rfl, fun d hd => k d hd⟩⟩
    · obtain ⟨dx, d, kvs, h1, _⟩ := id hT
      refine ⟨_, rfl, _, .ref CT, _, _, true, rfl, .own _, T.tyT h1, T.kTT, true, rfl, iteF ?_⟩
      exact ⟨_, rfl, _, rfl, x, r, c, s, p, R, w', rfl, hT, .inr ⟨ho, k⟩⟩
end
end Rt
set_option Elab.async false
set_option linter.all false
set_option maxRecDepth 100000
set_option maxHeartbeats 2000000
namespace Rt
open PySem PySem.Spec PyProof.Rows L2
/-! ### the law's stream -/
abbrev sStream : Stmt := topS 31
abbrev sDraw : Stmt := topS 32
/-- a stream stands at l: three whole numbers -/
def StreamAt (H : Hp) (l : Addr) : Prop := ∃ a b c : Int, H l = some (.lst [.int a, .int b, .int c])
theorem StreamAt.same {H H' : Hp} {l : Addr} (h : StreamAt H l) (e : Same H H') : StreamAt H' l := by
  obtain ⟨a, b, c, h⟩ := h
  exact ⟨a, b, c, e _ _ h⟩
/-- new things and a stream further on -/
def spStream (K : PySem.W.Frag) : Sp := fun vs H Q _ => ∃ (a : Addr) (ns : List Int) (k : Nat), vs = [.ref a, .int k] ∧ SqL K H a (ns.map V.int) ∧ ∀ H' l, Same H H' → H l = none → StreamAt H' l → Q (.ref l) H'
def spDraw : Sp := fun vs H Q _ => ∃ (l : Addr) (m : Int), vs = [.ref l, .int m] ∧ StreamAt H l ∧ 0 < m ∧ m < 1073741824 ∧ ∀ H' d, SameX l H H' → StreamAt H' l → 0 ≤ d → d < m → Q (.int d) H'
theorem scStream : FnScope ["_law_script", "_law_k", "_law_cell"] ["_law_script", "_law_k"] (defScope sStream) := ⟨rfl, rfl, rfl, by decide +kernel, rfl, by decide +kernel, by decide +kernel⟩
theorem scDraw : FnScope ["_law_stream_here", "_law_many", "_law_digit", "_law_mixed"] ["_law_stream_here", "_law_many"] (defScope sDraw) := ⟨rfl, rfl, rfl, by decide +kernel, rfl, by decide +kernel, by decide +kernel⟩
theorem cutV_ints (ns : List Int) (lo hi : Option Int) : ∃ ms : List Int, cutV (ns.map V.int) lo hi = ms.map V.int := by
  unfold cutV
  rw [← List.map_drop, ← List.map_take]
  exact ⟨_, rfl⟩
theorem mul_l {i j : Int} (h1 : -(2 ^ 64) < i) (h2 : i < 2 ^ 64) : CMul i j := .inl ⟨h1, h2⟩
theorem mul_r {i j : Int} (h1 : -(2 ^ 64) < j) (h2 : j < 2 ^ 64) : CMul i j := .inr ⟨h1, h2⟩
theorem and_step {c1 c2 : Bool} {Z X Y : Prop} (h : (if c2 = true then X else Y) → Z) (hx : X) (hy : Y) : if c1 = true then Z else (if false = true then X else Y) := by
  cases c1
  · rw [if_neg Bool.false_ne_true, if_neg Bool.false_ne_true]
    exact hy
  · rw [if_pos rfl]
    refine h ?_
    cases c2
    · rw [if_neg Bool.false_ne_true]
      exact hy
    · rw [if_pos rfl]
      exact hx
section
variable {P : Program} {w : World} {K : PySem.W.Frag} {mg : Str → Option Value} {base : Heap} {CR CT CB CM : Addr}
theorem ok_stream (T : Tx K mg CR CT) (D : Def K mg "_law_stream" 31 ["_law_script", "_law_k"]) : Cal P w K mg base CX0 1 "_law_stream" ["_law_script", "_law_k"] (spStream K) := by
  obtain ⟨f, fd, G, gl, bi⟩ := D
  refine ⟨f, fd, G.ok (k := 0) scStream (fun vs H Q E h => ?_) (fun cdv A outer s H vs Q E hr h => ?_), gl, G.kp, bi⟩
  · obtain ⟨a, ns, k, rfl, _⟩ := h
    rfl
  · obtain ⟨a, ns, k, rfl, hs, kk⟩ := h
    refine ⟨_, (pss_cons (ps_set (i := 2) scStream.nd rfl (Or.inl rfl) (pe_op op_mod (pe_callTy call_int1 (by rfl) T.fr.int bt_int (pa_cons (pe_callB (cr_sum rfl) (by rfl) T.fr.sum bt_sum (pa_cons (pe_slice sl_list (pv 0) po_none (po_some pe_int)) pa_nil)) pa_nil)) pe_int)) (pss_cons (ps_if (pt_cmpR op_lt (pv 1) (pe_callB call_len_seq (by rfl) T.fr.len bt_len (pa_cons (pv 0) pa_nil)) (nomark _)) (pss_one (ps_set (i := 2) scStream.nd rfl (Or.inl rfl) (pe_callB call_abs (by rfl) T.fr.abs bt_abs (pa_cons (pe_ix ix_list (pv 0) (pv 1) (fun _ _ => rfl)) pa_nil)))) pss_nil) (pss_one (ps_ret (pe_lst (pa_cons (pv 2) (pa_cons (pe_callTy call_int1 (by rfl) T.fr.int bt_int (pa_cons (pe_cmpR op_ge (pv 2) (pe_op op_pow pe_int pe_int) (nomark _)) pa_nil)) (pa_cons (pe_op op_mul pe_int (pv 1)) pa_nil)))))))), ?_⟩
    refine ⟨_, rfl, 1, rfl, a, _, rfl, hs, fun p hp => ?_⟩
    obtain ⟨ms, hms⟩ := cutV_ints ns none (some 1)
    rw [hms]
    have e1 : Same H (L2.upd H p (.lst (ms.map V.int))) := Same.new hp
    refine ⟨p, ms, rfl, SqL.of upd_same, .inl ⟨_, rfl, _, _, rfl, rfl, (by show (0 : Int) < 1000003; decide), ?_⟩⟩
    have hs1 : SqL K (L2.upd H p (.lst (ms.map V.int))) a (ns.map V.int) := SqL.ext hs e1
    have fin : ∀ cell : Int, (tRet (tLst (tCons (tVar 2) (tCons (tCB (fun xs H Q => (∃ i, xs = [V.int i] ∧ Q (.int i) H) ∨ ∃ k, xs = [V.bl k] ∧ Q (.int (if k then 1 else 0)) H) (tCons (tOp (rI0 fun i j => .bl (decide (j ≤ i))) (tVar 2) (tOp (rI CPow fun i j => .int (i ^ j.toNat)) (tC (.int 10)) (tC (.int 18)))) tNil))
        (tCons (tOp (rI CMul fun i j => .int (i * j)) (tC (.int 1000)) (tVar 1)) tNil)))) { nx := fun _ H' => Q .non H', rt := Q }) [some (.ref a), some (.int k), some (.int cell)] (L2.upd H p (.lst (ms.map V.int))) := by
      intro cell
      refine ⟨_, rfl, _, rfl, _, _, rfl, rfl, ⟨by decide, by decide, by decide⟩, _, _, rfl, rfl, .inr ⟨_, rfl, _, rfl, _, _, rfl, rfl, mul_l (by decide) (by decide), (by show 3 ≤ sizeLine; decide), fun l hl => ?_⟩⟩
      exact kk _ l (e1.trans (Same.new hl)) (e1.free hl) ⟨_, _, _, upd_same⟩
    refine ⟨_, rfl, _, rfl, a, _, rfl, .inl hs1, _, _, rfl, rfl, _, rfl, ?_⟩
    by_cases hk : (k : Int) < ((ns.map V.int).length : Int)
    · refine ifT (decide_eq_true hk) ?_
      have hkn : k < ns.length := by
        rw [List.length_map] at hk
        omega
      refine ⟨_, rfl, _, rfl, a, _, _, _, rfl, rfl, hs1, atI_nat (j := k) (by rw [List.getElem?_map, List.getElem?_eq_getElem hkn]; rfl), _, rfl, fin _⟩
    · exact ifF (decide_eq_false hk) (fin _)
theorem ok_draw (T : Tx K mg CR CT) (D : Def K mg "_law_draw" 32 ["_law_stream_here", "_law_many"]) : Cal P w K mg base CX0 1 "_law_draw" ["_law_stream_here", "_law_many"] spDraw := by
  obtain ⟨f, fd, G, gl, bi⟩ := D
  refine ⟨f, fd, G.ok (k := 0) scDraw (fun vs H Q E h => ?_) (fun cdv A outer s H vs Q E hr h => ?_), gl, G.kp, bi⟩
  · obtain ⟨l, m, rfl, _⟩ := h
    rfl
  · obtain ⟨l, m, rfl, ⟨a, b, c, hl⟩, m0, m1, k⟩ := h
    refine ⟨_, (pss_cons (ps_asg (pe_op op_add (pe_ix ix_list (pv 0) pe_int (fun _ _ => rfl)) pe_int) (pg_sub (pv 0) pe_int set_list)) (pss_cons (ps_if (PW.pt (pw_and (pt_cmpR op_eq (pe_ix ix_list (pv 0) pe_int (fun _ _ => rfl)) pe_int (nomark _)) (pw_and1 (pt_cmpR op_gt (pe_ix ix_list (pv 0) pe_int (fun _ _ => rfl)) pe_int (nomark _))))) (pss_cons (ps_set (i := 2) scDraw.nd rfl (Or.inl rfl) (pe_op op_mod (pe_callTy call_int1 (by rfl) T.fr.int bt_int (pa_cons (pe_ix ix_list (pv 0) pe_int (fun _ _ => rfl)) pa_nil)) (pv 1))) (pss_cons (ps_asg (pe_op op_fdiv (pe_callTy call_int1 (by rfl) T.fr.int bt_int (pa_cons (pe_ix ix_list (pv 0) pe_int (fun _ _ => rfl)) pa_nil)) (pv 1)) (pg_sub (pv 0) pe_int set_list)) (pss_one (ps_ret (pv 2))))) pss_nil) (pss_cons (ps_set (i := 3) scDraw.nd rfl (Or.inl rfl) (pe_op op_mod (pe_callTy call_int1 (by rfl) T.fr.int bt_int (pa_cons (pe_op op_mul (pe_op op_add (pe_op op_add (pe_ix ix_list (pv 0) pe_int (fun _ _ => rfl)) (pe_op op_mul pe_int (pe_ix ix_list (pv 0) pe_int (fun _ _ => rfl)))) pe_int) pe_int) pa_nil)) pe_int)) (pss_cons (ps_set (i := 3) scDraw.nd rfl (Or.inl rfl) (pe_op op_mod (pe_callTy call_int1 (by rfl) T.fr.int bt_int (pa_cons (pe_op op_mul (pv 3) (pe_op op_add (pe_op op_fdiv (pv 3) pe_int) pe_int)) pa_nil)) pe_int)) (pss_cons (ps_set (i := 3) scDraw.nd rfl (Or.inl rfl) (pe_op op_mod (pe_callTy call_int1 (by rfl) T.fr.int bt_int (pa_cons (pe_op op_mul (pv 3) (pe_op op_add (pe_op op_fdiv (pv 3) pe_int) pe_int)) pa_nil)) pe_int)) (pss_one (ps_ret (pe_op op_mod (pe_callTy call_int1 (by rfl) T.fr.int bt_int (pa_cons (pe_op op_fdiv (pv 3) pe_int) pa_nil)) (pv 1))))))))), ?_⟩
    refine ⟨_, rfl, l, _, 2, _, rfl, rfl, SqL.of hl, rfl, _, _, rfl, rfl, _, rfl, l, _, 2, 2, rfl, rfl, hl, rfl, ?_⟩
    have e1 : SameX l H (L2.upd H l (.lst [.int a, .int b, .int (c + 1)])) := SameX.upd
    have h1 : L2.upd H l (.lst [.int a, .int b, .int (c + 1)]) l = some (.lst [.int a, .int b, .int (c + 1)]) := upd_same
    have go : L2.upd H l (.lst ([V.int a, .int b, .int c].set 2 (.int (c + 1)))) = L2.upd H l (.lst [.int a, .int b, .int (c + 1)]) := rfl
    rw [go]
    generalize L2.upd H l (.lst [.int a, .int b, .int (c + 1)]) = H1 at e1 h1 ⊢
    clear go
    refine ⟨_, rfl, l, _, 1, _, rfl, rfl, SqL.of h1, rfl, rfl, _, rfl, ?_⟩
    refine and_step (fun h => ⟨_, rfl, l, _, 0, _, rfl, rfl, SqL.of h1, rfl, _, _, rfl, rfl, _, rfl, h⟩) ?_ ?_
    · refine ⟨_, rfl, l, _, 0, _, rfl, rfl, SqL.of h1, rfl, .inl ⟨_, rfl, _, rfl, _, _, rfl, rfl, m0, ?_⟩⟩
      refine ⟨_, rfl, l, _, 0, _, rfl, rfl, SqL.of h1, rfl, .inl ⟨_, rfl, _, rfl, _, _, rfl, rfl, ⟨m0, m1⟩, ?_⟩⟩
      refine ⟨_, rfl, l, _, 0, 0, rfl, rfl, h1, rfl, ?_⟩
      exact ⟨_, rfl, k _ _ (SameX.trans e1 SameX.upd) ⟨_, _, _, upd_same⟩ (Int.emod_nonneg _ (by omega)) (Int.emod_lt_of_pos _ m0)⟩
    · refine ⟨_, rfl, l, _, 0, _, rfl, rfl, SqL.of h1, rfl, _, rfl, l, _, 2, _, rfl, rfl, SqL.of h1, rfl, _, _, rfl, rfl, mul_l (by decide) (by decide), _, _, rfl, rfl, _, _, rfl, rfl, _, _, rfl, rfl, mul_r (by decide) (by decide), .inl ⟨_, rfl, _, _, rfl, rfl, (by show (0 : Int) < 2147483647; decide), ?_⟩⟩
      have small : ∀ z : Int, -(2 ^ 64) < z % 2147483647 ∧ z % 2147483647 < 2 ^ 64 := fun z => by
        have z1 := Int.emod_nonneg z (b := 2147483647) (by decide)
        have z2 := Int.emod_lt_of_pos z (b := 2147483647) (by decide)
        omega
      refine ⟨_, rfl, _, rfl, _, _, rfl, rfl, ⟨by decide, by decide⟩, _, _, rfl, rfl, _, _, rfl, rfl, mul_l (small _).1 (small _).2, .inl ⟨_, rfl, _, _, rfl, rfl, (by show (0 : Int) < 2147483647; decide), ?_⟩⟩
      refine ⟨_, rfl, _, rfl, _, _, rfl, rfl, ⟨by decide, by decide⟩, _, _, rfl, rfl, _, _, rfl, rfl, mul_l (small _).1 (small _).2, .inl ⟨_, rfl, _, _, rfl, rfl, (by show (0 : Int) < 2147483399; decide), ?_⟩⟩
      refine ⟨_, rfl, _, _, rfl, rfl, ⟨by decide, by decide⟩, .inl ⟨_, rfl, _, rfl, _, _, rfl, rfl, m0, ?_⟩⟩
      exact k _ _ e1 ⟨_, _, _, h1⟩ (Int.emod_nonneg _ (by omega)) (Int.emod_lt_of_pos _ m0)
end
end Rt
set_option Elab.async false
set_option linter.all false
set_option maxRecDepth 100000
set_option maxHeartbeats 2000000
namespace Rt
open PySem PySem.Spec PyProof.Rows L2
/-! ### the law's bags, outcomes, rules -/
abbrev sLBags : Stmt := topS 33
abbrev sLOrd : Stmt := topS 34
abbrev sLRules : Stmt := topS 35
abbrev sLDrawn : Stmt := topS 36
/-- the law's own three: the cap and the two flags -/
def TripAt (H : Hp) (t : Addr) (c : Nat) (s p : Bool) : Prop := H t = some (.tup [.int c, .bl s, .bl p])
def spLBags : Sp := fun vs H Q _ => ∃ (t : Addr) (c : Nat) (s p : Bool), vs = [.ref t] ∧ TripAt H t c s p ∧ CapOk c ∧ ∀ (H' : Hp) (l : Addr) (xs : List V), Same H H' → H l = none → H' l = some (.lst xs) → BgL H' xs (bagsOf c) → Q (.ref l) H'
def spLOrd : Sp := fun vs H Q _ => ∃ (t a : Addr) (c : Nat) (s p : Bool) (os : List Oc), vs = [.ref t, .ref a] ∧ TripAt H t c s p ∧ CapOk c ∧ RowAt H a os ∧
  ∀ (H' : Hp) (l : Addr) (xs : List V), Same H H' → H l = none → H' l = some (.lst xs) → OcL H' xs (lst c os) → Q (.ref l) H'
def spLRules (CR : Addr) : Sp := fun vs H Q _ => ∃ (t : Addr) (c : Nat) (s p : Bool), vs = [.ref t] ∧ TripAt H t c s p ∧ CapOk c ∧ ∀ H' r, Same H H' → H r = none → RulesAt CR H' r c s p → Q (.ref r) H'
def spLDrawn : Sp := fun vs H Q _ => ∃ (l : Addr), vs = [.ref l] ∧ StreamAt H l ∧ ∀ H' t c s p, SameX l H H' → StreamAt H' l → H t = none → TripAt H' t c s p → CapOk c → Q (.ref t) H'
theorem scLBags : FnScope ["_law_rules_here", "_law_found", "_law_a", "_law_b"] ["_law_rules_here"] (defScope sLBags) := ⟨rfl, rfl, rfl, by decide +kernel, rfl, by decide +kernel, by decide +kernel⟩
theorem scLOrd : FnScope ["_law_rules_here", "_law_outcomes", "_law_outcome"] ["_law_rules_here", "_law_outcomes"] (defScope sLOrd) := ⟨rfl, rfl, rfl, by decide +kernel, rfl, by decide +kernel, by decide +kernel⟩
theorem scLRules : FnScope ["_law_rules_here"] ["_law_rules_here"] (defScope sLRules) := ⟨rfl, rfl, rfl, by decide +kernel, rfl, by decide +kernel, by decide +kernel⟩
theorem scLDrawn : FnScope ["_law_stream_here"] ["_law_stream_here"] (defScope sLDrawn) := ⟨rfl, rfl, rfl, by decide +kernel, rfl, by decide +kernel, by decide +kernel⟩
/-- the bags (a, 0), (a, 1), .. -/
def rowOf (c : Nat) (a : Int) : List Bg := (nums c).map fun b => (a, b)
theorem nums_at {c i : Nat} (h : i < c + 1) : (nums c)[i]? = some (i : Int) := by
  unfold nums
  rw [List.getElem?_map, List.getElem?_range h]
  rfl
theorem nums_len (c : Nat) : (nums c).length = c + 1 := by
  unfold nums
  rw [List.length_map, List.length_range]
section
variable {P : Program} {w : World} {K : PySem.W.Frag} {mg : Str → Option Value} {base : Heap} {CR CT CB CM : Addr}
theorem ok_lbags (T : Tx K mg CR CT) (D : Def K mg "_law_bags" 33 ["_law_rules_here"]) : Cal P w K mg base CX0 1 "_law_bags" ["_law_rules_here"] spLBags := by
  obtain ⟨f, fd, G, gl, bi⟩ := D
  refine ⟨f, fd, G.ok (k := 0) scLBags (fun vs H Q E h => ?_) (fun cdv A outer s H vs Q E hr h => ?_), gl, G.kp, bi⟩
  · obtain ⟨t, c, s, p, rfl, _⟩ := h
    rfl
  · obtain ⟨t, c, s, p, rfl, ht, hc, k⟩ := h
    refine ⟨_, (pss_cons (ps_set (i := 1) scLBags.nd rfl (Or.inl rfl) (pe_lst pa_nil)) (pss_cons (ps_for PassesOwn.never rfl (pi_range1 rfl T.fr.range (pa_cons (pe_op op_add (pe_ix ix_tup (pv 0) pe_int (fun _ _ => rfl)) pe_int) pa_nil)) (pg_name (i := 2) scLBags.nd rfl (Or.inr rfl)) (pss_one (ps_expr (pe_bm PySem.F.plainAttrs_list PySem.F.slot_list_extend PySem.F.type_list_extend mt_extend (pv 1) (pa_cons (by exact (pe_lc (own := [("_law_b", 3)]) (g := gName 3) (tt := tYes)  rfl scLBags.nd (pi_range1 rfl T.fr.range (pa_cons (pe_op op_add (pe_ix ix_tup (pv 0) pe_int (fun _ _ => rfl)) pe_int) pa_nil)) (blkOk_by (N := ["_law_rules_here", "_law_found", "_law_a", "_law_b"]) (sc := defScope sLBags) (by decide +kernel)) (fun _ _ _ _ _ => (pg_name (i := 3) scLBags.nd rfl (Or.inl rfl))) (fun _ _ _ _ _ => pts_nil) (fun _ _ _ _ _ => (pe_tup (pa_cons (pv 2) (pa_cons (pv 3) pa_nil)))))) pa_nil))))) (pss_one (ps_ret (pv 1))))), ?_⟩
    have hc2 : c ≤ 2 := by rcases hc with rfl | rfl <;> decide
    have hn : ((c : Int) + 1).toNat = c + 1 := by omega
    refine ⟨(by show 0 ≤ sizeLine; decide), fun l hl => ?_⟩
    have e0 : Same H (L2.upd H l (.lst [])) := Same.new hl
    refine ⟨_, rfl, t, _, 0, _, rfl, rfl, SqT.of (e0 _ _ ht), rfl, _, _, rfl, rfl, _, rfl, by omega, by omega, ?_⟩
    refine for_range (lo := 0) (fun i σ H' => (∃ v : Option V, σ = [some (.ref t), some (.ref l), v, none]) ∧ Same H H' ∧ ∃ acc, H' l = some (.lst acc) ∧ BgL H' acc (((nums c).take i).flatMap (rowOf c)) ∧ acc.length = (c + 1) * i)
      ⟨⟨none, rfl⟩, e0, [], upd_same, .nil, by simp⟩ ?_ ?_
    · rintro i σ H1 hi ⟨⟨v, rfl⟩, e1, acc, hacc, hb, hal⟩
      rw [hn] at hi
      refine ⟨_, rfl, .inl ⟨rfl, _, SqL.of hacc⟩, _, rfl, t, _, 0, _, rfl, rfl, SqT.of (e1 _ _ ht), rfl, _, _, rfl, rfl, _, rfl, by omega, by omega, fun D hD => ?_⟩
      have key : LcEnd (Itr 0 ((c : Int) + 1).toNat) (gName 3) tYes (tTup (tCons (tVar 2) (tCons (tVar 3) tNil))) [3] [some (.ref t), some (.ref l), some (.int (0 + (i : Int))), none] H1 D
          (fun H2 => Same H1 H2 ∧ ∃ ys, H2 D = some (.lst ys) ∧ BgL H2 ys (rowOf c (i : Int))) := by
        refine lc_it walk_range (fun j H2 => Same H1 H2 ∧ ∃ ys, H2 D = some (.lst ys) ∧ BgL H2 ys (((nums c).take j).map fun b => ((i : Int), b))) ⟨Same.new hD, [], upd_same, .nil⟩ (fun _ _ _ _ => True.intro) ?_ ?_
        · rintro j x H2 H3 hj ⟨e2, ys, hys, hby⟩ ⟨rfl, rfl⟩
          rw [hn] at hj
          refine ⟨rfl, _, rfl, _, rfl, (by show 2 ≤ sizeLine; decide), fun q hq => ?_⟩
          have nqD : D ≠ q := ne_of_none hys hq
          have e3 : Same H3 (L2.upd H3 q (.tup [.int (0 + (i : Int)), .int (0 + (j : Int))])) := Same.new hq
          refine ⟨ys, e3 _ _ hys, ?_, fun b o h => by rw [upd_ne (ne_of_none h hD)]; exact e3 _ _ (e2 _ _ h), _, upd_same, ?_⟩
          · rw [Paired.length hby, List.length_map, List.length_take, nums_len]
            exact Nat.lt_of_le_of_lt (m := 100) (by omega) (by decide)
          · have tk : Tk (L2.upd H3 q (.tup [.int (0 + (i : Int)), .int (0 + (j : Int))])) (L2.upd (L2.upd H3 q (.tup [.int (0 + (i : Int)), .int (0 + (j : Int))])) D (.lst (ys ++ [.ref q]))) := Tk.put (e3 _ _ hys)
            rw [take_more (nums_at hj), List.map_append]
            refine Paired.app ((hby.tk (Same.tk e3)).tk tk) (Paired.one ⟨q, rfl, ?_⟩)
            rw [upd_ne nqD.symm, upd_same]
            simp only [Int.zero_add]
        · rintro H2 ⟨e2, ys, hys, hby⟩
          rw [hn, ← nums_len c, List.take_length] at hby
          exact ⟨e2, ys, hys, hby⟩
      refine LcEnd.imp key ?_
      rintro H2 ⟨e2, ys, hys, hby⟩
      have hacc2 := e2 _ _ hacc
      have hyl := Paired.length hby
      rw [rowOf, List.length_map, nums_len] at hyl
      have hi9 : (c + 1) * i ≤ 9 := Nat.le_trans (Nat.mul_le_mul (by omega : c + 1 ≤ 3) (by omega : i ≤ 3)) (by decide)
      refine ⟨l, D, acc, ys, rfl, rfl, hacc2, hys, Nat.le_trans (m := 20) (by omega) (by decide), ⟨_, rfl⟩, fun b o h => by rw [upd_ne (ne_of_none h hl)]; exact e2 _ _ (e1 _ _ h), _, upd_same, ?_, by rw [List.length_append, Nat.mul_add]; omega⟩
      rw [take_more (nums_at hi), List.flatMap_append]
      have tk : Tk H2 (L2.upd H2 l (.lst (acc ++ ys))) := Tk.put hacc2
      have z := Paired.app ((hb.tk (Same.tk e2)).tk tk) (hby.tk tk)
      simpa using z
    · rintro σ H1 ⟨⟨v, rfl⟩, e1, acc, hacc, hb, hal⟩
      rw [hn, ← nums_len c, List.take_length] at hb
      exact ⟨_, rfl, k H1 l acc e1 hl hacc hb⟩
theorem ok_lord (T : Tx K mg CR CT) (D : Def K mg "_law_in_order" 34 ["_law_rules_here", "_law_outcomes"]) (c1 : Cal P w K mg base CX0 1 "_law_bags" ["_law_rules_here"] spLBags) : Cal P w K mg base CX0 2 "_law_in_order" ["_law_rules_here", "_law_outcomes"] spLOrd := by
  obtain ⟨f, fd, G, gl, bi⟩ := D
  refine ⟨f, fd, G.ok (k := 1) scLOrd (fun vs H Q E h => ?_) (fun cdv A outer s H vs Q E hr h => ?_), gl, G.kp, bi⟩
  · obtain ⟨t, a, c, s, p, os, rfl, _⟩ := h
    rfl
  · obtain ⟨t, a, c, s, p, os, rfl, ht, hc, hrow, k⟩ := h
    refine ⟨_, (pss_one (ps_ret (by exact (pe_lc (own := [("_law_outcome", 2)]) (g := gName 2) (tt := tTest (tOp rInOc (tVar 2) (tVar 1)))  rfl scLOrd.nd (pi_list (pe_op op_cat (pe_cal c1 hr pass0 (pa_cons (pv 0) pa_nil)) (pe_lst (pa_cons pe_str pa_nil)))) (blkOk_by (N := ["_law_rules_here", "_law_outcomes", "_law_outcome"]) (sc := defScope sLOrd) (by decide +kernel)) (fun _ _ _ _ _ => (pg_name (i := 2) scLOrd.nd rfl (Or.inl rfl))) (fun _ _ _ _ _ => (pts_one (pt_cmpR (op_inOc (u65 hr)) (pv 2) (pv 1) (by rfl)))) (fun _ _ _ _ _ => (pv 2)))))), ?_⟩
    refine ⟨_, rfl, t, c, s, p, rfl, ht, hc, fun H1 l xs e1 hl hx hb => ?_⟩
    refine ⟨(by show 1 ≤ sizeLine; decide), fun m hm => ?_⟩
    have nlm : l ≠ m := ne_of_none hx hm
    have hlen := len_bags hc
    refine ⟨l, m, xs, [.str "star"], rfl, rfl, by rw [upd_ne nlm]; exact hx, upd_same, ?_, fun q hq => ?_⟩
    · rw [Paired.length hb]
      show _ + 1 ≤ sizeLine
      exact Nat.le_trans (by omega : _ ≤ 10) (by decide)
    have e2 : Same H1 (L2.upd (L2.upd H1 m (.lst [.str "star"])) q (.lst (xs ++ [.str "star"]))) := (Same.new hm).trans (Same.new hq)
    have hq2 : (L2.upd (L2.upd H1 m (.lst [.str "star"])) q (.lst (xs ++ [.str "star"]))) q = some (.lst (xs ++ [.str "star"])) := upd_same
    have ho : OcL (L2.upd (L2.upd H1 m (.lst [.str "star"])) q (.lst (xs ++ [.str "star"]))) (xs ++ [.str "star"]) (ocs c) := Paired.app ((BgL.oc hb).tk (Same.tk e2)) (Paired.one (show IsOc _ (.str "star") .star from rfl))
    generalize L2.upd (L2.upd H1 m (.lst [.str "star"])) q (.lst (xs ++ [.str "star"])) = H2 at e2 hq2 ho ⊢
    have e12 := e1.trans e2
    refine ⟨q, rfl, ⟨_, SqL.of hq2⟩, fun D hD => ?_⟩
    refine lc_pick walk_list (k := 2) (q := fun o => decide (o ∈ os)) (fun x => rfl) (fun x => rfl) hD (Nat.le_trans (len_ocs hc) (by decide)) ho (fun H2 e2 => SqL.of (e2 _ _ hq2)) ?_ ?_
    · intro x o H3 R hx hm e3 hR2
      exact ⟨x, rfl, .ref a, rfl, a, o, os, rfl, hx, hrow.same (e12.trans e3), _, rfl, hR2⟩
    · intro H3 acc e3 hacc hoc
      exact k H3 D acc (e12.trans e3) (e12.free hD) hacc hoc
theorem ok_lrules (T : Tx K mg CR CT) (D : Def K mg "_law_rules" 35 ["_law_rules_here"]) (cI : CalI P w K mg base CR 2 "Rules" ["self", "cap", "strong", "pull"] (spRInit CR)) : Cal P w K mg base CX0 4 "_law_rules" ["_law_rules_here"] (spLRules CR) := by
  obtain ⟨f, fd, G, gl, bi⟩ := D
  refine ⟨f, fd, G.ok (k := 3) scLRules (fun vs H Q E h => ?_) (fun cdv A outer s H vs Q E hr h => ?_), gl, G.kp, bi⟩
  · obtain ⟨t, c, s, p, rfl, _⟩ := h
    rfl
  · obtain ⟨t, c, s, p, rfl, ht, hc, k⟩ := h
    refine ⟨_, (pss_one (ps_ret (pe_calI cI hr (pa_cons (pe_ix ix_tup (pv 0) pe_int (fun _ _ => rfl)) (pa_cons (pe_ix ix_tup (pv 0) pe_int (fun _ _ => rfl)) (pa_cons (pe_ix ix_tup (pv 0) pe_int (fun _ _ => rfl)) pa_nil)))))), ?_⟩
    refine ⟨_, rfl, t, _, 0, _, rfl, rfl, SqT.of ht, rfl, _, rfl, t, _, 1, _, rfl, rfl, SqT.of ht, rfl, _, rfl, t, _, 2, _, rfl, rfl, SqT.of ht, rfl, fun x dx hx hdx ne => ?_⟩
    refine ⟨x, dx, c, s, p, rfl, hc, upd_same, fun H' e hx' => ⟨rfl, k H' x (fun b o h => ?_) hx ⟨dx, hx'⟩⟩⟩
    exact e b o (ne_of_none h hx) (by rw [upd_ne (ne_of_none h hx), upd_ne (ne_of_none h hdx)]; exact h)
theorem ok_ldrawn (T : Tx K mg CR CT) (D : Def K mg "_law_drawn_rules" 36 ["_law_stream_here"]) (c1 : Cal P w K mg base CX0 1 "_law_draw" ["_law_stream_here", "_law_many"] spDraw) : Cal P w K mg base CX0 2 "_law_drawn_rules" ["_law_stream_here"] spLDrawn := by
  obtain ⟨f, fd, G, gl, bi⟩ := D
  refine ⟨f, fd, G.ok (k := 1) scLDrawn (fun vs H Q E h => ?_) (fun cdv A outer s H vs Q E hr h => ?_), gl, G.kp, bi⟩
  · obtain ⟨l, rfl, _⟩ := h
    rfl
  · obtain ⟨l, rfl, hl, k⟩ := h
    refine ⟨_, (pss_one (ps_ret (pe_tup (pa_cons (pe_ix ix_list (pe_lst (pa_cons pe_int (pa_cons pe_int (pa_cons pe_int (pa_cons pe_int pa_nil))))) (pe_cal c1 hr pass0 (pa_cons (pv 0) (pa_cons pe_int pa_nil))) (fun _ _ => rfl)) (pa_cons (pe_cmpR op_eq (pe_cal c1 hr pass0 (pa_cons (pv 0) (pa_cons pe_int pa_nil))) pe_int (nomark _)) (pa_cons (pe_cmpR op_eq (pe_cal c1 hr pass0 (pa_cons (pv 0) (pa_cons pe_int pa_nil))) pe_int (nomark _)) pa_nil)))))), ?_⟩
    refine ⟨(by show 4 ≤ sizeLine; decide), fun m hm => ?_⟩
    have e0 : Same H (L2.upd H m (.lst [.int 1, .int 1, .int 1, .int 2])) := Same.new hm
    have nlm : m ≠ l := fun z => by
      obtain ⟨a, b, c, h⟩ := hl
      rw [← z, hm] at h
      cases h
    refine ⟨_, rfl, l, 4, rfl, hl.same e0, by decide, by decide, fun H1 d e1 hl1 d0 d1 => ?_⟩
    have hm1 := e1 _ _ nlm upd_same
    obtain ⟨c, hc, hat⟩ : ∃ c : Nat, CapOk c ∧ atI [V.int 1, .int 1, .int 1, .int 2] d = some (.int c) := by
      have : d = 0 ∨ d = 1 ∨ d = 2 ∨ d = 3 := by omega
      rcases this with rfl | rfl | rfl | rfl
      · exact ⟨1, .inl rfl, rfl⟩
      · exact ⟨1, .inl rfl, rfl⟩
      · exact ⟨1, .inl rfl, rfl⟩
      · exact ⟨2, .inr rfl, rfl⟩
    refine ⟨m, _, d, _, rfl, rfl, SqL.of hm1, hat, ?_⟩
    refine ⟨_, rfl, l, 2, rfl, hl1, by decide, by decide, fun H2 d2 e2 hl2 _ _ => ⟨rfl, ?_⟩⟩
    refine ⟨_, rfl, l, 2, rfl, hl2, by decide, by decide, fun H3 d3 e3 hl3 _ _ => ⟨rfl, ?_⟩⟩
    refine ⟨(by show 3 ≤ sizeLine; decide), fun t ht => ?_⟩
    have e03 : SameX l H H3 := (((Same.x e0).trans e1).trans e2).trans e3
    have htH : H t = none := by
      cases q : H t with
      | none => rfl
      | some o =>
        have n : t ≠ l := fun z => by
          obtain ⟨a, b, c, h⟩ := hl3
          rw [← z, ht] at h
          cases h
        rw [e03 _ _ n q] at ht
        cases ht
    exact k _ t c _ _ (e03.trans (Same.x (Same.new ht))) (hl3.same (Same.new ht)) htH upd_same hc
end
end Rt
set_option Elab.async false
set_option linter.all false
set_option maxRecDepth 100000
set_option maxHeartbeats 2000000
namespace Rt
open PySem PySem.Spec PyProof.Rows L2
/-! ### under a stream's draws -/
theorem StreamAt.ne {H : Hp} {l b : Addr} {o : HO} (h : StreamAt H l) (hb : H b = some o) (ho : ∀ xs, o ≠ .lst xs) : b ≠ l := fun z => by
  obtain ⟨a, b', c, h⟩ := h
  rw [z, h] at hb
  exact ho _ (Option.some.inj hb).symm
theorem StreamAt.tk {H H' : Hp} {l : Addr} (h : StreamAt H l) (e : SameX l H H') : Tk H H' := fun b xs hb => e b _ (h.ne hb (by intro z; simp)) hb
theorem StreamAt.none {H H' : Hp} {l b : Addr} (h : StreamAt H' l) (e : SameX l H H') (hb : H' b = none) : H b = none := by
  cases q : H b with
  | none => rfl
  | some o =>
    have n : b ≠ l := fun z => by
      obtain ⟨x, y, c, h⟩ := h
      rw [← z, hb] at h
      cases h
    rw [e _ _ n q] at hb
    cases hb
theorem StreamAt.neRow {H : Hp} {l a : Addr} {xs : List V} {os : List Oc} (h : StreamAt H l) (ha : H a = some (.lst xs)) (ho : OcL H xs os) : a ≠ l := fun z => by
  obtain ⟨x, y, c, h⟩ := h
  rw [z, h] at ha
  have e : [V.int x, .int y, .int c] = xs := by
    have := Option.some.inj ha
    injection this
  subst e
  match os, ho with
  | .star :: _, .cons g _ => exact absurd (show V.int x = .str "star" from g) (by intro q; cases q)
  | .bag p q :: _, .cons g _ =>
    obtain ⟨r, e, _⟩ := g
    cases e
theorem SameX.upd2 {l d : Addr} {H0 H : Hp} {o : HO} (e : SameX l H0 H) (hd : H0 d = none) : SameX l H0 (L2.upd H d o) := fun b u n h => by
  rw [upd_ne (ne_of_none h hd)]
  exact e b u n h
theorem Same.keepU {H0 H : Hp} {d : Addr} {o : HO} (hd : H0 d = none) (e : Same H0 H) : Same H0 (L2.upd H d o) := fun b u h => by
  rw [upd_ne (ne_of_none h hd)]
  exact e b u h
theorem Paired.permL {α β : Type} {G : α → β → Prop} {l1 l2 : List α} (p : List.Perm l2 l1) : ∀ {m : List β}, Paired G l1 m → ∃ m', List.Perm m' m ∧ Paired G l2 m' := by
  have key : ∀ {l1 l2 : List α}, List.Perm l1 l2 → ∀ {m : List β}, Paired G l1 m → ∃ m', List.Perm m' m ∧ Paired G l2 m' := by
    intro l1 l2 p
    induction p with
    | nil => intro m h; exact ⟨m, .refl _, h⟩
    | cons x _ ih =>
      intro m h
      cases h with
      | cons g t =>
        obtain ⟨m', p', h'⟩ := ih t
        exact ⟨_ :: m', p'.cons _, .cons g h'⟩
    | swap x y l =>
      intro m h
      cases h with
      | cons g t =>
        cases t with
        | cons g2 t2 => exact ⟨_, List.Perm.swap _ _ _, .cons g2 (.cons g t2)⟩
    | trans _ _ ih1 ih2 =>
      intro m h
      obtain ⟨m1, p1, h1⟩ := ih1 h
      obtain ⟨m2, p2, h2⟩ := ih2 h1
      exact ⟨m2, p2.trans p1, h2⟩
  intro m h
  exact key p.symm h
abbrev sShuf : Stmt := topS 38
def spShuf (K : PySem.W.Frag) : Sp := fun vs H Q _ => ∃ (l a : Addr) (xs : List V), vs = [.ref l, .ref a] ∧ StreamAt H l ∧ H a = some (.lst xs) ∧ a ≠ l ∧ xs.length ≤ 100 ∧
  ∀ H' m ys, SameX l H H' → StreamAt H' l → H m = none → H' m = some (.lst ys) → List.Perm ys xs → Q (.ref m) H'
theorem scShuf : FnScope ["_law_stream_here", "_law_items", "_law_found", "_law_item"] ["_law_stream_here", "_law_items"] (defScope sShuf) := ⟨rfl, rfl, rfl, by decide +kernel, rfl, by decide +kernel, by decide +kernel⟩
section
variable {P : Program} {w : World} {K : PySem.W.Frag} {mg : Str → Option Value} {base : Heap} {CR CT CB CM : Addr}
theorem ok_shuf (T : Tx K mg CR CT) (D : Def K mg "_law_shuffled" 38 ["_law_stream_here", "_law_items"]) (c1 : Cal P w K mg base CX0 1 "_law_draw" ["_law_stream_here", "_law_many"] spDraw) : Cal P w K mg base CX0 2 "_law_shuffled" ["_law_stream_here", "_law_items"] (spShuf K) := by
  obtain ⟨f, fd, G, gl, bi⟩ := D
  refine ⟨f, fd, G.ok (k := 1) scShuf (fun vs H Q E h => ?_) (fun cdv A outer s H vs Q E hr h => ?_), gl, G.kp, bi⟩
  · obtain ⟨l, a, xs, rfl, _⟩ := h
    rfl
  · obtain ⟨l, a, xs, rfl, hl, ha, nal, hz, k⟩ := h
    refine ⟨_, (pss_cons (ps_set (i := 2) scShuf.nd rfl (Or.inl rfl) (pe_lst pa_nil)) (pss_cons (ps_for PassesOwn.never rfl (pi_list (pv 1)) (pg_name (i := 3) scShuf.nd rfl (Or.inl rfl)) (pss_one (ps_expr (pe_bm PySem.F.plainAttrs_list PySem.F.slot_list_insert PySem.F.type_list_insert mt_insert (pv 2) (pa_cons (pe_cal c1 hr pass0 (pa_cons (pv 0) (pa_cons (pe_op op_add (pe_callB call_len_seq (by rfl) T.fr.len bt_len (pa_cons (pv 2) pa_nil)) pe_int) pa_nil))) (pa_cons (pv 3) pa_nil)))))) (pss_one (ps_ret (pv 2))))), ?_⟩
    refine ⟨(by show 0 ≤ sizeLine; decide), fun m hm => ?_⟩
    have e0 : Same H (L2.upd H m (.lst [])) := Same.new hm
    have nml : m ≠ l := fun z => by
      obtain ⟨x, y, c, h⟩ := hl
      rw [← z, hm] at h
      cases h
    refine ⟨_, rfl, a, rfl, ⟨_, SqL.of (e0 _ _ ha)⟩, for_list (K := K) (a := a) (xs := xs) (fun i σ H' => (∃ v : Option V, σ = [some (.ref l), some (.ref a), some (.ref m), v]) ∧ SameX l H H' ∧ StreamAt H' l ∧ ∃ acc, H' m = some (.lst acc) ∧ List.Perm acc (xs.take i) ∧ acc.length ≤ i)
      ⟨⟨none, rfl⟩, Same.x e0, hl.same e0, [], upd_same, .nil, Nat.le_refl _⟩ (fun i σ H' _ e => SqL.of (e.2.1 _ _ nal ha)) ?_ ?_⟩
    · rintro i y σ H1 hi ⟨⟨v, rfl⟩, e1, hl1, acc, hacc, hp, hal⟩
      have hil : i < 100 := Nat.lt_of_lt_of_le (List.getElem?_eq_some_iff.mp hi).1 hz
      refine ⟨_, rfl, .inl ⟨rfl, _, SqL.of hacc⟩, _, rfl, _, rfl, m, acc, rfl, .inl (SqL.of hacc), _, _, rfl, rfl, l, _, rfl, hl1, by omega, by omega, fun H2 d e2 hl2 d0 d1 => ?_⟩
      have hacc2 := e2 _ _ nml hacc
      refine ⟨_, rfl, m, acc, d, y, rfl, rfl, hacc2, Nat.lt_of_le_of_lt (m := 100) (by omega) (by decide), d0, by omega, ⟨_, rfl⟩, SameX.upd2 (e1.trans e2) hm, ?_, _, upd_same, ?_, ?_⟩
      · obtain ⟨x, y, c, h⟩ := hl2
        exact ⟨x, y, c, by rw [upd_ne nml.symm]; exact h⟩
      · rw [take_more hi]
        have z1 : List.Perm (acc.take d.toNat ++ [y] ++ acc.drop d.toNat) (acc ++ [y]) := by
          have z2 : List.Perm (acc.take d.toNat ++ [y] ++ acc.drop d.toNat) (acc.take d.toNat ++ (acc.drop d.toNat ++ [y])) := by
            rw [List.append_assoc]
            exact List.Perm.append_left _ List.perm_append_comm
          rw [← List.append_assoc, List.take_append_drop] at z2
          exact z2
        exact z1.trans (hp.append_right _)
      · rw [List.length_append, List.length_append, List.length_take, List.length_drop, List.length_singleton]
        omega
    · rintro σ H1 ⟨⟨v, rfl⟩, e1, hl1, acc, hacc, hp, hal⟩
      rw [List.take_length] at hp
      exact ⟨_, rfl, k H1 m acc e1 hl1 hm hacc hp⟩
end
/-! ### dicts that grow -/
/-- a dict with a value for each of the bags so far -/
def RowsPre (H : Hp) (d : Addr) (bs : List Bg) (Val : Bg → V → Hp → Prop) : Prop := ∃ kvs, H d = some (.dT kvs) ∧ kvs.map (·.1) = bs.map keyOf ∧ ∀ (j : Nat) b, bs[j]? = some b → ∃ kv, kvs[j]? = some kv ∧ Val b kv.2 H
theorem RowsPre.len {H : Hp} {d : Addr} {bs : List Bg} {Val : Bg → V → Hp → Prop} (h : RowsPre H d bs Val) : ∃ kvs, H d = some (.dT kvs) ∧ kvs.length = bs.length := by
  obtain ⟨kvs, h1, h2, _⟩ := h
  have z := congrArg List.length h2
  rw [List.length_map, List.length_map] at z
  exact ⟨kvs, h1, z⟩
theorem RowsPre.imp {H H' : Hp} {d : Addr} {bs : List Bg} {Val : Bg → V → Hp → Prop} (h : RowsPre H d bs Val) (e : H' d = H d) (i : ∀ b v, Val b v H → Val b v H') : RowsPre H' d bs Val := by
  obtain ⟨kvs, h1, h2, h3⟩ := h
  exact ⟨kvs, e.trans h1, h2, fun j b hj => (h3 j b hj).imp fun kv z => ⟨z.1, i _ _ z.2⟩⟩
theorem RowsPre.put {H : Hp} {d q : Addr} {bs : List Bg} {b : Bg} {v : V} {Val : Bg → V → Hp → Prop} (h : RowsPre H d bs Val) (hb : b ∉ bs) (hz : bs.length ≤ 100) (hq : H q = some (.tup [.int b.1, .int b.2])) (hv : ∀ H', SameX d H H' → Val b v H')
    (st : ∀ H', SameX d H H' → ∀ b v, Val b v H → Val b v H') : ∃ H', DPut H d (.ref q) v H' ∧ SameX d H H' ∧ RowsPre H' d (bs ++ [b]) Val ∧ (∃ o, H' = L2.upd H d o) := by
  obtain ⟨kvs, h1, h2, h3⟩ := h
  have hl : kvs.length = bs.length := by
    have z := congrArg List.length h2
    rw [List.length_map, List.length_map] at z
    exact z
  have new : ¬ (kvs.any fun kv => decide (kv.1 = keyOf b)) = true := by
    rw [List.any_eq_true]
    rintro ⟨kv, hm, e⟩
    have z : kv.1 ∈ kvs.map (·.1) := List.mem_map_of_mem hm
    rw [h2, of_decide_eq_true e] at z
    obtain ⟨b', hb', e'⟩ := List.mem_map.mp z
    rw [keyOf_inj e'] at hb'
    exact hb hb'
  have hput : putK kvs (keyOf b) v = kvs ++ [(keyOf b, v)] := by
    unfold putK
    rw [if_neg new]
  refine ⟨_, DPut.t (k := keyOf b) h1 hq (Nat.lt_of_le_of_lt (m := 100) (by omega) (by decide)), SameX.upd, ⟨kvs ++ [(keyOf b, v)], by rw [hput]; exact upd_same, by rw [List.map_append, List.map_append, h2]; rfl, ?_⟩, _, rfl⟩
  intro j b' hj
  by_cases hjl : j < bs.length
  · rw [List.getElem?_append_left hjl] at hj
    obtain ⟨kv, z1, z2⟩ := h3 j b' hj
    exact ⟨kv, by rw [List.getElem?_append_left (by omega)]; exact z1, st _ SameX.upd _ _ z2⟩
  · rw [List.getElem?_append_right (by omega)] at hj
    have ej : j - bs.length = 0 := by
      cases q : j - bs.length with
      | zero => rfl
      | succ m => rw [q] at hj; simp at hj
    rw [ej] at hj
    have eb : b = b' := Option.some.inj hj
    subst eb
    exact ⟨(keyOf b, v), by rw [List.getElem?_append_right (by omega), hl, ej]; rfl, hv _ SameX.upd⟩
theorem RowsPre.done {H : Hp} {d : Addr} {bs : List Bg} {Val : Bg → V → Hp → Prop} (nd : bs.Nodup) (h : RowsPre H d bs Val) : RowsK H d bs Val := by
  obtain ⟨kvs, h1, h2, h3⟩ := h
  refine ⟨kvs, h1, h2, fun b hb => ?_⟩
  obtain ⟨j, hj, ej⟩ := List.getElem_of_mem hb
  have hj' : bs[j]? = some b := by rw [← ej]; exact List.getElem?_eq_getElem hj
  obtain ⟨kv, z1, z2⟩ := h3 j b hj'
  exact ⟨kv.2, valV_at h2 nd hj' z1, z2⟩
/-- rows as lists -/
def ValL (R : Rw) : Bg → V → Hp → Prop := fun b v H => ∃ a xs, v = .ref a ∧ H a = some (.lst xs) ∧ OcL H xs (R b)
def RowsL (H : Hp) (d : Addr) (c : Nat) (R : Rw) : Prop := RowsK H d (bagsOf c) (ValL R)
theorem ValL.row {R : Rw} {b : Bg} {v : V} {H : Hp} (h : ValL R b v H) : ValR R b v H := by
  obtain ⟨a, xs, h1, h2, h3⟩ := h
  exact ⟨a, h1, xs, .inl h2, h3⟩
theorem RowsL.same {H H' : Hp} {d : Addr} {c : Nat} {R : Rw} (h : RowsL H d c R) (e : Same H H') : RowsL H' d c R := by
  obtain ⟨kvs, h1, h2, h3⟩ := h
  refine ⟨kvs, e _ _ h1, h2, fun b hb => ?_⟩
  obtain ⟨v, z, a, xs, z1, z2, z3⟩ := h3 b hb
  exact ⟨v, z, a, xs, z1, e _ _ z2, z3.tk (Same.tk e)⟩
theorem RowsL.stream {H H' : Hp} {d l : Addr} {c : Nat} {R : Rw} (h : RowsL H d c R) (hl : StreamAt H l) (e : SameX l H H') : RowsL H' d c R := by
  obtain ⟨kvs, h1, h2, h3⟩ := h
  refine ⟨kvs, e _ _ (hl.ne h1 (by intro xs z; cases z)) h1, h2, fun b hb => ?_⟩
  obtain ⟨v, z, a, xs, z1, z2, z3⟩ := h3 b hb
  exact ⟨v, z, a, xs, z1, e _ _ (hl.neRow z2 z3) z2, z3.tk (hl.tk e)⟩
end Rt
set_option Elab.async false
set_option linter.all false
set_option maxRecDepth 100000
set_option maxHeartbeats 2000000
namespace Rt
open PySem PySem.Spec PyProof.Rows L2
abbrev sLRows : Stmt := topS 37
theorem scLRows : FnScope ["_law_stream_here", "_law_rules_here", "_law_rows_here", "_law_often", "_law_bag", "_law_outcome"] ["_law_stream_here", "_law_rules_here"] (defScope sLRows) := ⟨rfl, rfl, rfl, by decide +kernel, rfl, by decide +kernel, by decide +kernel⟩
/-- a drawn row -/
def ValS (c : Nat) (l : Addr) (H0 : Hp) : Bg → V → Hp → Prop := fun b v H => ∃ a xs os, v = .ref a ∧ (a ≠ l ∧ H0 a = none) ∧ H a = some (.lst xs) ∧ OcL H xs os ∧ os.Sublist (ocs c)
theorem ValS.keep {c : Nat} {l : Addr} {H0 : Hp} {b : Bg} {v : V} {H H' : Hp} (h : ValS c l H0 b v H) (e : SameX l H H') (t : Tk H H') : ValS c l H0 b v H' := by
  obtain ⟨a, xs, os, h1, h2, h3, h4, h5⟩ := h
  exact ⟨a, xs, os, h1, h2, e _ _ h2.1 h3, h4.tk t, h5⟩
theorem SameX.dict {d : Addr} {H H' : Hp} {kvs : List (List Key × V)} (e : SameX d H H') (hd : H d = some (.dT kvs)) {b : Addr} {o : HO} (hb : H b = some o) (ho : ∀ ws, o ≠ .dT ws) : H' b = some o := e b o (fun z => by rw [z, hd] at hb; exact ho _ (Option.some.inj hb).symm) hb
theorem SameX.dictTk {d : Addr} {H H' : Hp} {kvs : List (List Key × V)} (e : SameX d H H') (hd : H d = some (.dT kvs)) : Tk H H' := fun b xs hb => e.dict hd hb (by intro ws z; cases z)
/-- rows whose lists were not there at H0 -/
def RowsN (H0 H : Hp) (d : Addr) (c : Nat) (R : Rw) : Prop := RowsK H d (bagsOf c) fun b v H => ∃ a xs, v = .ref a ∧ H0 a = none ∧ H a = some (.lst xs) ∧ OcL H xs (R b)
theorem RowsN.rows {H0 H : Hp} {d : Addr} {c : Nat} {R : Rw} (h : RowsN H0 H d c R) : RowsL H d c R := by
  obtain ⟨kvs, h1, h2, h3⟩ := h
  refine ⟨kvs, h1, h2, fun b hb => ?_⟩
  obtain ⟨v, z, a, xs, z1, z2, z3, z4⟩ := h3 b hb
  exact ⟨v, z, a, xs, z1, z3, z4⟩
/-- at D, there at H0 as a list, something else is put -/
theorem RowsN.putD {H0 H : Hp} {d D : Addr} {c : Nat} {R : Rw} {ys acc acc' : List V} (h : RowsN H0 H d c R) (hD0 : H0 D = some (.lst ys)) (hD : H D = some (.lst acc)) : RowsL (L2.upd H D (.lst acc')) d c R := by
  obtain ⟨kvs, h1, h2, h3⟩ := h
  refine ⟨kvs, by rw [upd_ne (ne_of h1 hD (by intro z; cases z))]; exact h1, h2, fun b hb => ?_⟩
  obtain ⟨v, z, a, xs, z1, z2, z3, z4⟩ := h3 b hb
  refine ⟨v, z, a, xs, z1, by rw [upd_ne (fun q => by rw [q, hD0] at z2; cases z2)]; exact z3, z4.tk (Tk.put hD)⟩
theorem chosen {c : Nat} {l d : Addr} {H0 H : Hp} (hc : CapOk c) (h : RowsK H d (bagsOf c) (ValS c l H0)) : ∃ R, RowsN H0 H d c R ∧ CanR c R := by
  obtain ⟨kvs, h1, h2, h3⟩ := h
  have pick : ∀ b : Bg, ∃ os : List Oc, b ∈ bagsOf c → os.Sublist (ocs c) ∧ ∃ v a xs, valV kvs (keyOf b) = some v ∧ v = .ref a ∧ H0 a = none ∧ H a = some (.lst xs) ∧ OcL H xs os := by
    intro b
    by_cases hb : b ∈ bagsOf c
    · obtain ⟨v, z, a, xs, os, z1, z2, z3, z4, z5⟩ := h3 b hb
      exact ⟨os, fun _ => ⟨z5, v, a, xs, z, z1, z2.2, z3, z4⟩⟩
    · exact ⟨[], fun q => absurd q hb⟩
  refine ⟨fun b => Classical.choose (pick b), ⟨kvs, h1, h2, fun b hb => ?_⟩, fun b hb => sub_can hc ((Classical.choose_spec (pick b)) hb).1⟩
  obtain ⟨_, v, a, xs, z, z1, z2, z3, z4⟩ := (Classical.choose_spec (pick b)) hb
  exact ⟨v, z, a, xs, z1, z2, z3, z4⟩
def spLRows : Sp := fun vs H Q _ => ∃ (l t : Addr) (c : Nat) (s p : Bool), vs = [.ref l, .ref t] ∧ StreamAt H l ∧ TripAt H t c s p ∧ CapOk c ∧
  ∀ H' d R, SameX l H H' → StreamAt H' l → H d = none → RowsN H H' d c R → CanR c R → Q (.ref d) H'
section
variable {P : Program} {w : World} {K : PySem.W.Frag} {mg : Str → Option Value} {base : Heap} {CR CT CB CM : Addr}
theorem ok_lrows (T : Tx K mg CR CT) (D : Def K mg "_law_rows" 37 ["_law_stream_here", "_law_rules_here"]) (c1 : Cal P w K mg base CX0 1 "_law_draw" ["_law_stream_here", "_law_many"] spDraw) (c2 : Cal P w K mg base CX0 1 "_law_bags" ["_law_rules_here"] spLBags) :
    Cal P w K mg base CX0 2 "_law_rows" ["_law_stream_here", "_law_rules_here"] spLRows := by
  obtain ⟨f, fd, G, gl, bi⟩ := D
  refine ⟨f, fd, G.ok (k := 1) scLRows (fun vs H Q E h => ?_) (fun cdv A outer s H vs Q E hr h => ?_), gl, G.kp, bi⟩
  · obtain ⟨l, t, c, s, p, rfl, _⟩ := h
    rfl
  · obtain ⟨l, t, c, s, p, rfl, hl, ht, hc, k⟩ := h
    refine ⟨_, (pss_cons (ps_set (i := 2) scLRows.nd rfl (Or.inl rfl) pe_dnewT) (pss_cons (ps_set (i := 3) scLRows.nd rfl (Or.inr rfl) (pe_op op_add pe_int (pe_cal c1 hr pass0 (pa_cons (pv 0) (pa_cons pe_int pa_nil))))) (pss_cons (ps_for PassesOwn.never rfl (pi_list (pe_cal c2 hr pass0 (pa_cons (pv 1) pa_nil))) (pg_name (i := 4) scLRows.nd rfl (Or.inl rfl)) (pss_one (ps_dput (hu_of hr) (pv 2) (pv 4) (by exact (pe_lc (own := [("_law_outcome", 5)]) (g := gName 5) (tt := tTest (tOp (rI0 fun i j => .bl (decide (i < j))) (tCall spDraw [] E0 (tCons (tVar 0) (tCons (tC (.int 5)) tNil))) (tVar 3)))  rfl scLRows.nd (pi_list (pe_op op_cat (pe_cal c2 hr pass0 (pa_cons (pv 1) pa_nil)) (pe_lst (pa_cons pe_str pa_nil)))) (blkOk_by (N := ["_law_stream_here", "_law_rules_here", "_law_rows_here", "_law_often", "_law_bag", "_law_outcome"]) (sc := defScope sLRows) (by decide +kernel)) (fun _ _ _ _ _ => (pg_name (i := 5) scLRows.nd rfl (Or.inl rfl))) (fun _ _ _ _ _ => (pts_one (pt_cmpR op_lt (pe_cal c1 hr pass0 (pa_cons (pv 0) (pa_cons pe_int pa_nil))) (pv 3) (nomark _)))) (fun _ _ _ _ _ => (pv 5)))) rfl))) (pss_one (ps_ret (pv 2)))))), ?_⟩
    intro d hd
    have e0 : Same H (L2.upd H d (.dT [])) := Same.new hd
    have ndl : d ≠ l := fun z => by
      obtain ⟨x, y, c, h⟩ := hl
      rw [← z, hd] at h
      cases h
    refine ⟨_, rfl, l, 4, rfl, hl.same e0, by decide, by decide, fun H1 o e1 hl1 _ _ => ⟨_, _, rfl, rfl, ?_⟩⟩
    have hd1 := e1 _ _ ndl (show L2.upd H d (.dT []) d = _ from upd_same)
    have e01 : SameX l H H1 := (Same.x e0).trans e1
    have ntl : t ≠ l := hl.ne ht (by intro xs z; cases z)
    refine ⟨_, rfl, t, c, s, p, rfl, e01 _ _ ntl ht, hc, fun H2 lb bs e2 hlb hbs hb => ?_⟩
    have nlbl : lb ≠ l := fun z => by
      obtain ⟨x, y, c, h⟩ := hl1
      rw [← z, hlb] at h
      cases h
    refine ⟨lb, rfl, ⟨_, SqL.of hbs⟩, for_list (K := K) (a := lb) (xs := bs) (fun i σ H' => (∃ v : Option V, σ = [some (.ref l), some (.ref t), some (.ref d), some (.int (1 + o)), v, none]) ∧ SameX l H H' ∧ H' lb = some (.lst bs) ∧ StreamAt H' l ∧ Tk H2 H' ∧
      RowsPre H' d ((bagsOf c).take i) (ValS c l H)) ⟨⟨none, rfl⟩, e01.trans (Same.x e2), hbs, hl1.same e2, Tk.refl _, [], e2 _ _ hd1, rfl, fun j b h => by simp at h⟩ (fun i σ H' _ e => SqL.of e.2.2.1) ?_ ?_⟩
    · rintro i y σ H3 hi ⟨⟨v, rfl⟩, e3, hbs3, hl3, tk3, hpre⟩
      obtain ⟨b, hbi, q, rfl, hq⟩ := Paired.at (hb.tk tk3) hi
      -- the outcomes, and one draw for each
      refine ⟨_, rfl, t, c, s, p, rfl, e3 _ _ ntl ht, hc, fun H4 lx xs e4 hlx hx hb4 => ?_⟩
      refine ⟨(by show 1 ≤ sizeLine; decide), fun m hm => ?_⟩
      have nxm : lx ≠ m := ne_of_none hx hm
      have hlen := len_bags hc
      refine ⟨lx, m, xs, [.str "star"], rfl, rfl, by rw [upd_ne nxm]; exact hx, upd_same, ?_, fun n hn => ?_⟩
      · rw [Paired.length hb4]
        show _ + 1 ≤ sizeLine
        exact Nat.le_trans (by omega : _ ≤ 10) (by decide)
      have e5 : Same H4 (L2.upd (L2.upd H4 m (.lst [.str "star"])) n (.lst (xs ++ [.str "star"]))) := (Same.new hm).trans (Same.new hn)
      have hn5 : (L2.upd (L2.upd H4 m (.lst [.str "star"])) n (.lst (xs ++ [.str "star"]))) n = some (.lst (xs ++ [.str "star"])) := upd_same
      have ho : OcL (L2.upd (L2.upd H4 m (.lst [.str "star"])) n (.lst (xs ++ [.str "star"]))) (xs ++ [.str "star"]) (ocs c) := Paired.app ((BgL.oc hb4).tk (Same.tk e5)) (Paired.one (show IsOc _ (.str "star") .star from rfl))
      generalize L2.upd (L2.upd H4 m (.lst [.str "star"])) n (.lst (xs ++ [.str "star"])) = H5 at e5 hn5 ho ⊢
      have e35 := e4.trans e5
      have hl5 := hl3.same e35
      have nnl := hl5.neRow hn5 ho
      refine ⟨n, rfl, ⟨_, SqL.of hn5⟩, fun D hD => ?_⟩
      have nDl : D ≠ l := fun z => by
        obtain ⟨x, y, c, h⟩ := hl5
        rw [← z, hD] at h
        cases h
      have key : LcEnd (Itl K n) (gName 5) (tTest (tOp (rI0 fun i j => .bl (decide (i < j))) (tCall spDraw [] E0 (tCons (tVar 0) (tCons (tC (.int 5)) tNil))) (tVar 3))) (tVar 5) [5]
          [some (.ref l), some (.ref t), some (.ref d), some (.int (1 + o)), some (.ref q), none] H5 D (fun H6 => SameX l H5 H6 ∧ StreamAt H6 l ∧ ∃ acc os, H6 D = some (.lst acc) ∧ OcL H6 acc os ∧ os.Sublist (ocs c)) := by
        refine lc_it walk_list (fun j H6 => SameX l H5 H6 ∧ StreamAt H6 l ∧ ∃ acc os, H6 D = some (.lst acc) ∧ OcL H6 acc os ∧ os.Sublist ((ocs c).take j) ∧ acc.length ≤ j) ⟨Same.x (Same.new hD), hl5.same (Same.new hD), [], [], upd_same, .nil, List.nil_sublist _, Nat.le_refl _⟩
          (fun j H6 _ p => SqL.of (p.1 _ _ nnl hn5)) ?_ ?_
        · rintro j z H6 H7 hj ⟨e6, hl6, acc, os, hacc, hoa, hsub, hal⟩ ⟨rfl, hx6⟩
          have tk6 : Tk H5 H7 := hl5.tk e6
          obtain ⟨oc, hoj, hzo⟩ := Paired.at (ho.tk tk6) hx6
          refine ⟨rfl, ?_⟩
          refine ⟨_, rfl, l, 5, rfl, hl6, by decide, by decide, fun H8 dd e8 hl8 _ _ => ⟨_, rfl, _, _, rfl, rfl, _, rfl, ?_⟩⟩
          have hacc8 := e8 _ _ nDl hacc
          have tk8 := hl6.tk e8
          have e58 := e6.trans e8
          have hj10 : j < 10 := Nat.lt_of_lt_of_le (List.getElem?_eq_some_iff.mp hoj).1 (len_ocs hc)
          by_cases hlt : dd < 1 + o
          · refine ifT (decide_eq_true hlt) ⟨z, rfl, acc, hacc8, Nat.lt_of_le_of_lt (m := 100) (by omega) (by decide), SameX.upd2 e58 hD, ?_, acc ++ [z], os ++ [oc], upd_same, ?_, ?_, ?_⟩
            · obtain ⟨x, y, c, h⟩ := hl8
              exact ⟨x, y, c, by rw [upd_ne nDl.symm]; exact h⟩
            · have tk9 : Tk H8 (L2.upd H8 D (.lst (acc ++ [z]))) := Tk.put hacc8
              exact Paired.app ((hoa.tk tk8).tk tk9) (Paired.one ((hzo.tk tk8).tk tk9))
            · rw [take_more hoj]
              exact hsub.append (List.Sublist.refl _)
            · rw [List.length_append, List.length_singleton]
              omega
          · refine ifF (decide_eq_false hlt) ⟨e58, hl8, acc, os, hacc8, hoa.tk tk8, ?_, by omega⟩
            rw [take_more hoj]
            exact hsub.trans (List.sublist_append_left _ _)
        · rintro H6 ⟨e6, hl6, acc, os, hacc, hoa, hsub, hal⟩
          have z : (xs ++ [V.str "star"]).length = (ocs c).length := Paired.length ho
          rw [z, List.take_length] at hsub
          exact ⟨e6, hl6, acc, os, hacc, hoa, hsub⟩
      refine LcEnd.imp key ?_
      rintro H6 ⟨e6, hl6, acc, os, hacc, hoa, hsub⟩
      have e36 : SameX l H3 H6 := (Same.x e35).trans e6
      have tk36 : Tk H3 H6 := hl3.tk e36
      obtain ⟨kvs, hk1, hk2⟩ := hpre.len
      have hpre6 : RowsPre H6 d ((bagsOf c).take i) (ValS c l H) := hpre.imp ((e36 _ _ ndl hk1).trans hk1.symm) fun b v z => z.keep e36 tk36
      have hd6 := e36 _ _ ndl hk1
      have stab : ∀ H', SameX d H6 H' → ∀ b v, ValS c l H b v H6 → ValS c l H b v H' := by
        rintro H' e b' v' ⟨a, ws, os', h1, h2, h3, h4, h5⟩
        exact ⟨a, ws, os', h1, h2, e.dict hd6 h3 (by intro ws z; cases z), h4.tk (e.dictTk hd6), h5⟩
      have hnb : b ∉ (bagsOf c).take i := by
        intro hm
        have nd := nd_bags hc
        rw [← List.take_append_drop i (bagsOf c), List.nodup_append] at nd
        refine nd.2.2 b hm b ?_ rfl
        have hlt : i < (bagsOf c).length := (List.getElem?_eq_some_iff.mp hbi).1
        rw [List.drop_eq_getElem_cons hlt]
        have : (bagsOf c)[i] = b := (List.getElem?_eq_some_iff.mp hbi).2
        rw [this]
        exact List.mem_cons_self
      obtain ⟨H7, hput, e7, hpre7, o7, ho7⟩ := hpre6.put (q := q) (v := .ref D) hnb (by rw [List.length_take]; omega) (tk36 _ _ hq) (fun H' e => ⟨D, acc, os, rfl, ⟨nDl, hl5.none (e3.trans (Same.x e35)) hD⟩, e.dict hd6 hacc (by intro ws z; cases z), hoa.tk (e.dictTk hd6), hsub⟩) stab
      refine ⟨_, rfl, _, rfl, d, H7, rfl, hput, ⟨_, rfl⟩, ?_, e7.dict hd6 (e36 _ _ nlbl hbs3) (by intro ws z; cases z), ?_, (tk3.trans tk36).trans (e7.dictTk hd6), ?_⟩
      · rw [ho7]
        exact SameX.upd2 (e3.trans e36) hd
      · obtain ⟨x, y, c, h⟩ := hl6
        exact ⟨x, y, c, e7.dict hd6 h (by intro ws z; cases z)⟩
      · rw [take_more hbi]
        exact hpre7
    · rintro σ H3 ⟨⟨v, rfl⟩, e3, hbs3, hl3, tk3, hpre⟩
      have hbl : bs.length = (bagsOf c).length := Paired.length hb
      rw [hbl, List.take_length] at hpre
      obtain ⟨R, hR, hcan⟩ := chosen hc (hpre.done (nd_bags hc))
      exact ⟨_, rfl, k H3 d R e3 hl3 hd hR hcan⟩
end
end Rt
set_option Elab.async false
set_option linter.all false
set_option maxRecDepth 100000
set_option maxHeartbeats 2000000
namespace Rt
open PySem PySem.Spec PyProof.Rows L2
abbrev sHanded : Stmt := topS 39
def spHanded : Sp := fun vs H Q _ => ∃ (l d0 : Addr) (c : Nat) (R : Rw), vs = [.ref l, .ref d0] ∧ StreamAt H l ∧ RowsL H d0 c R ∧ CanR c R ∧ CapOk c ∧
  ∀ H' d L, SameX l H H' → StreamAt H' l → H d = none → RowsAt H' d c L → GoodR c L → (∀ b ∈ bagsOf c, lst c (L b) = R b) → Q (.ref d) H'
theorem scHanded : FnScope ["_law_stream_here", "_law_rows_here", "_law_handed_here", "_law_bag", "_law_row"] ["_law_stream_here", "_law_rows_here"] (defScope sHanded) := ⟨rfl, rfl, rfl, by decide +kernel, rfl, by decide +kernel, by decide +kernel⟩
/-- a row in another order, a list or a tuple -/
def ValH (R : Rw) (l : Addr) : Bg → V → Hp → Prop := fun b v H => ∃ a os, v = .ref a ∧ a ≠ l ∧ RowAt H a os ∧ List.Perm os (R b)
theorem RowAt.keep {l a : Addr} {os : List Oc} {H H' : Hp} (h : RowAt H a os) (n : a ≠ l) (e : SameX l H H') (t : Tk H H') : RowAt H' a os := by
  obtain ⟨xs, h1, h2⟩ := h
  exact ⟨xs, h1.imp (e _ _ n) (e _ _ n), h2.tk t⟩
theorem ValH.keep {R : Rw} {l : Addr} {b : Bg} {v : V} {H H' : Hp} (h : ValH R l b v H) (e : SameX l H H') (t : Tk H H') : ValH R l b v H' := by
  obtain ⟨a, os, h1, h2, h3, h4⟩ := h
  exact ⟨a, os, h1, h2, h3.keep h2 e t, h4⟩
theorem RowAt.dict {d a : Addr} {os : List Oc} {H H' : Hp} {kvs : List (List Key × V)} (h : RowAt H a os) (hd : H d = some (.dT kvs)) (e : SameX d H H') : RowAt H' a os := by
  obtain ⟨xs, h1, h2⟩ := h
  exact ⟨xs, h1.imp (fun z => e.dict hd z (by intro ws z; cases z)) (fun z => e.dict hd z (by intro ws z; cases z)), h2.tk (e.dictTk hd)⟩
theorem lst_perm {c : Nat} {x y : List Oc} (p : List.Perm x y) : lst c x = lst c y := lst_congr fun o _ => p.mem_iff
theorem handed_done {c : Nat} {l d : Addr} {R : Rw} {bs : List Bg} {H : Hp} (hc : CapOk c) (hR : CanR c R) (hp : List.Perm bs (bagsOf c)) (h : RowsPre H d bs (ValH R l)) : ∃ L, RowsAt H d c L ∧ GoodR c L ∧ ∀ b ∈ bagsOf c, lst c (L b) = R b := by
  have nd : bs.Nodup := hp.nodup_iff.mpr (nd_bags hc)
  obtain ⟨kvs, h1, h2, h3⟩ := h.done nd
  have hl : kvs.length = bs.length := by
    have z := congrArg List.length h2
    rw [List.length_map, List.length_map] at z
    exact z
  have pick : ∀ b : Bg, ∃ os : List Oc, b ∈ bagsOf c → List.Perm os (R b) ∧ ∃ a, valV kvs (keyOf b) = some (.ref a) ∧ RowAt H a os := by
    intro b
    by_cases hb : b ∈ bagsOf c
    · obtain ⟨v, z, a, os, rfl, _, z3, z4⟩ := h3 b (hp.mem_iff.mpr hb)
      exact ⟨os, fun _ => ⟨z4, a, z, z3⟩⟩
    · exact ⟨[], fun q => absurd q hb⟩
  refine ⟨fun b => Classical.choose (pick b), ⟨kvs, h1, by rw [hl, hp.length_eq], fun kv hkv => ?_, fun b hb => ?_⟩, fun b hb => ?_, fun b hb => ?_⟩
  · have z : kv.1 ∈ kvs.map (·.1) := List.mem_map_of_mem hkv
    rw [h2] at z
    obtain ⟨b, hb, e⟩ := List.mem_map.mp z
    exact ⟨b, hp.mem_iff.mp hb, e.symm⟩
  · obtain ⟨_, a, z, z3⟩ := (Classical.choose_spec (pick b)) hb
    exact ⟨a, z, z3⟩
  · obtain ⟨p, _⟩ := (Classical.choose_spec (pick b)) hb
    refine ⟨p.nodup_iff.mpr (GoodR.can hc hR b hb).1, fun o ho => (GoodR.can hc hR b hb).2 o (p.mem_iff.mp ho)⟩
  · obtain ⟨p, _⟩ := (Classical.choose_spec (pick b)) hb
    rw [lst_perm p]
    exact hR b hb
/-- the key tuples of a dict of bags -/
theorem keys_bgl {H : Hp} {kvs : List (List Key × V)} {as : List Addr} {bs : List Bg} (h : IsKeys H kvs as) (e : kvs.map (·.1) = bs.map keyOf) : BgL H (as.map V.ref) bs := by
  induction h generalizing bs with
  | nil =>
    cases bs with
    | nil => exact .nil
    | cons b bs => simp at e
  | cons g _ ih =>
    cases bs with
    | nil => simp at e
    | cons b bs =>
      rw [List.map_cons, List.map_cons] at e
      injection e with e1 e2
      rw [e1] at g
      exact .cons ⟨_, rfl, g⟩ (ih e2)
section
variable {P : Program} {w : World} {K : PySem.W.Frag} {mg : Str → Option Value} {base : Heap} {CR CT CB CM : Addr}
theorem ok_handed (T : Tx K mg CR CT) (D : Def K mg "_law_handed" 39 ["_law_stream_here", "_law_rows_here"]) (c1 : Cal P w K mg base CX0 1 "_law_draw" ["_law_stream_here", "_law_many"] spDraw) (c2 : Cal P w K mg base CX0 2 "_law_shuffled" ["_law_stream_here", "_law_items"] (spShuf K)) :
    Cal P w K mg base CX0 3 "_law_handed" ["_law_stream_here", "_law_rows_here"] spHanded := by
  obtain ⟨f, fd, G, gl, bi⟩ := D
  refine ⟨f, fd, G.ok (k := 2) scHanded (fun vs H Q E h => ?_) (fun cdv A outer s H vs Q E hr h => ?_), gl, G.kp, bi⟩
  · obtain ⟨l, d0, c, R, rfl, _⟩ := h
    rfl
  · obtain ⟨l, d0, c, R, rfl, hl, hrows, hcan, hc, k⟩ := h
    have hr1 : Room 1 _ := hr.mono (by decide)
    refine ⟨_, (pss_cons (ps_set (i := 2) scHanded.nd rfl (Or.inl rfl) pe_dnewT) (pss_cons (ps_for PassesOwn.never rfl (pi_list (pe_cal c2 hr pass0 (pa_cons (pv 0) (pa_cons (pe_callTy (call_list_dT rfl) (by rfl) T.fr.list bt_list (pa_cons (pv 1) pa_nil)) pa_nil)))) (pg_name (i := 3) scHanded.nd rfl (Or.inl rfl)) (pss_cons (ps_set (i := 4) scHanded.nd rfl (Or.inl rfl) (pe_cal c2 hr pass0 (pa_cons (pv 0) (pa_cons (pe_dget (hu_of hr) (pv 1) (pv 3) (fun _ _ => rfl)) pa_nil)))) (pss_one (ps_dput (hu_of hr) (pv 2) (pv 3) (pe_ix ix_list (pe_lst (pa_cons (pv 4) (pa_cons (pe_callTy call_tupOf (by rfl) T.fr.tuple bt_tuple (pa_cons (pv 4) pa_nil)) pa_nil))) (pe_cal c1 hr1 pass0 (pa_cons (pv 0) (pa_cons pe_int pa_nil))) (fun _ _ => rfl)) rfl)))) (pss_one (ps_ret (pv 2))))), ?_⟩
    intro d hd
    have e0 : Same H (L2.upd H d (.dT [])) := Same.new hd
    have ndl : d ≠ l := fun z => by
      obtain ⟨x, y, c, h⟩ := hl
      rw [← z, hd] at h
      cases h
    obtain ⟨kv0, g1, g2, g3⟩ := id hrows
    have nd0 : d0 ≠ d := ne_of_none g1 hd
    refine ⟨_, rfl, _, rfl, d0, kv0, rfl, .inl (e0 _ _ g1), fun la as hla hk => ?_⟩
    have e1 : Same (L2.upd H d (.dT [])) (L2.upd (L2.upd H d (.dT [])) la (.lst (as.map V.ref))) := Same.new hla
    have hb0 : BgL (L2.upd (L2.upd H d (.dT [])) la (.lst (as.map V.ref))) (as.map V.ref) (bagsOf c) := (keys_bgl hk g2).tk (Same.tk e1)
    have hla1 : (L2.upd (L2.upd H d (.dT [])) la (.lst (as.map V.ref))) la = some (.lst (as.map V.ref)) := upd_same
    have hd1 := e1 _ _ (show L2.upd H d (.dT []) d = some (.dT []) from upd_same)
    have e01 := e0.trans e1
    generalize L2.upd (L2.upd H d (.dT [])) la (.lst (as.map V.ref)) = H1 at hb0 hla1 hd1 e01 ⊢
    clear e1
    have hl1 := hl.same e01
    have nla : la ≠ l := fun z => by
      obtain ⟨x, y, c, h⟩ := hl.same e0
      rw [← z, hla] at h
      cases h
    have hlen := len_bags hc
    refine ⟨l, la, _, rfl, hl1, hla1, nla, by rw [Paired.length hb0]; omega, fun H2 lb bs e2 hl2 hlb hbs hperm => ?_⟩
    obtain ⟨bgs, hpb, hb⟩ := Paired.permL hperm hb0
    have hb2 := BgL.tk hb (hl1.tk e2)
    have e02 : SameX l H H2 := (Same.x e01).trans e2
    have nlb : lb ≠ l := fun z => by
      obtain ⟨x, y, c, h⟩ := hl1
      rw [← z, hlb] at h
      cases h
    refine ⟨lb, rfl, ⟨_, SqL.of hbs⟩, for_list (K := K) (a := lb) (xs := bs) (fun i σ H' => (∃ v1 : Option V, σ = [some (.ref l), some (.ref d0), some (.ref d), v1 , (if i = 0 then none else σ.getD 4 none)] ) ∧ SameX l H H' ∧ H' lb = some (.lst bs) ∧ StreamAt H' l ∧ Tk H2 H' ∧
      RowsPre H' d (bgs.take i) (ValH R l)) ⟨⟨none, rfl⟩, e02, hbs, hl2, Tk.refl _, [], e2 _ _ ndl hd1, rfl, fun j b h => by simp at h⟩ (fun i σ H' _ e => SqL.of e.2.2.1) ?_ ?_⟩
    · rintro i y σ H3 hi ⟨⟨v1, hσ⟩, e3, hbs3, hl3, tk3, hpre⟩
      obtain ⟨b, hbi, q, rfl, hq⟩ := Paired.at (hb2.tk tk3) hi
      have hbm : b ∈ bagsOf c := hpb.mem_iff.mp (List.mem_of_getElem? hbi)
      generalize (if i = 0 then none else σ.getD 4 none) = v2 at hσ
      subst hσ
      obtain ⟨kv3, w1, w2, w3⟩ := hrows.stream hl e3
      obtain ⟨v, hva, a, xs, rfl, ha, hoa⟩ := w3 b hbm
      have nal := hl3.neRow ha hoa
      have hal : xs.length ≤ 10 := by rw [Paired.length hoa]; exact hcan.len hc hbm
      refine ⟨_, rfl, _, rfl, _, rfl, d0, _, rfl, DGet.rdT (.inl w1) hq hva, l, a, xs, rfl, hl3, ha, nal, by omega, fun H4 m ys e4 hl4 hm hys hperm4 => ?_⟩
      have tk4 := hl3.tk e4
      obtain ⟨os, hpo, hoy⟩ := Paired.permL hperm4 (hoa.tk tk4)
      -- the list, its tuple, the draw
      refine ⟨_, rfl, _, rfl, m, ys, rfl, .inl ⟨SqL.of hys, fun tt htt => ?_⟩⟩
      have e5 : Same H4 (L2.upd H4 tt (.tup ys)) := Same.new htt
      refine ⟨(by show 2 ≤ sizeLine; decide), fun pr hpr => ?_⟩
      have e6 : Same (L2.upd H4 tt (.tup ys)) (L2.upd (L2.upd H4 tt (.tup ys)) pr (.lst [.ref m, .ref tt])) := Same.new hpr
      have htt6 := e6 _ _ (show L2.upd H4 tt (.tup ys) tt = some (.tup ys) from upd_same)
      have hpr6 : (L2.upd (L2.upd H4 tt (.tup ys)) pr (.lst [.ref m, .ref tt])) pr = some (.lst [.ref m, .ref tt]) := upd_same
      have e46 := e5.trans e6
      have npl : pr ≠ l := fun z => by
        obtain ⟨x, y, c, h⟩ := hl4.same e5
        rw [← z, hpr] at h
        cases h
      generalize L2.upd (L2.upd H4 tt (.tup ys)) pr (.lst [.ref m, .ref tt]) = H6 at e6 htt6 hpr6 e46 ⊢
      clear e6
      have hl6 := hl4.same e46
      refine ⟨_, rfl, l, 2, rfl, hl6, by decide, by decide, fun H7 o e7 hl7 o0 o2 => ?_⟩
      have tk7 := hl6.tk e7
      have hoy7 : OcL H7 ys os := (OcL.tk hoy (Same.tk e46)).tk tk7
      have nml : m ≠ l := fun z => by
        obtain ⟨x, y, c, h⟩ := hl3
        rw [← z, hm] at h
        cases h
      have ntl : tt ≠ l := hl6.ne htt6 (by intro xs z; cases z)
      have hm7 := e7 _ _ nml (e46 _ _ hys)
      have htt7 := e7 _ _ ntl htt6
      obtain ⟨u, hu, hat, hrow⟩ : ∃ u, u ≠ l ∧ atI [V.ref m, .ref tt] o = some (.ref u) ∧ RowAt H7 u os := by
        have : o = 0 ∨ o = 1 := by omega
        rcases this with rfl | rfl
        · exact ⟨m, nml, rfl, ys, .inl hm7, hoy7⟩
        · exact ⟨tt, ntl, rfl, ys, .inr htt7, hoy7⟩
      refine ⟨pr, _, o, _, rfl, rfl, SqL.of (e7 _ _ npl hpr6), hat, ?_⟩
      have e37 : SameX l H3 H7 := (e4.trans (Same.x e46)).trans e7
      have tk37 : Tk H3 H7 := hl3.tk e37
      obtain ⟨kvs, hk1, hk2⟩ := hpre.len
      have hpre7 : RowsPre H7 d (bgs.take i) (ValH R l) := hpre.imp ((e37 _ _ ndl hk1).trans hk1.symm) fun b v z => z.keep e37 tk37
      have hd7 := e37 _ _ ndl hk1
      have hnb : b ∉ bgs.take i := by
        intro hmm
        have nd : bgs.Nodup := hpb.nodup_iff.mpr (nd_bags hc)
        rw [← List.take_append_drop i bgs, List.nodup_append] at nd
        refine nd.2.2 b hmm b ?_ rfl
        have hlt : i < bgs.length := (List.getElem?_eq_some_iff.mp hbi).1
        rw [List.drop_eq_getElem_cons hlt]
        have : bgs[i] = b := (List.getElem?_eq_some_iff.mp hbi).2
        rw [this]
        exact List.mem_cons_self
      have hbl : bgs.length ≤ 9 := by rw [hpb.length_eq]; exact hlen
      obtain ⟨H8, hput, e8, hpre8, o8, ho8⟩ := hpre7.put (q := q) (v := .ref u) hnb (by rw [List.length_take]; omega) (tk37 _ _ hq) (fun H' e => ⟨u, os, rfl, hu, hrow.dict hd7 e, hpo⟩)
        (fun H' e b' v' z => by
          obtain ⟨a', os', z1, z2, z3, z4⟩ := z
          exact ⟨a', os', z1, z2, z3.dict hd7 e, z4⟩)
      refine ⟨_, rfl, _, rfl, d, H8, rfl, hput, ⟨_, rfl⟩, ?_, e8.dict hd7 (e37 _ _ nlb hbs3) (by intro ws z; cases z), ?_, (tk3.trans tk37).trans (e8.dictTk hd7), ?_⟩
      · rw [ho8]
        exact SameX.upd2 (e3.trans e37) hd
      · obtain ⟨x, y, c, h⟩ := hl7
        exact ⟨x, y, c, e8.dict hd7 h (by intro ws z; cases z)⟩
      · rw [take_more hbi]
        exact hpre8
    · rintro σ H3 ⟨⟨v1, hσ⟩, e3, hbs3, hl3, tk3, hpre⟩
      have hbl : bs.length = bgs.length := Paired.length hb
      rw [hbl, List.take_length] at hpre
      obtain ⟨L, h1, h2, h3⟩ := handed_done hc hcan hpb hpre
      rw [hσ]
      exact ⟨_, rfl, k H3 d L e3 hl3 hd h1 h2 h3⟩
end
end Rt
set_option Elab.async false
set_option linter.all false
set_option maxRecDepth 100000
set_option maxHeartbeats 2000000
namespace Rt
open PySem PySem.Spec PyProof.Rows L2
/-! ### rows as they are read, the dict maybe walked at the time -/
def RowsRd (H : Hp) (d : Addr) (c : Nat) (R : Rw) : Prop := ∃ kvs, Rd H d (.dT kvs) ∧ ∀ b ∈ bagsOf c, ∃ v, valV kvs (keyOf b) = some v ∧ ValL R b v H
theorem RowsL.rd {H : Hp} {d : Addr} {c : Nat} {R : Rw} (h : RowsL H d c R) : RowsRd H d c R := by
  obtain ⟨kvs, h1, h2, h3⟩ := h
  exact ⟨kvs, .inl h1, h3⟩
theorem RowsRd.same {H H' : Hp} {d : Addr} {c : Nat} {R : Rw} (h : RowsRd H d c R) (e : Same H H') : RowsRd H' d c R := by
  obtain ⟨kvs, h1, h3⟩ := h
  refine ⟨kvs, Rd.same h1 e, fun b hb => ?_⟩
  obtain ⟨v, z, a, xs, z1, z2, z3⟩ := h3 b hb
  exact ⟨v, z, a, xs, z1, e _ _ z2, z3.tk (Same.tk e)⟩
theorem ValL.dict {R : Rw} {b : Bg} {v : V} {H H' : Hp} {d : Addr} {kvs : List (List Key × V)} (h : ValL R b v H) (hd : H d = some (.dT kvs)) (e : SameX d H H') : ValL R b v H' := by
  obtain ⟨a, xs, z1, z2, z3⟩ := h
  exact ⟨a, xs, z1, e.dict hd z2 (by intro ws z; cases z), z3.tk (e.dictTk hd)⟩
theorem RowsRd.lock {H : Hp} {d d0 : Addr} {c : Nat} {R : Rw} {kvs0 : List (List Key × V)} {o : Obj} (h : RowsRd H d c R) (h0 : H d0 = some (.dT kvs0)) : RowsRd (L2.upd H d0 (.frz o (.dT kvs0))) d c R := by
  obtain ⟨kvs, h1, h3⟩ := h
  refine ⟨kvs, ?_, fun b hb => (h3 b hb).imp fun v z => ⟨z.1, z.2.dict h0 SameX.upd⟩⟩
  by_cases hd : d = d0
  · subst hd
    rcases h1 with h1 | ⟨o2, h1⟩
    · rw [h0] at h1
      cases h1
      exact .inr ⟨o, upd_same⟩
    · rw [h0] at h1
      cases h1
  · exact h1.imp (fun z => by rw [upd_ne hd]; exact z) fun ⟨o2, z⟩ => ⟨o2, by rw [upd_ne hd]; exact z⟩
/-- but for d: under what changes d alone, d a dict -/
theorem RowsRd.dict {H H' : Hp} {d e0 : Addr} {c : Nat} {R : Rw} {kvs : List (List Key × V)} (h : RowsRd H e0 c R) (hd : H d = some (.dT kvs)) (n : e0 ≠ d) (e : SameX d H H') : RowsRd H' e0 c R := by
  obtain ⟨k1, h1, h3⟩ := h
  exact ⟨k1, h1.imp (e _ _ n) (fun ⟨o, z⟩ => ⟨o, e _ _ n z⟩), fun b hb => (h3 b hb).imp fun v z => ⟨z.1, z.2.dict hd e⟩⟩
/-- the i-th key of a walked dict of bags -/
theorem key_at {c i : Nat} {kvs : List (List Key × V)} {kk : List Key} {vv : V} (h : kvs.map (·.1) = (bagsOf c).map keyOf) (hk : kvs[i]? = some (kk, vv)) : ∃ b, (bagsOf c)[i]? = some b ∧ b ∈ bagsOf c ∧ kk = keyOf b := by
  have z := congrArg (fun l => l[i]?) h
  simp only [List.getElem?_map, hk, Option.map_some] at z
  obtain ⟨b, hb, e⟩ := Option.map_eq_some_iff.mp z.symm
  exact ⟨b, hb, List.mem_of_getElem? hb, e.symm⟩
abbrev sLBehind : Stmt := topS 41
abbrev sLStars : Stmt := topS 42
def spLBehind : Sp := fun vs H Q _ => ∃ (t d0 d1 : Addr) (c : Nat) (s p : Bool) (R S : Rw), vs = [.ref t, .ref d0, .ref d1] ∧ TripAt H t c s p ∧ CapOk c ∧ RowsL H d0 c R ∧ RowsRd H d1 c S ∧ CanR c R ∧ CanR c S ∧
  ∀ H' d, Same H H' → H d = none → RowsL H' d c (thenR c R S) → Q (.ref d) H'
def spLStars : Sp := fun vs H Q _ => ∃ (d0 : Addr) (c : Nat) (R : Rw), vs = [.ref d0] ∧ CapOk c ∧ RowsL H d0 c R ∧ CanR c R ∧ ∀ H' d, Same H H' → H d = none → RowsL H' d c (starsR R) → Q (.ref d) H'
theorem scLBehind : FnScope ["_law_rules_here", "_law_rows_here", "_law_others", "_law_found", "_law_bag", "_law_ends", "_law_outcome"] ["_law_rules_here", "_law_rows_here", "_law_others"] (defScope sLBehind) := ⟨rfl, rfl, rfl, by decide +kernel, rfl, by decide +kernel, by decide +kernel⟩
theorem scLStars : FnScope ["_law_rows_here", "_law_bag", "_law_outcome"] ["_law_rows_here"] (defScope sLStars) := ⟨rfl, rfl, rfl, by decide +kernel, rfl, by decide +kernel, by decide +kernel⟩
section
variable {P : Program} {w : World} {K : PySem.W.Frag} {mg : Str → Option Value} {base : Heap} {CR CT CB CM : Addr}
theorem ok_lbehind (T : Tx K mg CR CT) (D : Def K mg "_law_behind" 41 ["_law_rules_here", "_law_rows_here", "_law_others"]) (c1 : Cal P w K mg base CX0 2 "_law_in_order" ["_law_rules_here", "_law_outcomes"] spLOrd) :
    Cal P w K mg base CX0 3 "_law_behind" ["_law_rules_here", "_law_rows_here", "_law_others"] spLBehind := by
  obtain ⟨f, fd, G, gl, bi⟩ := D
  refine ⟨f, fd, G.ok (k := 2) scLBehind (fun vs H Q E h => ?_) (fun cdv A outer s H vs Q E hr h => ?_), gl, G.kp, bi⟩
  · obtain ⟨t, d0, d1, c, s, p, R, S, rfl, _⟩ := h
    rfl
  · obtain ⟨t, d0, d1, c, s, p, R, S, rfl, ht, hc, hR, hS, hcR, hcS, k⟩ := h
    refine ⟨_, (pss_cons (ps_set (i := 3) scLBehind.nd rfl (Or.inl rfl) pe_dnewT) (pss_cons (ps_lock (ps_for PassesOwn.never rfl (pi_keys (pv 1)) (pg_name (i := 4) scLBehind.nd rfl (Or.inl rfl)) (pss_cons (ps_set (i := 5) scLBehind.nd rfl (Or.inl rfl) (pe_lst pa_nil)) (pss_cons (ps_for PassesOwn.never rfl (pi_list (pe_dget (hu_of hr) (pv 1) (pv 4) (fun _ _ => rfl))) (pg_name (i := 6) scLBehind.nd rfl (Or.inl rfl)) (pss_one (ps_if (pt_cmpR (op_eqD (u64 hr)) (pv 6) pe_str (by rfl)) (pss_one (ps_expr (pe_bm PySem.F.plainAttrs_list PySem.F.slot_list_append PySem.F.type_list_append mt_append (pv 5) (pa_cons pe_str pa_nil)))) (pss_one (ps_set (i := 5) scLBehind.nd rfl (Or.inl rfl) (pe_op op_cat (pv 5) (pe_dget (hu_of hr) (pv 2) (pv 6) (fun _ _ => rfl)))))))) (pss_one (ps_dput (hu_of hr) (pv 3) (pv 4) (pe_cal c1 hr pass0 (pa_cons (pv 0) (pa_cons (pv 5) pa_nil))) rfl)))))) (pss_one (ps_ret (pv 3))))), ?_⟩
    intro d hd
    have e0 : Same H (L2.upd H d (.dT [])) := Same.new hd
    obtain ⟨kv0, g1, g2, g3⟩ := id hR
    have nd0 : d0 ≠ d := ne_of_none g1 hd
    have nd1 : d1 ≠ d := by
      obtain ⟨kv1, w1, _⟩ := id hS
      rcases w1 with w1 | ⟨o, w1⟩
      · exact ne_of_none w1 hd
      · exact ne_of_none w1 hd
    have ht1 := e0 _ _ ht
    have hS1 := hS.same e0
    have hR1 := hR.rd.same e0
    have g11 := e0 _ _ g1
    have hd1 : L2.upd H d (.dT []) d = some (.dT []) := upd_same
    refine ⟨d0, _, g11, True.intro, fun od => ?_⟩
    have htL : TripAt (L2.upd (L2.upd H d (.dT [])) d0 (.frz od (.dT kv0))) t c s p := by
      show (L2.upd (L2.upd H d (.dT [])) d0 (.frz od (.dT kv0))) t = _
      rw [upd_ne (ne_of ht1 g11 (by intro z; cases z))]
      exact ht1
    have hSL := hS1.lock (o := od) g11
    have hRL := hR1.lock (o := od) g11
    have hdL : (L2.upd (L2.upd H d (.dT [])) d0 (.frz od (.dT kv0))) d = some (.dT []) := by rw [upd_ne nd0.symm]; exact hd1
    have h0L : (L2.upd (L2.upd H d (.dT [])) d0 (.frz od (.dT kv0))) d0 = some (.frz od (.dT kv0)) := upd_same
    have hun : ∀ H2, SameX d (L2.upd (L2.upd H d (.dT [])) d0 (.frz od (.dT kv0))) H2 → Same H (L2.upd H2 d0 (.dT kv0)) := by
      intro H2 e b o hb
      by_cases h0 : b = d0
      · rw [h0] at hb ⊢
        rw [upd_same, ← hb, g1]
      · rw [upd_ne h0]
        exact e b o (ne_of_none hb hd) (by rw [upd_ne h0]; exact e0 _ _ hb)
    generalize L2.upd (L2.upd H d (.dT [])) d0 (.frz od (.dT kv0)) = HL at htL hSL hRL hdL h0L hun ⊢
    refine ⟨_, rfl, d0, od, rfl, .inr ⟨kv0, h0L, for_it walk_keysT (fun i σ H' => (∃ v4 v5 v6 : Option V, σ = [some (.ref t), some (.ref d0), some (.ref d1), some (.ref d), v4, v5, v6]) ∧ SameX d HL H' ∧ RowsPre H' d ((bagsOf c).take i) (ValL (thenR c R S)))
      ⟨⟨none, none, none, rfl⟩, SameX.refl _ _, [], hdL, rfl, fun j b h => by simp at h⟩ (fun i σ H' _ e => e.2.1 _ _ nd0 h0L) ?_ ?_⟩⟩
    · rintro i z σ H2 H3 hi ⟨⟨v4, v5, v6, rfl⟩, e2, hpre⟩ ⟨rfl, kk, vv, q, hk, rfl, hq⟩
      obtain ⟨b, hbi, hbm, rfl⟩ := key_at g2 hk
      have ht3 : TripAt H3 t c s p := e2.dict hdL htL (by intro ws z; cases z)
      have hS3 := hSL.dict hdL nd1 e2
      have hR3 := hRL.dict hdL nd0 e2
      obtain ⟨kv3, w1, w3⟩ := id hR3
      obtain ⟨v, hva, a, xs, rfl, ha, hoa⟩ := w3 b hbm
      -- ends = [], then the inner for
      refine ⟨(by show 0 ≤ sizeLine; decide), fun le hle => ?_⟩
      have e4 : Same H3 (L2.upd H3 le (.lst [])) := Same.new hle
      refine ⟨_, rfl, _, rfl, d0, _, rfl, DGet.rdT (Rd.same w1 e4) (e4 _ _ hq) hva, a, rfl, ⟨_, SqL.of (e4 _ _ ha)⟩, ?_⟩
      refine for_list (K := K) (a := a) (xs := xs) (fun j σ H' => (∃ (v6 : Option V) (m : Addr), σ = [some (.ref t), some (.ref d0), some (.ref d1), some (.ref d), some (.ref q), some (.ref m), v6] ∧ H3 m = none ∧ ∃ acc, H' m = some (.lst acc) ∧ OcL H' acc (((R b).take j).flatMap (ends S)) ∧ acc.length ≤ 10 * j) ∧ Same H3 H')
        ⟨⟨v6, le, rfl, hle, [], upd_same, .nil, Nat.zero_le _⟩, e4⟩ (fun j σ H' _ e => SqL.of (e.2 _ _ ha)) ?_ ?_
      · rintro j y σ H5 hj ⟨⟨v6', m, rfl, hm, acc, hacc, hoc, hal⟩, e5⟩
        obtain ⟨o, hjo, hyo⟩ := Paired.at (hoa.tk (Same.tk e5)) hj
        have hom : o ∈ R b := List.mem_of_getElem? hjo
        have hj10 : j < 10 := Nat.lt_of_lt_of_le (List.getElem?_eq_some_iff.mp hjo).1 (hcR.len hc hbm)
        have more : ((R b).take (j + 1)).flatMap (ends S) = ((R b).take j).flatMap (ends S) ++ ends S o := by
          rw [take_more hjo, List.flatMap_append]
          simp
        refine ⟨_, rfl, ocD o, .str "star", hyo.dp, .str _, ocD_shaped o, (by decide +kernel), _, rfl, ?_⟩
        have eq : PyData.eqv (ocD o) (.str "star") = decide (o = .star) := ocD_eqv o .star
        by_cases hs : o = .star
        · refine ifT (c := PyData.eqv (ocD o) (.str "star")) (by rw [eq]; exact decide_eq_true hs) ?_
          subst hs
          refine ⟨_, rfl, .inl ⟨rfl, _, SqL.of hacc⟩, m, acc, _, rfl, rfl, hacc, Nat.lt_of_le_of_lt (m := 100) (by omega) (by decide), ?_⟩
          refine ⟨⟨_, m, rfl, hm, _, upd_same, ?_, by rw [List.length_append, List.length_singleton]; omega⟩, Same.keepU hm e5⟩
          rw [more]
          exact Paired.app (hoc.tk (Tk.put hacc)) (Paired.one (show IsOc _ (.str "star") .star from rfl))
        · refine ifF (c := PyData.eqv (ocD o) (.str "star")) (by rw [eq]; exact decide_eq_false hs) ?_
          obtain ⟨b', rfl, hbm'⟩ : ∃ b', o = ocOf b' ∧ b' ∈ bagsOf c := by
            rcases bag_oc ((hcR b hbm).sub hom) with h | ⟨b', h1, h2⟩
            · exact absurd h hs
            · exact ⟨b', h2, h1⟩
          obtain ⟨kv5, x1, x3⟩ := hS3.same e5
          obtain ⟨u, hua, a2, ys, rfl, ha2, hoy⟩ := x3 b' hbm'
          obtain ⟨q2, rfl, hq2⟩ := hyo
          have hyl : ys.length ≤ 10 := by rw [Paired.length hoy]; exact hcS.len hc hbm'
          refine ⟨_, rfl, _, rfl, _, rfl, d1, _, rfl, DGet.rdT x1 hq2 hua, m, a2, acc, ys, rfl, rfl, hacc, ha2, Nat.le_trans (m := 200) (by omega) (by decide), fun n hn => ?_⟩
          have e6 : Same H5 (L2.upd H5 n (.lst (acc ++ ys))) := Same.new hn
          refine ⟨⟨_, n, rfl, e5.free hn, _, upd_same, ?_, by rw [List.length_append]; omega⟩, e5.trans e6⟩
          rw [more]
          exact Paired.app (hoc.tk (Same.tk e6)) (hoy.tk (Same.tk e6))
      · rintro σ H5 ⟨⟨v6', m, rfl, hm, acc, hacc, hoc, hal⟩, e5⟩
        rw [Paired.length hoa, List.take_length, ← behind_ends] at hoc
        refine ⟨_, rfl, _, rfl, t, m, c, s, p, behindL R S b, rfl, e5 _ _ ht3, hc, ⟨acc, .inl hacc, hoc⟩, fun H6 lx ys e6 hlx hys hoy => ?_⟩
        have e36 := e5.trans e6
        have hpre6 : RowsPre H6 d ((bagsOf c).take i) (ValL (thenR c R S)) := by
          obtain ⟨kvs, hk1, hk2⟩ := hpre.len
          refine hpre.imp ((e36 _ _ hk1).trans hk1.symm) fun b v z => ?_
          obtain ⟨a, xs, z1, z2, z3⟩ := z
          exact ⟨a, xs, z1, e36 _ _ z2, z3.tk (Same.tk e36)⟩
        obtain ⟨kvs6, hk61, hk62⟩ := hpre6.len
        have hnb : b ∉ (bagsOf c).take i := by
          intro hm
          have nd := nd_bags hc
          rw [← List.take_append_drop i (bagsOf c), List.nodup_append] at nd
          refine nd.2.2 b hm b ?_ rfl
          have hlt : i < (bagsOf c).length := (List.getElem?_eq_some_iff.mp hbi).1
          rw [List.drop_eq_getElem_cons hlt]
          have : (bagsOf c)[i] = b := (List.getElem?_eq_some_iff.mp hbi).2
          rw [this]
          exact List.mem_cons_self
        have hlen := len_bags hc
        obtain ⟨H7, hput, e7, hpre7, o7, ho7⟩ := hpre6.put (q := q) (v := .ref lx) hnb (by rw [List.length_take]; omega) (e36 _ _ hq) (fun H' e => ⟨lx, ys, rfl, e.dict hk61 hys (by intro ws z; cases z), hoy.tk (e.dictTk hk61)⟩)
          (fun H' e b' v' z => z.dict hk61 e)
        refine ⟨_, rfl, _, rfl, d, H7, rfl, hput, ⟨_, _, _, rfl⟩, (e2.trans (Same.x e36)).trans e7, ?_⟩
        rw [take_more hbi]
        exact hpre7
    · rintro σ H2 ⟨⟨v4, v5, v6, rfl⟩, e2, hpre⟩
      have hbl : kv0.length = (bagsOf c).length := by
        have z1 := congrArg List.length g2
        rw [List.length_map, List.length_map] at z1
        exact z1
      rw [hbl, List.take_length] at hpre
      have h02 := e2 _ _ nd0 h0L
      refine ⟨h02, _, rfl, k _ d (hun H2 e2) hd ?_⟩
      refine (hpre.done (nd_bags hc)).imp (upd_ne nd0.symm) fun b _ v z => ?_
      obtain ⟨a, xs, z1, z2, z3⟩ := z
      exact ⟨a, xs, z1, by rw [upd_ne (ne_of z2 h02 (by intro z; cases z))]; exact z2, z3.tk (Tk.upd fun ws z => by rw [h02] at z; cases z)⟩
end
end Rt
set_option Elab.async false
set_option linter.all false
set_option maxRecDepth 100000
set_option maxHeartbeats 2000000
namespace Rt
open PySem PySem.Spec PyProof.Rows L2
/-- the scope of the outer comprehension -/
def scIn : Scope := { kind := .function, names := [((".0" : Str), .local), (("_law_bag" : Str), .local), (("_law_rows_here" : Str), .cell)], isGenerator := false, isCoroutine := false }
section
variable {P : Program} {w : World} {K : PySem.W.Frag} {mg : Str → Option Value} {base : Heap} {CR CT CB CM : Addr}
theorem ok_lstars (T : Tx K mg CR CT) (D : Def K mg "_law_stars" 42 ["_law_rows_here"]) : Cal P w K mg base CX0 2 "_law_stars" ["_law_rows_here"] spLStars := by
  obtain ⟨f, fd, G, gl, bi⟩ := D
  refine ⟨f, fd, G.ok (k := 1) scLStars (fun vs H Q E h => ?_) (fun cdv A outer s H vs Q E hr h => ?_), gl, G.kp, bi⟩
  · obtain ⟨d0, c, R, rfl, _⟩ := h
    rfl
  · obtain ⟨d0, c, R, rfl, hc, hR, hcR, k⟩ := h
    refine ⟨_, pss_one (ps_ret (pe_callTy (call_dctT rfl hr) (by rfl) T.fr.dict bt_dict (pa_cons (by exact (pe_lock (pe_lc (own := [("_law_bag", 1)]) (g := gName 1) (tt := tYes)
      (te := tTup (tCons (tVar 1) (tCons (tLc (iList K (tDGet (tVar 0) (tVar 1))) (gName 2) (tTest (tOp (rEqD K) (tVar 2) (tC (.str "star")))) (tVar 2) [2]) tNil)))
      rfl scLStars.nd (pi_keys (pv 0)) (blkOk_by (N := ["_law_rows_here", "_law_bag", "_law_outcome"]) (sc := defScope sLStars) (by decide +kernel))
      (fun _ _ _ _ _ => pg_name (i := 1) scLStars.nd rfl (Or.inl rfl)) (fun _ _ _ _ _ => pts_nil)
      (fun _ _ _ _ _ => pe_tup (pa_cons (pv 1) (pa_cons (by exact (pe_lc (own := [("_law_outcome", 2)]) (g := gName 2) (tt := tTest (tOp (rEqD K) (tVar 2) (tC (.str "star")))) rfl scLStars.nd
        (pi_list (pe_dget (hu_of hr) (pv 0) (pv 1) (fun _ _ => rfl))) (blkOk_by (N := ["_law_rows_here", "_law_bag", "_law_outcome"]) (sc := scIn) (by decide +kernel))
        (fun _ _ _ _ _ => pg_name (i := 2) scLStars.nd rfl (Or.inl rfl)) (fun _ _ _ _ _ => pts_one (pt_cmpR (op_eqD (u64 hr)) (pv 2) pe_str (by rfl))) (fun _ _ _ _ _ => pv 2))) pa_nil)))))) pa_nil))), ?_⟩
    obtain ⟨kv0, g1, g2, g3⟩ := id hR
    refine ⟨d0, _, g1, True.intro, fun od => ?_⟩
    have hRL := hR.rd.lock (o := od) g1
    have h0L : (L2.upd H d0 (.frz od (.dT kv0))) d0 = some (.frz od (.dT kv0)) := upd_same
    have hun : ∀ H2, Same (L2.upd H d0 (.frz od (.dT kv0))) H2 → Same H (L2.upd H2 d0 (.dT kv0)) := fun H2 e => Same.unlock g1 e
    have hfr : ∀ b, L2.upd H d0 (.frz od (.dT kv0)) b = none → H b = none := fun b h => by
      by_cases z : b = d0
      · rw [z, upd_same] at h; cases h
      · rw [upd_ne z] at h; exact h
    generalize L2.upd H d0 (.frz od (.dT kv0)) = HL at hRL h0L hun hfr ⊢
    have hbl : kv0.length = (bagsOf c).length := by
      have z1 := congrArg List.length g2
      rw [List.length_map, List.length_map] at z1
      exact z1
    refine ⟨_, rfl, d0, od, rfl, .inr ⟨kv0, h0L, fun D hD => ?_⟩⟩
    have key : LcEnd (Itkt d0 od kv0) (gName 1) tYes (tTup (tCons (tVar 1) (tCons (tLc (iList K (tDGet (tVar 0) (tVar 1))) (gName 2) (tTest (tOp (rEqD K) (tVar 2) (tC (.str "star")))) (tVar 2) [2]) tNil))) [1]
        (L2.start ["_law_rows_here", "_law_bag", "_law_outcome"] [.ref d0]) HL D (fun H4 => ∃ ps kvs, Same HL H4 ∧ H4 D = some (.lst (ps.map V.ref)) ∧ Paired (PairT H4) ps kvs ∧ kvs.map (·.1) = (bagsOf c).map keyOf ∧
          ∀ (j : Nat) b, (bagsOf c)[j]? = some b → ∃ kv, kvs[j]? = some kv ∧ ∀ H', SameX D H4 H' → ValL (starsR R) b kv.2 H') := by
      refine lc_pairsG (by rw [← hbl]; exact walk_keysT) (k := 1) (fun x => rfl) hD ?_ (Nat.le_trans (len_bags hc) (by decide)) (fun H e => e _ _ h0L) (ValL (starsR R)) ?_ (fun H4 ps kvs e h1 h2 h3 h4 => ⟨ps, kvs, e, h1, h2, h3, h4⟩)
      · rintro i x H2 H3 hi e2 ⟨rfl, kk, vv, q, hk, rfl, hq⟩
        obtain ⟨b, hbi, hbm, rfl⟩ := key_at g2 hk
        exact ⟨rfl, b, hbi, q, rfl, hq⟩
      · rintro i x b H4 Rk hbi hxb e4 ⟨acc, hacc⟩ hRk
        have hbm : b ∈ bagsOf c := List.mem_of_getElem? hbi
        obtain ⟨q, rfl, hq⟩ := hxb
        obtain ⟨kv4, w1, w3⟩ := hRL.same e4
        obtain ⟨v, hva, a, xs, rfl, ha, hoa⟩ := w3 b hbm
        refine ⟨_, rfl, _, rfl, _, rfl, d0, _, rfl, DGet.rdT w1 hq hva, a, rfl, ⟨_, SqL.of ha⟩, fun D2 hD2 => ?_⟩
        refine lc_pick walk_list (k := 2) (q := fun o => decide (o = .star)) (fun x => rfl) (fun x => rfl) hD2 (Nat.le_trans (hcR.len hc hbm) (by decide)) hoa (fun H2 e2 => SqL.of (e2 _ _ ha)) ?_ ?_
        · intro x o H5 R5 hx hm e5 hR5
          refine ⟨x, rfl, ocD o, .str "star", hx.dp, .str _, ocD_shaped o, (by decide +kernel), _, rfl, ?_⟩
          have eq : PyData.eqv (ocD o) (.str "star") = decide (o = .star) := ocD_eqv o .star
          rw [eq]
          exact hR5
        · intro H5 acc2 e5 hacc2 hoc
          refine ⟨(by show 2 ≤ sizeLine; decide), fun pr hpr => ?_⟩
          have e6 : Same H5 (L2.upd H5 pr (.tup [.ref q, .ref D2])) := Same.new hpr
          have hD6 := e6 _ _ (e5 _ _ hacc)
          have nDD : D2 ≠ D := fun z => by rw [z, hacc] at hD2; cases hD2
          refine hRk _ pr (.ref D2) (e5.trans e6) upd_same fun H' eH => ⟨D2, acc2, rfl, eH _ _ nDD (e6 _ _ hacc2), (hoc.tk (Same.tk e6)).tk (SameX.tk hD6 eH)⟩
    refine LcEnd.imp key ?_
    rintro H4 ⟨ps, kvs, e4, h1, h2, h3, h4⟩
    have nD0 : D ≠ d0 := fun z => by rw [z, h0L] at hD; cases hD
    refine ⟨e4 _ _ h0L, ?_⟩
    have h04 := e4 _ _ h0L
    have tkU : Tk H4 (L2.upd H4 d0 (.dT kv0)) := Tk.upd fun ws z => by rw [h04] at z; cases z
    -- at the unlocked heap
    have sx : SameX d0 H4 (L2.upd H4 d0 (.dT kv0)) := SameX.upd
    have h1' : (L2.upd H4 d0 (.dT kv0)) D = some (.lst (ps.map V.ref)) := by rw [upd_ne nD0]; exact h1
    have h2' : Paired (PairT (L2.upd H4 d0 (.dT kv0))) ps kvs := Paired.mapP h2 fun p kv z => by
      obtain ⟨q, z1, z2⟩ := z
      exact ⟨q, tkU _ _ z1, tkU _ _ z2⟩
    refine (show rDictT K [.ref D] (L2.upd H4 d0 (.dT kv0)) Q from rowsK_new (H1 := H) (nd_bags hc) (hfr D hD) (hun H4 e4) h1' h2' h3 (Val := ValL (starsR R)) (fun j b hj => ?_) (fun d H' e hd hrk => k H' d e hd hrk))
    obtain ⟨kv, z1, z2⟩ := h4 j b hj
    refine ⟨kv, z1, fun H' e => ?_⟩
    obtain ⟨a, xs, y1, y2, y3⟩ := z2 (L2.upd H4 D (.dT [])) SameX.upd
    have step : ∀ b o, L2.upd H4 D (.dT []) b = some o → (∀ ws, o ≠ .dT ws) → (∀ oo u, o ≠ .frz oo u) → H' b = some o := by
      intro b o hb ho ho2
      have n1 : b ≠ D := fun z => by rw [z, upd_same] at hb; exact ho _ (Option.some.inj hb).symm
      rw [upd_ne n1] at hb
      have n2 : b ≠ d0 := fun z => by rw [z, h04] at hb; exact ho2 _ _ (Option.some.inj hb).symm
      exact e b o n1 (by rw [upd_ne n2]; exact hb)
    exact ⟨a, xs, y1, step _ _ y2 (by intro ws z; cases z) (by intro o u z; cases z), y3.tk fun b ws hb => step _ _ hb (by intro ws z; cases z) (by intro o u z; cases z)⟩
end
end Rt
set_option Elab.async false
set_option linter.all false
set_option maxRecDepth 100000
set_option maxHeartbeats 2000000
namespace Rt
open PySem PySem.Spec PyProof.Rows L2
/-! ### _law_shows -/
section
variable (P : Program) (w : World) (K : PySem.W.Frag) (mg : Str → Option Value) (base : Heap)
def CalG (k : Nat) (x : Str) (ps : List Str) (sp : Sp) : Prop :=
  ∃ (f : Addr) (fd : FuncData), FnG P w K mg base CX0 k f fd ps sp ∧ mg x = some (.ref f) ∧ PySem.W.keepIn K (.ref f) = true ∧ L2.Binds K fd ps []
end
theorem pe_calG {X : Cx} {k : Nat} {x : Str} {ps : List Str} {sp : Sp} {p pos : Pos} {e : Expr} {es : List Expr} {t : TA} (c : CalG X.prog X.w X.K X.mg X.base k x ps sp) (hgu : X.A.guards = some []) (hr : Room k X.A) (ha : PA X (e :: es) t) (hg : Gl X x := by rfl)
    (hdb : (x == ("__debug__" : Str)) = false := by decide) (he : starEach (e :: es) X.env = (false, eval e X.env) :: starEach es X.env := by rfl)
    (hpl : (backTo pos (starEach es X.env)).any (·.1) = false := by rfl) : PE X (.Call (.Name x p) (e :: es) [] pos) (tCall sp [] E0 t) := by
  obtain ⟨f, fd, G, hm, hk, hb⟩ := c
  exact pe_callG G hgu hr hg hm hk hb pass0 ha hdb he hpl
theorem ocD_showable {c : Nat} (hc : CapOk c) : ∀ o ∈ ocs c, PyData.showable (ocD o) = true := by
  rcases hc with rfl | rfl
  · decide +kernel
  · decide +kernel
theorem ocsD_showable {c : Nat} (hc : CapOk c) : ∀ os : List Oc, (∀ o ∈ os, o ∈ ocs c) → PyData.showableAll (os.map ocD) = true
  | [], _ => by simp only [List.map_nil, PyData.showableAll]
  | o :: os, h => by
    have ih := ocsD_showable hc os fun p hp => h p (List.mem_cons_of_mem _ hp)
    have h1 := ocD_showable hc o (h o List.mem_cons_self)
    simp only [List.map_cons, PyData.showableAll, ih, h1, Bool.and_true]
theorem ocsD_showableC {c : Nat} (hc : CapOk c) {os : List Oc} (h : ∀ o ∈ os, o ∈ ocs c) : PyData.showable (.list (os.map ocD)) = true := by
  have := ocsD_showable hc os h
  simpa only [PyData.showable] using this
theorem ocsD_noDict (os : List Oc) : PyData.hasDict (.list (os.map ocD)) = false := by
  simp only [PyData.hasDict]
  exact PyData.hasDictAll_of_canLayAll _ (ocsD_canLay os)
theorem ocsD_depthL (os : List Oc) : PyData.depth (.list (os.map ocD)) ≤ 60 := by
  have := ocsD_depth os
  show PyData.depthAll (os.map ocD) + 1 ≤ 60
  omega
abbrev sShows : Stmt := topS 40
def spShows (CR CT : Addr) : Sp := fun vs H Q _ => ∃ (x r bk d0 : Addr) (c : Nat) (s p : Bool) (R S : Rw), vs = [.ref x, .ref bk, .ref d0] ∧ TableAt CR CT H x r c s p R ∧ RulesAt CR H bk c s p ∧ RowsL H d0 c S ∧ EqR' c R S ∧ ∀ H', Same H H' → Q (.bl true) H'
theorem scShows : FnScope ["_law_told", "_law_book", "_law_rows_here", "_law_bag", "_law_found"] ["_law_told", "_law_book", "_law_rows_here"] (defScope sShows) := ⟨rfl, rfl, rfl, by decide +kernel, rfl, by decide +kernel, by decide +kernel⟩
section
variable {P : Program} {w : World} {K : PySem.W.Frag} {mg : Str → Option Value} {base : Heap} {CR CT CB CM : Addr}
theorem ok_shows (T : Tx K mg CR CT) (D : Def K mg "_law_shows" 40 ["_law_told", "_law_book", "_law_rows_here"]) (cE : CalE P w K mg base CR 3 (spREq CR CT)) (p1 : CalP P w K mg base CT 1 "rules" (getSp CT "own_rules"))
    (cO : CalM P w K mg base CT 5 "outcomes" ["self", "bag"] (spOuts CR CT)) : CalG P w K mg base 6 "_law_shows" ["_law_told", "_law_book", "_law_rows_here"] (spShows CR CT) := by
  obtain ⟨f, fd, G, gl, bi⟩ := D
  refine ⟨f, fd, Rt.Fun.okG G (k := 5) scShows (fun vs H Q E h => ?_) (fun cdv A outer s H vs Q E hr hgu h => ?_), gl, G.kp, bi⟩
  · obtain ⟨x, r, bk, d0, c, s, p, R, S, rfl, _⟩ := h
    rfl
  · obtain ⟨x, r, bk, d0, c, s, p, R, S, rfl, hT, hbk, hS, heq, k⟩ := h
    have hr2 : Room 2 _ := hr.mono (by decide)
    have hr4 : Room 4 _ := hr.mono (by decide)
    refine ⟨_, (pss_cons (ps_if (PW.pt (pw_or (pt_not (pt_val (pe_isC T.fr (pv 0) T.gT))) (pw_or1 (pt_cmpR (op_neE cE hr4) (pe_calP p1 T.clT hr2 (pv 0)) (pv 1) (nomark _))))) (pss_one (ps_ret pe_bl)) pss_nil) (pss_cons (ps_lock (ps_for PassesOwn.never rfl (pi_keys (pv 2)) (pg_name (i := 3) scShows.nd rfl (Or.inl rfl)) (pss_cons (ps_set (i := 4) scShows.nd rfl (Or.inl rfl) (pe_calM cO T.clT hr (pv 0) (pa_cons (pv 3) pa_nil))) (pss_cons (ps_if (PW.pt (pw_or (pt_not (pt_val (pe_isB T.fr (pv 4) (hy := T.fr.list) (hv := bt_list)))) (pw_or1 (pt_cmpR op_ne (pe_callB (call_reprD hgu (u70 hr)) (by rfl) T.fr.repr bt_repr (pa_cons (pv 4) pa_nil)) (pe_callB (call_reprD hgu (u70 hr)) (by rfl) T.fr.repr bt_repr (pa_cons (pe_dget (hu_of hr) (pv 2) (pv 3) (fun _ _ => rfl)) pa_nil)) (nomark _))))) (pss_one (ps_ret pe_bl)) pss_nil) (pss_one (ps_expr (pe_bm PySem.F.plainAttrs_list PySem.F.slot_list_append PySem.F.type_list_append mt_append (pv 4) (pa_cons pe_str pa_nil)))))))) (pss_one (ps_ret (pe_callB (cr_all rfl) (by rfl) T.fr.all bt_all (pa_cons (by exact (pe_lock (pe_lc (own := [("_law_bag", 3)]) (g := gName 3) (tt := tYes) (te := tOp (rEqD K) (tMeth CT "outcomes" (spOuts CR CT) [] E0 (tVar 0) (tCons (tVar 3) tNil)) (tDGet (tVar 2) (tVar 3))) rfl scShows.nd (pi_keys (pv 2)) (blkOk_by (N := ["_law_told", "_law_book", "_law_rows_here", "_law_bag", "_law_found"]) (sc := defScope sShows) (by decide +kernel)) (fun _ _ _ _ _ => (pg_name (i := 3) scShows.nd rfl (Or.inl rfl))) (fun _ _ _ _ _ => pts_nil) (fun _ _ _ _ _ => (pe_cmpR (op_eqD (u64 hr)) (pe_calM cO T.clT hr (pv 0) (pa_cons (pv 3) pa_nil)) (pe_dget (hu_of hr) (pv 2) (pv 3) (fun _ _ => rfl)) (by rfl)))))) pa_nil)))))), ?_⟩
    obtain ⟨dx, d, h1, h2, ⟨dr, h3⟩, hc, hcR⟩ := id hT
    obtain ⟨db, hbk'⟩ := id hbk
    refine ⟨_, rfl, _, .ref CT, _, _, true, rfl, .own _, T.tyT h1, T.kTT, true, rfl, iteF ?_⟩
    refine ⟨_, rfl, propRules hT.rd ⟨_, rfl, ?_⟩⟩
    refine ⟨r, bk, _, _, _, _, rfl, rfl, h3, hbk', r, bk, c, s, p, rfl, hT.rules, .inl ⟨c, s, p, hbk, _, rfl, _, rfl, ifF (by simp) ?_⟩⟩
    obtain ⟨kv0, g1, g2, g3⟩ := id hS
    have hbl : kv0.length = (bagsOf c).length := by
      have z1 := congrArg List.length g2
      rw [List.length_map, List.length_map] at z1
      exact z1
    -- the for
    refine ⟨d0, _, g1, True.intro, fun od => ?_⟩
    have hTL := hT.rd.lock (o := od) g1
    have hSL := hS.rd.lock (o := od) g1
    have h0L : (L2.upd H d0 (.frz od (.dT kv0))) d0 = some (.frz od (.dT kv0)) := upd_same
    have hun : ∀ H2, Same (L2.upd H d0 (.frz od (.dT kv0))) H2 → Same H (L2.upd H2 d0 (.dT kv0)) := fun H2 e => Same.unlock g1 e
    generalize L2.upd H d0 (.frz od (.dT kv0)) = HL at hTL hSL h0L hun ⊢
    refine ⟨_, rfl, d0, od, rfl, .inr ⟨kv0, h0L, for_it walk_keysT (fun i σ H' => (∃ v3 v4 : Option V, σ = [some (.ref x), some (.ref bk), some (.ref d0), v3, v4]) ∧ Same HL H') ⟨⟨none, none, rfl⟩, Same.refl _⟩ (fun i σ H' _ e => e.2 _ _ h0L) ?_ ?_⟩⟩
    · rintro i z σ H2 H3 hi ⟨⟨v3, v4, rfl⟩, e2⟩ ⟨rfl, kk, vv, q, hk, rfl, hq⟩
      obtain ⟨b, hbi, hbm, rfl⟩ := key_at g2 hk
      have hT3 := hTL.same e2
      obtain ⟨dy, dd, kvT, y1, _⟩ := id hT3
      refine ⟨_, rfl, x, dy, _, rfl, y1, tf_outs _ _, _, rfl, x, r, c, s, p, R, .ref q, b, rfl, hT3, hbm, ⟨q, rfl, hq⟩, fun H4 l xs e4 hl hx hox => ?_⟩
      refine ⟨_, rfl, _, .ty "list", _, _, true, rfl, .ty _, .base (.lst hx), kit_ty (by decide +kernel), true, rfl, iteF ?_⟩
      have hsub : ∀ o ∈ R b, o ∈ ocs c := (GoodR.can hc hcR b hbm).2
      have hlen : (R b).length ≤ 10 := hcR.len hc hbm
      obtain ⟨kv4, w1, w3⟩ := hSL.same (e2.trans e4)
      obtain ⟨v, hva, a, ys, rfl, ha, hoa⟩ := w3 b hbm
      rw [← heq b hbm] at hoa
      refine ⟨_, rfl, l, .list ((R b).map ocD), rfl, .lst (SqL.of hx) hox.dp, ocsD_showableC hc hsub, ocsD_noDict _, ocsD_depthL _, ocsD_shown hc hsub hlen, ?_⟩
      refine ⟨_, rfl, _, rfl, d0, _, rfl, DGet.rdT w1 (e4 _ _ hq) hva, a, .list ((R b).map ocD), rfl, .lst (SqL.of ha) hoa.dp, ocsD_showableC hc hsub, ocsD_noDict _, ocsD_depthL _, ocsD_shown hc hsub hlen, ?_⟩
      refine ⟨rfl, _, rfl, ifF (by simp) ?_⟩
      have hll := Paired.length hox
      refine ⟨_, rfl, .inl ⟨rfl, _, SqL.of hx⟩, l, xs, _, rfl, rfl, hx, Nat.lt_of_le_of_lt (m := 100) (by omega) (by decide), ⟨_, _, rfl⟩, ?_⟩
      exact Same.keepU (e2.free hl) (e2.trans e4)
    · rintro σ H2 ⟨⟨v3, v4, rfl⟩, e2⟩
      have eH := hun H2 e2
      refine ⟨e2 _ _ h0L, ?_⟩
      have g1' := eH _ _ g1
      have hT' := hT.same eH
      have hS' := hS.same eH
      generalize L2.upd H2 d0 (.dT kv0) = H5 at eH g1' hT' hS' ⊢
      -- the comprehension
      refine ⟨d0, _, g1', True.intro, fun od => ?_⟩
      have hTL := hT'.rd.lock (o := od) g1'
      have hSL := hS'.rd.lock (o := od) g1'
      have h0L : (L2.upd H5 d0 (.frz od (.dT kv0))) d0 = some (.frz od (.dT kv0)) := upd_same
      have hun : ∀ H2, Same (L2.upd H5 d0 (.frz od (.dT kv0))) H2 → Same H5 (L2.upd H2 d0 (.dT kv0)) := fun H2 e => Same.unlock g1' e
      generalize L2.upd H5 d0 (.frz od (.dT kv0)) = HL at hTL hSL h0L hun ⊢
      refine ⟨_, rfl, d0, od, rfl, .inr ⟨kv0, h0L, fun D hD => ?_⟩⟩
      have key : LcEnd (Itkt d0 od kv0) (gName 3) tYes (tOp (rEqD K) (tMeth CT "outcomes" (spOuts CR CT) [] E0 (tVar 0) (tCons (tVar 3) tNil)) (tDGet (tVar 2) (tVar 3))) [3] [some (.ref x), some (.ref bk), some (.ref d0), v3, v4] HL D
          (fun H4 => Same HL H4 ∧ ∃ acc, H4 D = some (.lst acc) ∧ ∀ (i : Nat) y, acc[i]? = some y → y = .bl true) := by
        refine lc_build walk_keysT (k := 3) (fun x => rfl) (by rw [hbl]; exact Nat.le_trans (len_bags hc) (by decide)) (fun H' => Same HL H') (fun _ y _ => y = .bl true) (Same.new hD)
          (fun H' e => e _ _ h0L) (fun H' acc acc' e h => Same.keepD hD e (acc := acc)) (fun _ _ _ _ _ h _ => h) ?_ (fun H2 acc e2 hacc _ hall => ⟨e2, acc, hacc, hall⟩)
        rintro j z H6 H7 Rk hj e6 ⟨acc, hacc⟩ ⟨rfl, kk, vv, q, hk, rfl, hq⟩ hRk
        obtain ⟨b, hbi, hbm, rfl⟩ := key_at g2 hk
        have hT7 := hTL.same e6
        obtain ⟨dy, dd, kvT, y1, _⟩ := id hT7
        refine ⟨_, rfl, x, dy, _, rfl, y1, tf_outs _ _, _, rfl, x, r, c, s, p, R, .ref q, b, rfl, hT7, hbm, ⟨q, rfl, hq⟩, fun H8 l xs e8 hl hx hox => ?_⟩
        obtain ⟨kv8, w1, w3⟩ := hSL.same (e6.trans e8)
        obtain ⟨v, hva, a, ys, rfl, ha, hoa⟩ := w3 b hbm
        rw [← heq b hbm] at hoa
        refine ⟨_, rfl, _, rfl, d0, _, rfl, DGet.rdT w1 (e8 _ _ hq) hva, .list ((R b).map ocD), .list ((R b).map ocD), .lst (SqL.of hx) hox.dp, .lst (SqL.of ha) hoa.dp, ocsD_shapedL _, ocsD_shapedL _, ?_⟩
        have eq : PyData.eqv (.list ((R b).map ocD)) (.list ((R b).map ocD)) = true := ocsD_eqvAll _
        rw [eq]
        exact hRk _ H8 (e6.trans e8) ((e8 _ _ hacc).trans hacc.symm) rfl fun _ _ z => z
      refine LcEnd.imp key ?_
      rintro H4 ⟨e4, acc, hacc, hall⟩
      have hD2 : D ≠ d0 := fun z => by rw [z, h0L] at hD; cases hD
      refine ⟨e4 _ _ h0L, ?_⟩
      refine ⟨D, List.replicate acc.length true, rfl, by rw [← all_true hall]; exact SqL.of (by rw [upd_ne hD2]; exact hacc), ?_⟩
      have et : (List.replicate acc.length true).all id = true := by simp
      rw [et]
      exact k _ (eH.trans (hun H4 e4))
end
end Rt
set_option Elab.async false
set_option linter.all false
set_option maxRecDepth 100000
set_option maxHeartbeats 2000000
namespace Rt
open PySem PySem.Spec PyProof.Rows L2
/-! ### what is refused -/
abbrev sRefused : Stmt := topS 43
abbrev sNoRules : Stmt := topS 44
/-- the law's answer of a refusal -/
def Told (H : Hp) (t : Addr) (u : V) : Prop := H t = some (.tup [.str "refused", u, .bl true])
def spRefused (K : PySem.W.Frag) (CR CT : Addr) : Sp := fun vs H Q _ => ∃ v w u : V, vs = [v, w] ∧ ((NoTable K CT H v ∧ u = v) ∨ (∃ (x r : Addr) (c : Nat) (s p : Bool) (R : Rw), v = .ref x ∧ TableRd CR CT H x r c s p R ∧ OddT K CR CT H c s p w ∧ u = w)) ∧
  ∀ H' t, Same H H' → H t = none → Told H' t u → Q (.ref t) H'
def spNoRules (K : PySem.W.Frag) (CR : Addr) : Sp := fun vs H Q _ => ∃ (v : V) (k : Int), vs = [v, .int k] ∧ NoRules K CR H v ∧ ∀ H' t, Same H H' → H t = none → Told H' t v → Q (.ref t) H'
theorem scRefused : FnScope ["_law_one", "_law_other", "_law_told", "e"] ["_law_one", "_law_other"] (defScope sRefused) := ⟨rfl, rfl, rfl, by decide +kernel, rfl, by decide +kernel, by decide +kernel⟩
theorem scNoRules : FnScope ["_law_thing", "_law_which", "_law_told", "e"] ["_law_thing", "_law_which"] (defScope sNoRules) := ⟨rfl, rfl, rfl, by decide +kernel, rfl, by decide +kernel, by decide +kernel⟩
/-- a call in a try: what it lets out is the clause's wish -/
theorem pe_calS {X : Cx} {k : Nat} {ps : List Str} {sp : Sp} {W : WX} {x : Str} {p pos : Pos} {e : Expr} {es : List Expr} {t : TA} (c : Cal X.prog X.w X.K X.mg X.base (L2.CX X.prog X.w) k x ps sp) (hr : Room k X.A) (tk : Takes X W) (ha : PA X (e :: es) t) (hg : Gl X x := by rfl)
    (hdb : (x == ("__debug__" : Str)) = false := by decide) (he : starEach (e :: es) X.env = (false, eval e X.env) :: starEach es X.env := by rfl)
    (hpl : (backTo pos (starEach es X.env)).any (·.1) = false := by rfl) : PE X (.Call (.Name x p) (e :: es) [] pos) (tCallS sp (WE W) t) := by
  obtain ⟨f, fd, G, hm, hk, hb⟩ := c
  exact pe_callS G hr hg hm hk hb (fun σ => passAt tk σ) ha hdb he hpl
/-- the tuple of a refusal, as the suite makes it -/
def tRef (K : PySem.W.Frag) (C CM a : Addr) (cls : Value) (d : Option Addr) : TE := tTup (tCons (tC (.str "refused")) (tCons (tXf a cls d C "value" (tVar 3)) (tCons (tCB (rIsF K C a cls d) (tCons (tVar 3) (tCons (tC (.ref CM)) tNil))) tNil)))
section
variable {P : Program} {w : World} {K : PySem.W.Frag} {mg : Str → Option Value} {base : Heap} {CR CT CB CB2 CM : Addr}
theorem ref_val {C : Addr} {x : Str} (N : Exn P w K mg base x C CM) {a d : Addr} {v : V} {σ : L2.St} {H : Hp} {Q : VK} (hσ : σ[3]? = some (some (.ref a))) (hd : H d = some (.xd [("value", v)])) (k : ∀ t, H t = none → Q (.ref t) (L2.upd H t (.tup [.str "refused", v, .bl true]))) :
    tRef K C CM a (.ref C) (some d) σ H Q := by
  refine ⟨_, hσ, rfl, rfl, d, _, v, rfl, hd, rfl, ?_⟩
  refine ⟨_, hσ, d, _, _, _, true, rfl, rfl, hd, rfl, .own CM, N.km, (by show 3 ≤ sizeLine; decide), fun t ht => k t ht⟩
theorem ok_refused (T : Tx K mg CR CT) (D : Def K mg "_law_refused" 43 ["_law_one", "_law_other"]) (N : Exn P w K mg base "BadTable" CB CM) (gM : mg "MazeError" = some (.ref CM)) (c1 : Cal P w K mg base (L2.CX P w) 10 "then" ["one", "other"] (spThen K CR CT CB)) :
    Cal P w K mg base CX0 11 "_law_refused" ["_law_one", "_law_other"] (spRefused K CR CT) := by
  obtain ⟨f, fd, G, gl, bi⟩ := D
  refine ⟨f, fd, G.ok (k := 10) scRefused (fun vs H Q E h => ?_) (fun cdv A outer s H vs Q E hr h => ?_), gl, G.kp, bi⟩
  · obtain ⟨v, w', u, rfl, _⟩ := h
    rfl
  · obtain ⟨v, w', u, rfl, h, k⟩ := h
    refine ⟨_, pss_cons (ps_set (i := 2) scRefused.nd rfl (Or.inl rfl) pe_non)
      (pss_cons (ps_try_as (i := 3) (tb := fun W => tAsg (tCallS (spThen K CR CT CB) (WE W) (tCons (tVar 0) (tCons (tVar 1) tNil))) (gName 2)) (ts := fun a cls d => tAsg (tRef K CB CM a cls d) (gName 2)) (Wout := fun _ _ _ _ => False) rfl rfl scRefused.nd rfl rfl ⟨rfl, by decide, Or.inl N.gl⟩ takes0
        (fun W pn xe tk _ => pss_one (ps_set (i := 2) scRefused.nd rfl (Or.inl rfl) (by exact (pe_calS c1 hr tk (pa_cons (pv 0) (pa_cons (pv 1) pa_nil))))))
        (fun a oe cls d pn hz hf => pss_one (ps_set (i := 2) scRefused.nd rfl (Or.inl rfl) (by exact (pe_tup (pa_cons pe_str (pa_cons (pe_xf N.xf N.no hz hf (pv 3)) (pa_cons (pe_callB (call_isF N.exf hz hf) (by rfl) T.fr.isinstance (by decide +kernel) (pa_cons (pv 3) (pa_cons (pe_glob (v := .ref CM) (by rfl) gM rfl) pa_nil))) pa_nil))))))))
      (pss_one (ps_ret (pv 2)))), ?_⟩
    have fin : ∀ d : Addr, H d = none → WE (wAs K (.ref CB) 3 (fun a cls d => tAsg (tRef K CB CM a cls d) (gName 2)) (fun _ _ _ _ => False) { nx := tRet (tVar 2) { nx := fun _ H' => Q .non H', rt := Q }, rt := Q }) [some v, some w', some .non, none] (.ref CB) (some d) (L2.upd H d (.xd [("value", u)])) := by
      intro d hd
      refine ⟨true, N.te, fun _ a ha => ?_, fun q => nomatch q⟩
      refine ref_val N rfl upd_same fun t ht => ⟨_, rfl, k _ t ((Same.new hd).trans (Same.new ht)) ((Same.new (H := H) hd).free ht) upd_same⟩
    refine ⟨_, rfl, _, rfl, v, w', rfl, ?_⟩
    rcases h with ⟨h, rfl⟩ | ⟨x, r, c, s, p, R, rfl, hT, ho, rfl⟩
    · exact .inr (.inl ⟨h, fin⟩)
    · exact .inr (.inr ⟨x, r, c, s, p, R, rfl, hT, ho, fin⟩)
theorem ok_noRules (T : Tx K mg CR CT) (D : Def K mg "_law_no_rules" 44 ["_law_thing", "_law_which"]) (N : Exn P w K mg base "BadRules" CB CM) (gM : mg "MazeError" = some (.ref CM)) (c1 : Cal P w K mg base (L2.CX P w) 10 "same" ["rules"] (spMk K CR CT CB sameR))
    (c2 : Cal P w K mg base (L2.CX P w) 10 "none" ["rules"] (spMk K CR CT CB noneR)) : Cal P w K mg base CX0 11 "_law_no_rules" ["_law_thing", "_law_which"] (spNoRules K CR) := by
  obtain ⟨f, fd, G, gl, bi⟩ := D
  refine ⟨f, fd, G.ok (k := 10) scNoRules (fun vs H Q E h => ?_) (fun cdv A outer s H vs Q E hr h => ?_), gl, G.kp, bi⟩
  · obtain ⟨v, k, rfl, _⟩ := h
    rfl
  · obtain ⟨v, n, rfl, h, k⟩ := h
    refine ⟨_, pss_cons (ps_set (i := 2) scNoRules.nd rfl (Or.inl rfl) pe_non)
      (pss_cons (ps_try_as (i := 3) (tb := fun W => tIfS (tTest (tOp rEq (tVar 1) (tC (.int 0)))) (tAsg (tCallS (spMk K CR CT CB sameR) (WE W) (tCons (tVar 0) tNil)) (gName 2)) (tAsg (tCallS (spMk K CR CT CB noneR) (WE W) (tCons (tVar 0) tNil)) (gName 2))) (ts := fun a cls d => tAsg (tRef K CB CM a cls d) (gName 2)) (Wout := fun _ _ _ _ => False) rfl rfl scNoRules.nd rfl rfl ⟨rfl, by decide, Or.inl N.gl⟩ takes0
        (fun W pn xe tk _ => pss_one (ps_if (pt_cmpR op_eq (pv 1) pe_int (nomark _)) (pss_one (ps_set (i := 2) scNoRules.nd rfl (Or.inl rfl) (by exact (pe_calS c1 hr tk (pa_cons (pv 0) pa_nil))))) (pss_one (ps_set (i := 2) scNoRules.nd rfl (Or.inl rfl) (by exact (pe_calS c2 hr tk (pa_cons (pv 0) pa_nil)))))))
        (fun a oe cls d pn hz hf => pss_one (ps_set (i := 2) scNoRules.nd rfl (Or.inl rfl) (by exact (pe_tup (pa_cons pe_str (pa_cons (pe_xf N.xf N.no hz hf (pv 3)) (pa_cons (pe_callB (call_isF N.exf hz hf) (by rfl) T.fr.isinstance (by decide +kernel) (pa_cons (pv 3) (pa_cons (pe_glob (v := .ref CM) (by rfl) gM rfl) pa_nil))) pa_nil))))))))
      (pss_one (ps_ret (pv 2)))), ?_⟩
    have fin : ∀ d : Addr, H d = none → WE (wAs K (.ref CB) 3 (fun a cls d => tAsg (tRef K CB CM a cls d) (gName 2)) (fun _ _ _ _ => False) { nx := tRet (tVar 2) { nx := fun _ H' => Q .non H', rt := Q }, rt := Q }) [some v, some (.int n), some .non, none] (.ref CB) (some d) (L2.upd H d (.xd [("value", v)])) := by
      intro d hd
      refine ⟨true, N.te, fun _ a ha => ?_, fun q => nomatch q⟩
      refine ref_val N rfl upd_same fun t ht => ⟨_, rfl, k _ t ((Same.new hd).trans (Same.new ht)) ((Same.new (H := H) hd).free ht) upd_same⟩
    refine ⟨_, rfl, rfl, _, rfl, ?_⟩
    by_cases hn : V.int n = .int 0
    · exact ifT (decide_eq_true hn) ⟨_, rfl, v, rfl, .inr ⟨h, fin⟩⟩
    · exact ifF (decide_eq_false hn) ⟨_, rfl, v, rfl, .inr ⟨h, fin⟩⟩
end
end Rt
set_option Elab.async false
set_option linter.all false
set_option maxRecDepth 100000
set_option maxHeartbeats 400000
namespace Rt
open PySem PySem.Spec PyProof.Rows L2
/-! ### the law's answers of a refusal, compared -/
def Simple (u : V) : Prop := u = .non ∨ (∃ z, u = .str z) ∨ (∃ a, u = .ref a) ∨ ∃ i, u = .int i
theorem eqAt_rel {A : Around} {s : Shared} {u : V} {v1 v2 : Value} (hu : Simple u) (r1 : RelV u v1) (r2 : RelV u v2) : SeqAt.EqAt A s v1 v2 true := by
  rcases hu with rfl | ⟨z, rfl⟩ | ⟨a, rfl⟩ | ⟨i, rfl⟩
  · cases r1
    cases r2
    exact SeqAt.EqAt.same _
  · obtain ⟨t1, rfl⟩ := r1
    obtain ⟨t2, rfl⟩ := r2
    have z1 := SeqAt.EqAt.str_str (A := A) (s := s) z t1 z t2
    rw [beq_self_eq_true] at z1
    exact z1
  · cases r1
    cases r2
    exact SeqAt.EqAt.same _
  · obtain ⟨t1, rfl⟩ := r1
    obtain ⟨t2, rfl⟩ := r2
    have z1 := SeqAt.EqAt.int_int (A := A) (s := s) i t1 i t2
    rw [beq_self_eq_true] at z1
    exact z1
theorem vals3 {x y z : V} {us : List Value} (h : Vals [x, y, z] us) : ∃ a b c, us = [a, b, c] ∧ RelV x a ∧ RelV y b ∧ RelV z c := by
  cases h with
  | cons r t =>
    cases t with
    | cons r' t' =>
      cases t' with
      | cons r'' t'' =>
        cases t''
        exact ⟨_, _, _, rfl, r, r', r''⟩
theorem ne_told {A : Around} {s : Shared} {t t' : Addr} {x z y : V} {i1 i2 : List Value} (hu : A.units < cLine) (p1 : s.heap.IsTuple t i1.toArray) (p2 : s.heap.IsTuple t' i2.toArray) (r1 : Vals [x, z, y] i1) (r2 : Vals [x, z, y] i2)
    (hx : ∀ v1 v2, RelV x v1 → RelV x v2 → SeqAt.EqAt A.in1 s v1 v2 true) (hz : ∀ v1 v2, RelV z v1 → RelV z v2 → SeqAt.EqAt A.in1 s v1 v2 true) (hy : ∀ v1 v2, RelV y v1 → RelV y v2 → SeqAt.EqAt A.in1 s v1 v2 true) : SeqAt.RcNeAt A s (.ref t) (.ref t') false := by
  obtain ⟨a1, a2, a3, rfl, x1, x2, x3⟩ := vals3 r1
  obtain ⟨b1, b2, b3, rfl, y1, y2, y3⟩ := vals3 r2
  exact SeqAt.RcNeAt.tuples (e := fun _ => true) p1 p2 hu (by
    intro j hj1 hj2
    match j, hj1, hj2 with
    | 0, _, _ => exact hx _ _ x1 y1
    | 1, _, _ => exact hz _ _ x2 y2
    | 2, _, _ => exact hy _ _ x3 y3)
def rNeTold : R2 := fun x y H Q => ∃ (t t' : Addr) (u : V), x = .ref t ∧ y = .ref t' ∧ Told H t u ∧ Told H t' u ∧ Simple u ∧ Q (.bl false) H
theorem op_neTold {X : Cx} (hu : X.A.units < cLine) : OpR X (compareOp .NotEq) rNeTold := by
  intro pins s σ H x y v u Q I rx ry hq
  obtain ⟨t, t', z, rfl, rfl, h1, h2, hs, q⟩ := hq
  cases rx
  cases ry
  obtain ⟨i1, r1, p1⟩ := tup_at I.hok h1
  obtain ⟨i2, r2, p2⟩ := tup_at I.hok h2
  show wpAny (model X.prog X.w) X.A (richCompare .NotEq (.ref t) (.ref t')) (EP X pins σ Q) X.xe s
  have key := ne_told (A := X.A) hu p1 p2 r1 r2 (fun v1 v2 => eqAt_rel (.inr (.inl ⟨_, rfl⟩))) (fun v1 v2 => eqAt_rel hs) (fun v1 v2 q1 q2 => by
    cases q1
    cases q2
    exact SeqAt.EqAt.same _)
  refine key X.prog X.w X.xe _ ?_
  exact ⟨.bl false, H, I, rfl, q⟩
end Rt
set_option Elab.async false
set_option linter.all false
set_option maxRecDepth 100000
set_option maxHeartbeats 1000000
namespace Rt
open PySem PySem.Spec PyProof.Rows L2
/-! ### what the law's own lines need -/
theorem SameX.lst {l : Addr} {H H' : Hp} {xs : List V} (e : SameX l H H') (hl : H l = some (.lst xs)) {b : Addr} {o : HO} (hb : H b = some o) (ho : ∀ ws, o ≠ .lst ws) : H' b = some o := e b o (fun z => by rw [z, hl] at hb; exact ho _ (Option.some.inj hb).symm) hb
theorem TableAt.lst {CR CT : Addr} {H H' : Hp} {l x r : Addr} {c : Nat} {s p : Bool} {R : Rw} {xs : List V} (h : TableAt CR CT H x r c s p R) (hl : H l = some (.lst xs)) (e : SameX l H H') : TableAt CR CT H' x r c s p R := by
  obtain ⟨dx, d, h1, h2, ⟨dr, h3⟩, h4, h5⟩ := h
  have tk : Tk H H' := fun b ys hb => e.lst hl hb (by intro ws z; cases z)
  obtain ⟨kvs, g1, _⟩ := id h2
  exact ⟨dx, d, e.lst hl h1 (by intro ws z; cases z), h2.imp ((e.lst hl g1 (by intro ws z; cases z)).trans g1.symm) (fun b _ v z => z.tk tk), ⟨dr, e.lst hl h3 (by intro ws z; cases z)⟩, h4, h5⟩
theorem TableAt.cap {CR CT : Addr} {H : Hp} {x r : Addr} {c : Nat} {s p : Bool} {R : Rw} (h : TableAt CR CT H x r c s p R) : CapOk c ∧ CanR c R := by
  obtain ⟨dx, d, h1, h2, h3, h4, h5⟩ := h
  exact ⟨h4, h5⟩
theorem ne_tab {K : PySem.W.Frag} {CR CT : Addr} {H : Hp} {x y r r' : Addr} {c : Nat} {s p : Bool} {R S : Rw} {Q : VK} (h : TableAt CR CT H x r c s p R) (g : TableAt CR CT H y r' c s p S) (e : EqR' c R S) (q : Q (.bl false) H) : rNeO CT CT (spTEq K CR CT) (.ref x) (.ref y) H Q := by
  obtain ⟨dx, d, h1, _⟩ := id h
  obtain ⟨dy, d', g1, _⟩ := id g
  exact ⟨x, y, dx, dy, _, _, rfl, rfl, h1, g1, x, r, c, s, p, R, .ref y, rfl, h, .inl ⟨y, r', S, rfl, g, e, true, rfl, q⟩⟩
theorem then_ok {K : PySem.W.Frag} {CR CT CB : Addr} {H : Hp} {x y r r' : Addr} {c : Nat} {s p : Bool} {R S : Rw} {Q : VK} {E : XK} (h : TableAt CR CT H x r c s p R) (g : TableAt CR CT H y r' c s p S)
    (k : ∀ H' z, Same H H' → H z = none → TableAt CR CT H' z r c s p (thenR c R S) → Q (.ref z) H') : spThen K CR CT CB [.ref x, .ref y] H Q E :=
  ⟨.ref x, .ref y, rfl, .inl ⟨x, y, r, r', c, s, p, R, S, rfl, rfl, h.rd, g.rd, k⟩⟩
theorem or_ok {CR CT : Addr} {H : Hp} {x y r r' : Addr} {c : Nat} {s p : Bool} {R S : Rw} {Q : VK} (h : TableAt CR CT H x r c s p R) (g : TableAt CR CT H y r' c s p S)
    (k : ∀ H' z, Same H H' → H z = none → TableAt CR CT H' z r c s p (orR c R S) → Q (.ref z) H') : rOwn CT CT (spOr CR CT) id (.ref x) (.ref y) H Q := by
  obtain ⟨dx, d, h1, _⟩ := id h
  obtain ⟨dy, d', g1, _⟩ := id g
  exact ⟨x, y, dx, dy, _, _, rfl, rfl, h1, g1, x, y, r, r', c, s, p, R, S, rfl, h.rd, g.rd, k⟩
/-- what is no table, what is no book of rules -/
theorem no_table {K : PySem.W.Frag} {mg : Str → Option Value} {CR CT : Addr} {H : Hp} {v : V} {n : String} (T : Tx K mg CR CT) (ty : TyX K H v (.type n)) (m : n ∈ (["NoneType", "str", "list", "dict", "tuple", "int"] : List String)) : NoTable K CT H v := ⟨_, ty, T.kT n m⟩
theorem no_rules {K : PySem.W.Frag} {mg : Str → Option Value} {CR CT : Addr} {H : Hp} {v : V} {n : String} (T : Tx K mg CR CT) (ty : TyX K H v (.type n)) (m : n ∈ (["NoneType", "str", "list", "dict", "tuple", "int"] : List String)) : NoRules K CR H v := ⟨_, ty, T.kR n m⟩
/-- the odd thing: a table of other rules, or no table at all -/
inductive Odd (K : PySem.W.Frag) (CR CT : Addr) (H : Hp) (c : Nat) (s p : Bool) : V → Prop where
  | tab {y r' : Addr} (h : TableAt CR CT H y r' c (!s) p noneR) : Odd K CR CT H c s p (.ref y)
  | bk {r : Addr} {c' : Nat} {s' p' : Bool} (h : RulesAt CR H r c' s' p') : Odd K CR CT H c s p (.ref r)
  | non : Odd K CR CT H c s p .non
  | str (z : Str) : Odd K CR CT H c s p (.str z)
  | lst {a : Addr} {xs : List V} (h : H a = some (.lst xs)) : Odd K CR CT H c s p (.ref a)
  | dct {a : Addr} {kvs : List (List Key × V)} (h : H a = some (.dT kvs)) : Odd K CR CT H c s p (.ref a)
theorem Odd.simple {K : PySem.W.Frag} {CR CT : Addr} {H : Hp} {c : Nat} {s p : Bool} {v : V} (h : Odd K CR CT H c s p v) : Simple v := by
  cases h with
  | tab h => exact .inr (.inr (.inl ⟨_, rfl⟩))
  | bk h => exact .inr (.inr (.inl ⟨_, rfl⟩))
  | non => exact .inl rfl
  | str z => exact .inr (.inl ⟨z, rfl⟩)
  | lst h => exact .inr (.inr (.inl ⟨_, rfl⟩))
  | dct h => exact .inr (.inr (.inl ⟨_, rfl⟩))
theorem Odd.same {K : PySem.W.Frag} {CR CT : Addr} {H H' : Hp} {c : Nat} {s p : Bool} {v : V} (h : Odd K CR CT H c s p v) (e : Same H H') : Odd K CR CT H' c s p v := by
  cases h with
  | tab h => exact .tab (h.same e)
  | bk h => exact .bk (h.same e)
  | non => exact .non
  | str z => exact .str z
  | lst h => exact .lst (e _ _ h)
  | dct h => exact .dct (e _ _ h)
/-- all but the table: no table -/
theorem Odd.no {K : PySem.W.Frag} {mg : Str → Option Value} {CR CT : Addr} {H : Hp} {c : Nat} {s p : Bool} {v : V} (T : Tx K mg CR CT) (h : Odd K CR CT H c s p v) : (∃ y r', v = .ref y ∧ TableAt CR CT H y r' c (!s) p noneR) ∨ NoTable K CT H v := by
  cases h with
  | tab h => exact .inl ⟨_, _, rfl, h⟩
  | bk h =>
    obtain ⟨dr, h⟩ := h
    exact .inr ⟨_, T.tyR h, T.kRT⟩
  | non => exact .inr (no_table T (.base .non) (by decide))
  | str z => exact .inr (no_table T (.base (.str z)) (by decide))
  | lst h => exact .inr (no_table T (.base (.lst h)) (by decide))
  | dct h => exact .inr (no_table T (.base (.dT h)) (by decide))
theorem bne_self (s : Bool) : ¬ (!s) = s := by cases s <;> simp
theorem Odd.odd {K : PySem.W.Frag} {mg : Str → Option Value} {CR CT : Addr} {H : Hp} {c : Nat} {s p : Bool} {v : V} (T : Tx K mg CR CT) (h : Odd K CR CT H c s p v) : OddT K CR CT H c s p v := by
  rcases h.no T with ⟨y, r', rfl, ht⟩ | hn
  · exact .inr ⟨y, r', c, !s, p, noneR, rfl, ht.rd, fun z => bne_self s z.2.1⟩
  · exact .inl hn
/-- odd != strange -/
def rNeOdd (K : PySem.W.Frag) (CR CT : Addr) : R2 := fun x y H Q => (rNeR CT (spTEq K CR CT) x y H Q ∨ rNeO CR CT (spREq CR CT) x y H Q) ∨ rNeO CT CT (spTEq K CR CT) x y H Q
theorem op_neOdd {X : Cx} {CR CT : Addr} (cR : CalE X.prog X.w X.K X.mg X.base CR 3 (spREq CR CT)) (cT : CalE X.prog X.w X.K X.mg X.base CT 4 (spTEq X.K CR CT)) (A : Apart X.K CT) (nf : PySem.W.notFirst X.K CR (.ref CT) = true) (hr : Room 5 X.A) : OpR X (compareOp .NotEq) (rNeOdd X.K CR CT) :=
  Rt.OpR.or' (Rt.OpR.or' (op_neER cT A hr) (op_neED cR nf (hr.mono (by decide)))) (op_neE cT hr)
theorem Odd.ne {K : PySem.W.Frag} {mg : Str → Option Value} {CR CT : Addr} {H : Hp} {c : Nat} {s p : Bool} {v : V} {y r' : Addr} {Q : VK} (T : Tx K mg CR CT) (h : Odd K CR CT H c s p v) (hs : TableAt CR CT H y r' c (!s) p noneR)
    (q0 : Q (.bl false) H) (q1 : NoTable K CT H v → Q (.bl true) H) : rNeOdd K CR CT v (.ref y) H Q := by
  obtain ⟨dy, d', g1, _⟩ := id hs
  have rev : NoTable K CT H v → Plain4 v H → rNeOdd K CR CT v (.ref y) H Q := fun hn hp => .inl (.inl ⟨y, dy, _, rfl, g1, hp, y, r', c, !s, p, noneR, v, rfl, hs, .inr ⟨hn, false, rfl, q1 hn⟩⟩)
  cases h with
  | tab h => exact .inr (ne_tab h hs (fun _ _ => rfl) q0)
  | bk h =>
    obtain ⟨dr, h⟩ := h
    exact .inl (.inr ⟨_, y, dr, dy, _, _, rfl, rfl, h, g1, _, y, _, _, _, rfl, ⟨dr, h⟩, .inr ⟨⟨dy, _, g1⟩, false, rfl, q1 ⟨_, T.tyR h, T.kRT⟩⟩⟩)
  | non => exact rev (no_table T (.base .non) (by decide)) (.inl rfl)
  | str z => exact rev (no_table T (.base (.str z)) (by decide)) (.inr (.inl ⟨z, rfl⟩))
  | lst h => exact rev (no_table T (.base (.lst h)) (by decide)) (.inr (.inr (.inl ⟨_, _, rfl, h⟩)))
  | dct h => exact rev (no_table T (.base (.dT h)) (by decide)) (.inr (.inr (.inr ⟨_, _, rfl, h⟩)))
theorem use_nil {σ : L2.St} {H : Hp} {Z : List V → Hp → Prop} (h : Z [] H) : tNil σ H Z := h
/-- dict([(bag, [..]) for bag in bags]) of the law -/
theorem law_pairs {K : PySem.W.Frag} {σ : L2.St} {te : TE} {H6 : Hp} {lb D : Addr} {xs : List V} {c : Nat} {F : Rw} (hw : ∀ x, wipe ((wipe σ [6]).set 6 (some x)) [6] = wipe σ [6]) (hc : CapOk c) (hlx : H6 lb = some (.lst xs)) (hb : BgL H6 xs (bagsOf c)) (hD : H6 D = none)
    (hs : ∀ x b H (R : VK), b ∈ bagsOf c → IsBag H x b → (∀ H4 p l ys, Same H H4 → H4 p = some (.tup [x, .ref l]) → H l = none → H4 l = some (.lst ys) → OcL H4 ys (F b) → R (.ref p) H4) → te ((wipe σ [6]).set 6 (some x)) H R) :
    LcEnd (Itl K lb) (gName 6) tYes te [6] σ H6 D (fun H4 => ∀ Q : VK, (∀ H' d, Same H6 H' → H6 d = none → RowsL H' d c F → Q (.ref d) H') → rDictT K [.ref D] H4 Q) := by
  refine lc_pairs walk_list (k := 6) hw hD hb (Nat.le_trans (len_bags hc) (by decide)) (fun H e => SqL.of (e _ _ hlx)) (ValL F) ?_ (fun H4 ps kvs e h1 h2 h3 h4 Q k => rowsK_new (nd_bags hc) hD e h1 h2 h3 h4 fun d H' e hd hr => k H' d e hd hr)
  intro i z b H4 Rk hbi hyb e4 ⟨acc, hacc⟩ hRk
  refine hs z b H4 _ (List.mem_of_getElem? hbi) hyb fun H5 p l ys e5 hp hl hy ho => ?_
  have hD5 := e5 _ _ hacc
  exact hRk H5 p (.ref l) e5 hp fun H' eH => ⟨l, ys, rfl, eH _ _ (fun q => by rw [q, hacc] at hl; cases hl) hy, ho.tk (SameX.tk hD5 eH)⟩
theorem law_same {σ : L2.St} {x : V} {b : Bg} {H : Hp} {R : VK} (h6 : ((wipe σ [6]).set 6 (some x))[6]? = some (some x)) (hx : IsBag H x b) (k : ∀ H4 p l ys, Same H H4 → H4 p = some (.tup [x, .ref l]) → H l = none → H4 l = some (.lst ys) → OcL H4 ys (sameR b) → R (.ref p) H4) :
    tTup (tCons (tVar 6) (tCons (tLst (tCons (tVar 6) tNil)) tNil)) ((wipe σ [6]).set 6 (some x)) H R := by
  refine ⟨x, h6, x, h6, (by show 1 ≤ sizeLine; decide), fun l hl => ⟨(by show 2 ≤ sizeLine; decide), fun pr hpr => ?_⟩⟩
  have e5 : Same H (L2.upd H l (.lst [x])) := Same.new hl
  have e6 : Same (L2.upd H l (.lst [x])) (L2.upd (L2.upd H l (.lst [x])) pr (.tup [x, .ref l])) := Same.new hpr
  exact k _ pr l _ (e5.trans e6) upd_same hl (e6 _ _ upd_same) (Paired.one (hx.oc.tk (Same.tk (e5.trans e6))))
theorem law_none {σ : L2.St} {x : V} {b : Bg} {H : Hp} {R : VK} (h6 : ((wipe σ [6]).set 6 (some x))[6]? = some (some x)) (k : ∀ H4 p l ys, Same H H4 → H4 p = some (.tup [x, .ref l]) → H l = none → H4 l = some (.lst ys) → OcL H4 ys (noneR b) → R (.ref p) H4) :
    tTup (tCons (tVar 6) (tCons (tLst tNil) tNil)) ((wipe σ [6]).set 6 (some x)) H R := by
  refine ⟨x, h6, (by show 0 ≤ sizeLine; decide), fun l hl => ⟨(by show 2 ≤ sizeLine; decide), fun pr hpr => ?_⟩⟩
  have e5 : Same H (L2.upd H l (.lst [])) := Same.new hl
  have e6 : Same (L2.upd H l (.lst [])) (L2.upd (L2.upd H l (.lst [])) pr (.tup [x, .ref l])) := Same.new hpr
  exact k _ pr l _ (e5.trans e6) upd_same hl (e6 _ _ upd_same) Paired.nil
/-- a thing that is no book of rules, whatever comes -/
def Thing (K : PySem.W.Frag) (CR : Addr) (H : Hp) (v : V) : Prop := Simple v ∧ ∀ H', Same H H' → NoRules K CR H' v
end Rt
set_option Elab.async false
set_option linter.all false
set_option maxRecDepth 100000
set_option maxHeartbeats 1000000
namespace Rt
open PySem PySem.Spec PyProof.Rows L2
theorem StreamAt.neNew {H : Hp} {l D : Addr} (h : StreamAt H l) (hD : H D = Option.none) : D ≠ l := fun z => by
  obtain ⟨x, y, c, h⟩ := h
  rw [← z, hD] at h
  cases h
theorem StreamAt.keepU {H : Hp} {l D : Addr} {o : HO} (h : StreamAt H l) (n : D ≠ l) : StreamAt (L2.upd H D o) l := by
  obtain ⟨x, y, c, h⟩ := h
  exact ⟨x, y, c, by rw [upd_ne n.symm]; exact h⟩
/-- rows none of whose lists is D -/
def RowsX (D : Addr) (H : Hp) (d : Addr) (c : Nat) (R : Rw) : Prop := RowsK H d (bagsOf c) fun b v H => ∃ a xs, v = .ref a ∧ a ≠ D ∧ H a = some (.lst xs) ∧ OcL H xs (R b)
theorem RowsX.rows {D : Addr} {H : Hp} {d : Addr} {c : Nat} {R : Rw} (h : RowsX D H d c R) : RowsL H d c R := by
  obtain ⟨kvs, h1, h2, h3⟩ := h
  refine ⟨kvs, h1, h2, fun b hb => ?_⟩
  obtain ⟨v, z, a, xs, z1, z2, z3, z4⟩ := h3 b hb
  exact ⟨v, z, a, xs, z1, z3, z4⟩
theorem RowsN.x {H0 H : Hp} {d D : Addr} {c : Nat} {R : Rw} {o : HO} (h : RowsN H0 H d c R) (hD : H0 D = some o) : RowsX D H d c R := by
  obtain ⟨kvs, h1, h2, h3⟩ := h
  refine ⟨kvs, h1, h2, fun b hb => ?_⟩
  obtain ⟨v, z, a, xs, z1, z2, z3, z4⟩ := h3 b hb
  exact ⟨v, z, a, xs, z1, fun q => by rw [q, hD] at z2; (cases z2), z3, z4⟩
theorem RowsX.stream {D : Addr} {H H' : Hp} {d l : Addr} {c : Nat} {R : Rw} (h : RowsX D H d c R) (hl : StreamAt H l) (e : SameX l H H') : RowsX D H' d c R := by
  obtain ⟨kvs, h1, h2, h3⟩ := h
  refine ⟨kvs, e _ _ (hl.ne h1 (by intro xs z; cases z)) h1, h2, fun b hb => ?_⟩
  obtain ⟨v, z, a, xs, z1, z2, z3, z4⟩ := h3 b hb
  exact ⟨v, z, a, xs, z1, z2, e _ _ (hl.neRow z3 z4) z3, z4.tk (hl.tk e)⟩
theorem RowsX.put {D : Addr} {H : Hp} {d : Addr} {c : Nat} {R : Rw} {xs ys : List V} (h : RowsX D H d c R) (hD : H D = some (.lst xs)) : RowsX D (L2.upd H D (.lst ys)) d c R := by
  obtain ⟨kvs, h1, h2, h3⟩ := h
  refine ⟨kvs, by rw [upd_ne (ne_of h1 hD (by intro z; cases z))]; exact h1, h2, fun b hb => ?_⟩
  obtain ⟨v, z, a, xs, z1, z2, z3, z4⟩ := h3 b hb
  exact ⟨v, z, a, xs, z1, z2, by rw [upd_ne z2]; exact z3, z4.tk (Tk.put hD)⟩
/-- three drawn tables' rows -/
theorem law_rows3 {σ : L2.St} {H1 : Hp} {l t D : Addr} {c : Nat} {s p : Bool} (hw : ∀ x, wipe ((wipe σ [9]).set 9 (some x)) [9] = wipe σ [9]) (h1 : ∀ x, ((wipe σ [9]).set 9 (some x))[1]? = some (some (.ref l))) (h2 : ∀ x, ((wipe σ [9]).set 9 (some x))[2]? = some (some (.ref t)))
    (hl : StreamAt H1 l) (ht : TripAt H1 t c s p) (hc : CapOk c) (hD : H1 D = none) :
    LcEnd (Itr 0 (3 : Int).toNat) (gName 9) tYes (tCall spLRows [] E0 (tCons (tVar 1) (tCons (tVar 2) tNil))) [9] σ H1 D (fun H4 => SameX l H1 H4 ∧ StreamAt H4 l ∧ ∃ ds Rs, ds.length = 3 ∧ H4 D = some (.lst (ds.map V.ref)) ∧ Paired (fun d R => RowsL H4 d c R ∧ CanR c R) ds Rs) := by
  have nDl := hl.neNew hD
  refine lc_it walk_range (fun i H4 => SameX l H1 H4 ∧ StreamAt H4 l ∧ ∃ ds Rs, ds.length = i ∧ H4 D = some (.lst (ds.map V.ref)) ∧ Paired (fun d R => RowsX D H4 d c R ∧ CanR c R) ds Rs) ⟨Same.x (Same.new hD), hl.same (Same.new hD), [], [], rfl, upd_same, .nil⟩ (fun _ _ _ _ => True.intro) ?_ ?_
  · rintro i x H H' hi ⟨e, hst, ds, Rs, hdl, hds, hP⟩ ⟨rfl, rfl⟩
    refine ⟨hw _, _, h1 _, _, h2 _, l, t, c, s, p, rfl, hst, e _ _ (hl.ne ht (by intro xs z; cases z)) ht, hc, fun H2 d R e2 hst2 hd hrows hcan => ?_⟩
    have hD2 := e2 _ _ nDl hds
    have hi3 : i < 3 := hi
    refine ⟨_, hD2, ?_, SameX.upd2 (e.trans e2) hD, hst2.keepU nDl, ds ++ [d], Rs ++ [R], ?_, ?_, ?_⟩
    · rw [List.length_map]
      exact Nat.lt_of_le_of_lt (m := 3) (by omega) (by decide)
    · rw [List.length_append, List.length_singleton, hdl]
    · rw [upd_same, List.map_append]
      rfl
    · exact Paired.app (Paired.mapP hP fun d' R' z => ⟨(z.1.stream hst e2).put hD2, z.2⟩) (Paired.one ⟨(hrows.x hds).put hD2, hcan⟩)
  · rintro H ⟨e, hst, ds, Rs, hdl, hds, hP⟩
    exact ⟨e, hst, ds, Rs, hdl, hds, Paired.mapP hP fun d R z => ⟨z.1.rows, z.2⟩⟩
/-- .. and the tables made of them -/
theorem law_tables {K : PySem.W.Frag} {CR CT : Addr} {σ : L2.St} {H2 : Hp} {l bk lr D : Addr} {c : Nat} {s p : Bool} {ds : List Addr} {Rs : List Rw} (hw : ∀ x, wipe ((wipe σ [13]).set 13 (some x)) [13] = wipe σ [13])
    (h1 : ∀ x, ((wipe σ [13]).set 13 (some x))[1]? = some (some (.ref l))) (h3 : ∀ x, ((wipe σ [13]).set 13 (some x))[3]? = some (some (.ref bk))) (h13 : ∀ x, ((wipe σ [13]).set 13 (some x))[13]? = some (some x))
    (hl : StreamAt H2 l) (hR : RulesAt CR H2 bk c s p) (hc : CapOk c) (hlr : H2 lr = some (.lst (ds.map V.ref))) (nlr : lr ≠ l) (hP : Paired (fun d R => RowsL H2 d c R ∧ CanR c R) ds Rs) (hn : ds.length ≤ 10) (hD : H2 D = none) :
    LcEnd (Itl K lr) (gName 13) tYes (tMake CT (spTInit CR CT) [] E0 (tCons (tVar 3) (tCons (tCall spHanded [] E0 (tCons (tVar 1) (tCons (tVar 13) tNil))) tNil))) [13] σ H2 D
      (fun H4 => SameX l H2 H4 ∧ StreamAt H4 l ∧ ∃ xs, xs.length = ds.length ∧ H4 D = some (.lst (xs.map V.ref)) ∧ Paired (fun x R => TableAt CR CT H4 x bk c s p R) xs Rs) := by
  have nDl := hl.neNew hD
  have hRl : Rs.length = ds.length := (Paired.length hP).symm
  refine lc_it (walk_list (K := K) (a := lr) (xs := ds.map V.ref)) (fun i H4 => SameX l H2 H4 ∧ StreamAt H4 l ∧ ∃ xs, xs.length = i ∧ H4 D = some (.lst (xs.map V.ref)) ∧ Paired (fun x R => TableAt CR CT H4 x bk c s p R) xs (Rs.take i))
    ⟨Same.x (Same.new hD), hl.same (Same.new hD), [], rfl, upd_same, .nil⟩ (fun i H _ p => SqL.of (p.1 _ _ nlr hlr)) ?_ ?_
  · rintro i x H H' hi ⟨e, hst, xs, hxl, hxs, hT⟩ ⟨rfl, hx⟩
    rw [List.getElem?_map] at hx
    obtain ⟨d, hd, rfl⟩ := Option.map_eq_some_iff.mp hx
    obtain ⟨R, hRi, hrows, hcan⟩ := Paired.at hP hd
    refine ⟨hw _, _, h3 _, _, h1 _, _, h13 _, l, d, c, R, rfl, hst, hrows.stream hl e, hcan, hc, fun H5 dd L e5 hst5 hdd hr hg hL => ?_⟩
    have hD5 := e5 _ _ nDl hxs
    have e25 := e.trans e5
    have hR5 : RulesAt CR H5 bk c s p := by
      obtain ⟨dr, h⟩ := hR
      exact ⟨dr, e25 _ _ (hl.ne h (by intro xs z; cases z)) h⟩
    refine mk_table (Q := fun y H4 => ∃ acc, H4 D = some (.lst acc) ∧ acc.length < sizeLine ∧ SameX l H2 (L2.upd H4 D (.lst (acc ++ [y]))) ∧ StreamAt (L2.upd H4 D (.lst (acc ++ [y]))) l ∧ ∃ xs, xs.length = i + 1 ∧ L2.upd H4 D (.lst (acc ++ [y])) D = some (.lst (xs.map V.ref)) ∧
      Paired (fun x R => TableAt CR CT (L2.upd H4 D (.lst (acc ++ [y]))) x bk c s p R) xs (Rs.take (i + 1))) hR5 hc hr hg fun H6 z e6 hz ht => ?_
    have hD6 := e6 _ _ hD5
    have hi3 : i < ds.length := by
      have := (List.getElem?_eq_some_iff.mp hd).1
      exact this
    refine ⟨_, hD6, ?_, SameX.upd2 (e25.trans (Same.x e6)) hD, (hst5.same e6).keepU nDl, xs ++ [z], ?_, ?_, ?_⟩
    · rw [List.length_map]
      exact Nat.lt_of_le_of_lt (m := 10) (by omega) (by decide)
    · rw [List.length_append, List.length_singleton, hxl]
    · rw [upd_same, List.map_append]
      rfl
    · rw [take_more hRi]
      have stay : ∀ {w R'}, TableAt CR CT H6 w bk c s p R' → TableAt CR CT (L2.upd H6 D (.lst (xs.map V.ref ++ [.ref z]))) w bk c s p R' := fun h => h.lst hD6 SameX.upd
      obtain ⟨y1, y2, y3, hst'⟩ := hst
      exact Paired.app (Paired.mapP hT fun w R' q => stay ((q.lst hst' e5).same e6)) (Paired.one (stay (ht.eqR hL)))
  · rintro H ⟨e, hst, xs, hxl, hxs, hT⟩
    rw [List.length_map] at hxl hT
    rw [← hRl, List.take_length] at hT
    exact ⟨e, hst, xs, hxl, hxs, hT⟩
theorem paired3r {α β : Type} {G : α → β → Prop} {l : List α} {b1 b2 b3 : β} (h : Paired G l [b1, b2, b3]) : ∃ a1 a2 a3, l = [a1, a2, a3] ∧ G a1 b1 ∧ G a2 b2 ∧ G a3 b3 := by
  cases h with
  | cons g1 t =>
    cases t with
    | cons g2 t =>
      cases t with
      | cons g3 t =>
        cases t
        exact ⟨_, _, _, rfl, g1, g2, g3⟩
theorem SameX.free {l : Addr} {H0 H1 H2 : Hp} (hl : H0 l = none) (e : Same H0 H1) (f : SameX l H1 H2) : Same H0 H2 := fun b o h => f b o (ne_of_none h hl) (e b o h)
theorem odd_at {K : PySem.W.Frag} {CR CT : Addr} {H : Hp} {c : Nat} {s p : Bool} {d bk l1 st r' : Addr} {kvs : List (List Key × V)} {xs : List V} {c' : Nat} {s' p' : Bool} {o : Int} (hd : H d = some (.dT kvs)) (hb : RulesAt CR H bk c' s' p') (hl : H l1 = some (.lst xs)) (hs : TableAt CR CT H st r' c (!s) p noneR)
    (o0 : 0 ≤ o) (o6 : o < 6) : ∃ v, atI [V.non, .ref d, .ref bk, .str "star", .ref l1, .ref st] o = some v ∧ Odd K CR CT H c s p v := by
  have h : o = 0 ∨ o = 1 ∨ o = 2 ∨ o = 3 ∨ o = 4 ∨ o = 5 := by omega
  rcases h with rfl | rfl | rfl | rfl | rfl | rfl
  · exact ⟨_, rfl, .non⟩
  · exact ⟨_, rfl, .dct hd⟩
  · exact ⟨_, rfl, .bk hb⟩
  · exact ⟨_, rfl, .str _⟩
  · exact ⟨_, rfl, .lst hl⟩
  · exact ⟨_, rfl, .tab hs⟩
theorem thing_at {K : PySem.W.Frag} {mg : Str → Option Value} {CR CT : Addr} {H : Hp} {c : Nat} {s p : Bool} {t x bk : Addr} {R : Rw} {o : Int} (T : Tx K mg CR CT) (ht : TripAt H t c s p) (hx : TableAt CR CT H x bk c s p R)
    (o0 : 0 ≤ o) (o5 : o < 5) : ∃ v, atI [V.non, .ref t, .str "rules", .int 1, .ref x] o = some v ∧ Thing K CR H v := by
  have h : o = 0 ∨ o = 1 ∨ o = 2 ∨ o = 3 ∨ o = 4 := by omega
  rcases h with rfl | rfl | rfl | rfl | rfl
  · exact ⟨_, rfl, .inl rfl, fun H' _ => no_rules T (.base .non) (by decide)⟩
  · exact ⟨_, rfl, .inr (.inr (.inl ⟨_, rfl⟩)), fun H' e => no_rules T (.base (.tup (e _ _ ht))) (by decide)⟩
  · exact ⟨_, rfl, .inr (.inl ⟨_, rfl⟩), fun H' _ => no_rules T (.base (.str _)) (by decide)⟩
  · exact ⟨_, rfl, .inr (.inr (.inr ⟨_, rfl⟩)), fun H' _ => no_rules T (.base (.int _)) (by decide)⟩
  · exact ⟨_, rfl, .inr (.inr (.inl ⟨_, rfl⟩)), fun H' e => by
      obtain ⟨dx, d, h1, _⟩ := hx
      exact ⟨_, T.tyT (e _ _ h1), T.kTR⟩⟩
/-- three of them -/
theorem paired3 {α β : Type} {G : α → β → Prop} {l : List α} {m : List β} (h : Paired G l m) (n : l.length = 3) : ∃ a1 a2 a3 b1 b2 b3, l = [a1, a2, a3] ∧ m = [b1, b2, b3] ∧ G a1 b1 ∧ G a2 b2 ∧ G a3 b3 := by
  match l, m, h, n with
  | _, _, .cons g1 (.cons g2 (.cons g3 .nil)), _ => exact ⟨_, _, _, _, _, _, rfl, rfl, g1, g2, g3⟩
end Rt
set_option Elab.async false
set_option linter.all false
set_option maxRecDepth 100000
set_option maxHeartbeats 1000000
namespace Rt
open PySem PySem.Spec PyProof.Rows L2
abbrev sLaw : Stmt := topS 45
def spLaw (K : PySem.W.Frag) : Sp := fun vs H Q _ => ∃ (a : Addr) (ns : List Int), vs = [.ref a] ∧ ns.length ≤ 63 ∧ SqL K H a (ns.map V.int) ∧ ∀ H', Q (.bl true) H'
abbrev nLaw : List Str := ["_law_script", "_law_stream_here", "_law_rules_here", "_law_book", "_law_itself", "_law_empty", "_law_bag", "_law_at", "_law_rows_here", "_law_k", "_law_one", "_law_two", "_law_three", "_law_row", "_law_both", "_law_strange", "_law_odd", "_law_thing", "_law_which"]
theorem scLaw : FnScope nLaw ["_law_script"] (defScope sLaw) := ⟨rfl, rfl, rfl, by decide +kernel, rfl, by decide +kernel, by decide +kernel⟩
/-- all that the law calls -/
structure Calls (P : Program) (w : World) (K : PySem.W.Frag) (mg : Str → Option Value) (base : Heap) (CR CT CB CB2 : Addr) : Prop where
  stream : Cal P w K mg base CX0 1 "_law_stream" ["_law_script", "_law_k"] (spStream K)
  draw : Cal P w K mg base CX0 1 "_law_draw" ["_law_stream_here", "_law_many"] spDraw
  bags : Cal P w K mg base CX0 1 "_law_bags" ["_law_rules_here"] spLBags
  book : Cal P w K mg base CX0 4 "_law_rules" ["_law_rules_here"] (spLRules CR)
  drawn : Cal P w K mg base CX0 2 "_law_drawn_rules" ["_law_stream_here"] spLDrawn
  rows : Cal P w K mg base CX0 2 "_law_rows" ["_law_stream_here", "_law_rules_here"] spLRows
  handed : Cal P w K mg base CX0 3 "_law_handed" ["_law_stream_here", "_law_rows_here"] spHanded
  shows : CalG P w K mg base 6 "_law_shows" ["_law_told", "_law_book", "_law_rows_here"] (spShows CR CT)
  behind : Cal P w K mg base CX0 3 "_law_behind" ["_law_rules_here", "_law_rows_here", "_law_others"] spLBehind
  stars : Cal P w K mg base CX0 2 "_law_stars" ["_law_rows_here"] spLStars
  refused : Cal P w K mg base CX0 11 "_law_refused" ["_law_one", "_law_other"] (spRefused K CR CT)
  noRules : Cal P w K mg base CX0 11 "_law_no_rules" ["_law_thing", "_law_which"] (spNoRules K CR)
  thn : Cal P w K mg base (L2.CX P w) 10 "then" ["one", "other"] (spThen K CR CT CB)
  same : Cal P w K mg base (L2.CX P w) 10 "same" ["rules"] (spMk K CR CT CB2 sameR)
  none : Cal P w K mg base (L2.CX P w) 10 "none" ["rules"] (spMk K CR CT CB2 noneR)
  rinit : CalI P w K mg base CR 2 "Rules" ["self", "cap", "strong", "pull"] (spRInit CR)
  tinit : CalI P w K mg base CT 8 "Table" ["self", "rules", "rows"] (spTInit CR CT)
  within : CalM P w K mg base CT 7 "within" ["self", "other"] (spWithin CR CT)
  or : CalO P w K mg base CT 10 (spOr CR CT)
  teq : CalE P w K mg base CT 4 (spTEq K CR CT)
  req : CalE P w K mg base CR 3 (spREq CR CT)
section
variable {P : Program} {w : World} {K : PySem.W.Frag} {mg : Str → Option Value} {base : Heap} {CR CT CB CB2 CM : Addr}
theorem ok_law {f : Addr} {fd : FuncData} (T : Tx K mg CR CT) (A0 : Apart K CT) (nf : PySem.W.notFirst K CR (.ref CT) = true) (G : Fun K "law" "law" sLaw f fd) (C : Calls P w K mg base CR CT CB CB2) : FnG P w K mg base CX0 12 f fd ["_law_script"] (spLaw K) := by
  refine Rt.Fun.okG G (k := 11) scLaw (fun vs H Q E h => ?_) (fun cdv A outer s H vs Q E hr hgu h => ?_)
  · obtain ⟨a, ns, rfl, _⟩ := h
    rfl
  · obtain ⟨a, ns, rfl, hns, hs, k⟩ := h
    have hr1 : Room 1 _ := hr.mono (by decide)
    have hr2 : Room 2 _ := hr.mono (by decide)
    have hr3 : Room 3 _ := hr.mono (by decide)
    have hr4 : Room 4 _ := hr.mono (by decide)
    have hr5 : Room 5 _ := hr.mono (by decide)
    have hr6 : Room 6 _ := hr.mono (by decide)
    have hr7 : Room 7 _ := hr.mono (by decide)
    have hr9 : Room 9 _ := hr.mono (by decide)
    have hr10 : Room 10 _ := hr.mono (by decide)
    refine ⟨_, (pss_cons (ps_set (i := 1) scLaw.nd rfl (Or.inr rfl) (pe_cal C.stream hr1 pass0 (pa_cons (pv 0) (pa_cons pe_int pa_nil)))) (pss_cons (ps_set (i := 2) scLaw.nd rfl (Or.inr rfl) (pe_cal C.drawn hr2 pass0 (pa_cons (pv 1) pa_nil))) (pss_cons (ps_set (i := 3) scLaw.nd rfl (Or.inr rfl) (pe_cal C.book hr4 pass0 (pa_cons (pv 2) pa_nil))) (pss_cons (ps_set (i := 4) scLaw.nd rfl (Or.inl rfl) (pe_cal C.same hr10 passL (pa_cons (pv 3) pa_nil))) (pss_cons (ps_set (i := 5) scLaw.nd rfl (Or.inl rfl) (pe_cal C.none hr10 passL (pa_cons (pv 3) pa_nil))) (pss_cons (ps_if (pt_not (pt_val (pe_calG C.shows hgu hr6 (pa_cons (pv 4) (pa_cons (pv 3) (pa_cons (pe_callTy (call_dctT rfl hr) (by rfl) T.fr.dict bt_dict (pa_cons (by exact (pe_lc (own := [("_law_bag", 6)]) (g := gName 6) (tt := tYes)  rfl scLaw.nd (pi_list (pe_cal C.bags hr1 pass0 (pa_cons (pv 2) pa_nil))) (blkOk_by (N := ["_law_script", "_law_stream_here", "_law_rules_here", "_law_book", "_law_itself", "_law_empty", "_law_bag", "_law_at", "_law_rows_here", "_law_k", "_law_one", "_law_two", "_law_three", "_law_row", "_law_both", "_law_strange", "_law_odd", "_law_thing", "_law_which"]) (sc := defScope sLaw) (by decide +kernel)) (fun _ _ _ _ _ => (pg_name (i := 6) scLaw.nd rfl (Or.inl rfl))) (fun _ _ _ _ _ => pts_nil) (fun _ _ _ _ _ => (pe_tup (pa_cons (pv 6) (pa_cons (pe_lst (pa_cons (pv 6) pa_nil)) pa_nil)))))) pa_nil)) pa_nil)))))) (pss_one (ps_ret pe_bl)) pss_nil) (pss_cons (ps_if (pt_not (pt_val (pe_calG C.shows hgu hr6 (pa_cons (pv 5) (pa_cons (pv 3) (pa_cons (pe_callTy (call_dctT rfl hr) (by rfl) T.fr.dict bt_dict (pa_cons (by exact (pe_lc (own := [("_law_bag", 6)]) (g := gName 6) (tt := tYes)  rfl scLaw.nd (pi_list (pe_cal C.bags hr1 pass0 (pa_cons (pv 2) pa_nil))) (blkOk_by (N := ["_law_script", "_law_stream_here", "_law_rules_here", "_law_book", "_law_itself", "_law_empty", "_law_bag", "_law_at", "_law_rows_here", "_law_k", "_law_one", "_law_two", "_law_three", "_law_row", "_law_both", "_law_strange", "_law_odd", "_law_thing", "_law_which"]) (sc := defScope sLaw) (by decide +kernel)) (fun _ _ _ _ _ => (pg_name (i := 6) scLaw.nd rfl (Or.inl rfl))) (fun _ _ _ _ _ => pts_nil) (fun _ _ _ _ _ => (pe_tup (pa_cons (pv 6) (pa_cons (pe_lst pa_nil) pa_nil)))))) pa_nil)) pa_nil)))))) (pss_one (ps_ret pe_bl)) pss_nil) (pss_cons (ps_for PassesOwn.never rfl (pi_range2 rfl T.fr.range (pa_cons pe_int (pa_cons (pe_callB (call_max2 rfl) (by rfl) T.fr.max bt_max (pa_cons pe_int (pa_cons (pe_callB (call_min2 rfl) (by rfl) T.fr.min bt_min (pa_cons (pe_callB call_len_seq (by rfl) T.fr.len bt_len (pa_cons (pv 0) pa_nil)) (pa_cons pe_int pa_nil))) pa_nil))) pa_nil))) (pg_name (i := 7) scLaw.nd rfl (Or.inl rfl)) (pss_cons (ps_set (i := 1) scLaw.nd rfl (Or.inr rfl) (pe_cal C.stream hr1 pass0 (pa_cons (pv 0) (pa_cons (pv 7) pa_nil)))) (pss_cons (ps_setLc (i := 8) (own := [("_law_k", 9)]) (g := gName 9) (tt := tYes) rfl scLaw.nd rfl rfl (sw_true rfl rfl rfl (by decide +kernel)) (pi_range1 rfl T.fr.range (pa_cons pe_int pa_nil)) (blkOk_by (N := nLaw) (sc := defScope sLaw) (by decide +kernel)) (fun _ _ _ _ _ => (pg_name (i := 9) scLaw.nd rfl (Or.inl rfl))) (fun _ _ _ _ _ => pts_nil) (fun _ _ _ _ _ => (pe_cal C.rows hr2 pass0 (pa_cons (pv 1) (pa_cons (pv 2) pa_nil))))) (pss_cons (ps_asg (by exact (pe_lc (own := [("_law_row", 13)]) (g := gName 13) (tt := tYes)  rfl scLaw.nd (pi_list (pv 8)) (blkOk_by (N := ["_law_script", "_law_stream_here", "_law_rules_here", "_law_book", "_law_itself", "_law_empty", "_law_bag", "_law_at", "_law_rows_here", "_law_k", "_law_one", "_law_two", "_law_three", "_law_row", "_law_both", "_law_strange", "_law_odd", "_law_thing", "_law_which"]) (sc := defScope sLaw) (by decide +kernel)) (fun _ _ _ _ _ => (pg_name (i := 13) scLaw.nd rfl (Or.inl rfl))) (fun _ _ _ _ _ => pts_nil) (fun _ _ _ _ _ => (pe_calI C.tinit hr9 (pa_cons (pv 3) (pa_cons (pe_cal C.handed hr3 pass0 (pa_cons (pv 1) (pa_cons (pv 13) pa_nil))) pa_nil)))))) (pg_lst rfl (pgs_cons (pg_name (i := 10) scLaw.nd rfl (Or.inl rfl)) (pgs_cons (pg_name (i := 11) scLaw.nd rfl (Or.inl rfl)) (pgs_cons (pg_name (i := 12) scLaw.nd rfl (Or.inl rfl)) pgs_nil))))) (pss_cons (ps_set (i := 14) scLaw.nd rfl (Or.inl rfl) (pe_cal C.thn hr10 passL (pa_cons (pv 10) (pa_cons (pv 11) pa_nil)))) (pss_cons (ps_if (pt_not (pt_val (pe_calG C.shows hgu hr6 (pa_cons (pv 14) (pa_cons (pv 3) (pa_cons (pe_cal C.behind hr3 pass0 (pa_cons (pv 2) (pa_cons (pe_ix ix_list (pv 8) pe_int (fun _ _ => rfl)) (pa_cons (pe_ix ix_list (pv 8) pe_int (fun _ _ => rfl)) pa_nil)))) pa_nil)))))) (pss_one (ps_ret pe_bl)) pss_nil) (pss_cons (ps_if (PW.pt (pw_or (pt_cmpR (op_neE C.teq hr5) (pe_cal C.thn hr10 passL (pa_cons (pv 10) (pa_cons (pv 4) pa_nil))) (pv 10) (nomark _)) (pw_or (pt_cmpR (op_neE C.teq hr5) (pe_cal C.thn hr10 passL (pa_cons (pv 4) (pa_cons (pv 10) pa_nil))) (pv 10) (nomark _)) (pw_or1 (pt_cmpR (op_neE C.teq hr5) (pe_cal C.thn hr10 passL (pa_cons (pv 14) (pa_cons (pv 12) pa_nil))) (pe_cal C.thn hr10 passL (pa_cons (pv 10) (pa_cons (pe_cal C.thn hr10 passL (pa_cons (pv 11) (pa_cons (pv 12) pa_nil))) pa_nil))) (nomark _)))))) (pss_one (ps_ret pe_bl)) pss_nil) (pss_cons (ps_if (PW.pt (pw_or (pt_not (pt_val (pe_calG C.shows hgu hr6 (pa_cons (pe_cal C.thn hr10 passL (pa_cons (pv 10) (pa_cons (pv 5) pa_nil))) (pa_cons (pv 3) (pa_cons (pe_cal C.stars hr2 pass0 (pa_cons (pe_ix ix_list (pv 8) pe_int (fun _ _ => rfl)) pa_nil)) pa_nil)))))) (pw_or1 (pt_cmpR (op_neE C.teq hr5) (pe_cal C.thn hr10 passL (pa_cons (pv 5) (pa_cons (pv 10) pa_nil))) (pv 5) (nomark _))))) (pss_one (ps_ret pe_bl)) pss_nil) (pss_cons (ps_if (pt_cmpR (op_neE C.teq hr5) (pe_cal C.thn hr10 passL (pa_cons (pe_op (op_orO C.or hr10) (pv 10) (pv 11)) (pa_cons (pv 12) pa_nil))) (pe_op (op_orO C.or hr10) (pe_cal C.thn hr10 passL (pa_cons (pv 10) (pa_cons (pv 12) pa_nil))) (pe_cal C.thn hr10 passL (pa_cons (pv 11) (pa_cons (pv 12) pa_nil)))) (nomark _)) (pss_one (ps_ret pe_bl)) pss_nil) (pss_cons (ps_if (pt_cmpR (op_neE C.teq hr5) (pe_cal C.thn hr10 passL (pa_cons (pv 10) (pa_cons (pe_op (op_orO C.or hr10) (pv 11) (pv 12)) pa_nil))) (pe_op (op_orO C.or hr10) (pe_cal C.thn hr10 passL (pa_cons (pv 10) (pa_cons (pv 11) pa_nil))) (pe_cal C.thn hr10 passL (pa_cons (pv 10) (pa_cons (pv 12) pa_nil)))) (nomark _)) (pss_one (ps_ret pe_bl)) pss_nil) (pss_cons (ps_if (PW.pt (pw_or (pt_not (pt_val (pe_calM C.within T.clT hr7 (pe_cal C.thn hr10 passL (pa_cons (pv 10) (pa_cons (pv 11) pa_nil))) (pa_cons (pe_cal C.thn hr10 passL (pa_cons (pe_op (op_orO C.or hr10) (pv 10) (pv 12)) (pa_cons (pe_op (op_orO C.or hr10) (pv 11) (pv 12)) pa_nil))) pa_nil)))) (pw_or1 (pt_not (pt_val (pe_calG C.shows hgu hr6 (pa_cons (pv 10) (pa_cons (pv 3) (pa_cons (pe_ix ix_list (pv 8) pe_int (fun _ _ => rfl)) pa_nil))))))))) (pss_one (ps_ret pe_bl)) pss_nil) (pss_cons (ps_set (i := 15) scLaw.nd rfl (Or.inl rfl) (pe_cal C.none hr10 passL (pa_cons (pe_calI C.rinit hr3 (pa_cons (pe_ix ix_tup (pv 2) pe_int (fun _ _ => rfl)) (pa_cons (pe_not (pe_ix ix_tup (pv 2) pe_int (fun _ _ => rfl))) (pa_cons (pe_ix ix_tup (pv 2) pe_int (fun _ _ => rfl)) pa_nil)))) pa_nil))) (pss_cons (ps_set (i := 16) scLaw.nd rfl (Or.inl rfl) (pe_ix ix_list (pe_lst (pa_cons pe_non (pa_cons (pe_ix ix_list (pv 8) pe_int (fun _ _ => rfl)) (pa_cons (pv 3) (pa_cons pe_str (pa_cons (pe_lst (pa_cons (pv 10) pa_nil)) (pa_cons (pv 15) pa_nil))))))) (pe_cal C.draw hr1 pass0 (pa_cons (pv 1) (pa_cons pe_int pa_nil))) (fun _ _ => rfl))) (pss_cons (ps_if (pt_cmpR (op_neTold hr.units0) (pe_cal C.refused hr pass0 (pa_cons (pv 10) (pa_cons (pv 16) pa_nil))) (pe_tup (pa_cons pe_str (pa_cons (pv 16) (pa_cons pe_bl pa_nil)))) (nomark _)) (pss_one (ps_ret pe_bl)) pss_nil) (pss_cons (ps_if (PW.pt (pw_and (pt_cmpR (op_neOdd C.req C.teq A0 nf hr5) (pv 16) (pv 15) (nomark _)) (pw_and1 (pt_cmpR (op_neTold hr.units0) (pe_cal C.refused hr pass0 (pa_cons (pv 16) (pa_cons pe_non pa_nil))) (pe_tup (pa_cons pe_str (pa_cons (pv 16) (pa_cons pe_bl pa_nil)))) (nomark _))))) (pss_one (ps_ret pe_bl)) pss_nil) (pss_cons (ps_set (i := 17) scLaw.nd rfl (Or.inl rfl) (pe_ix ix_list (pe_lst (pa_cons pe_non (pa_cons (pv 2) (pa_cons pe_str (pa_cons pe_int (pa_cons (pv 10) pa_nil)))))) (pe_cal C.draw hr1 pass0 (pa_cons (pv 1) (pa_cons pe_int pa_nil))) (fun _ _ => rfl))) (pss_one (ps_for PassesOwn.never rfl (pi_range1 rfl T.fr.range (pa_cons pe_int pa_nil)) (pg_name (i := 18) scLaw.nd rfl (Or.inl rfl)) (pss_one (ps_if (pt_cmpR (op_neTold hr.units0) (pe_cal C.noRules hr pass0 (pa_cons (pv 17) (pa_cons (pv 18) pa_nil))) (pe_tup (pa_cons pe_str (pa_cons (pv 17) (pa_cons pe_bl pa_nil)))) (nomark _)) (pss_one (ps_ret pe_bl)) pss_nil)))))))))))))))))))) (pss_one (ps_ret pe_bl)))))))))), ?_⟩
    -- the stream, the rules, the book, the two tables
    refine ⟨_, rfl, a, ns, 0, rfl, hs, fun H1 l e1 hl1 hst1 => ?_⟩
    refine ⟨_, rfl, l, rfl, hst1, fun H2 t c s p e2 hst2 ht htr hc => ?_⟩
    refine ⟨_, rfl, t, c, s, p, rfl, htr, hc, fun H3 bk e3 hbk hR => ?_⟩
    refine ⟨_, rfl, .ref bk, rfl, .inl ⟨bk, c, s, p, rfl, hR, hc, fun H4 x0 e4 hx0 hT0 => ?_⟩⟩
    refine ⟨_, rfl, .ref bk, rfl, .inl ⟨bk, c, s, p, rfl, hR.same e4, hc, fun H5 x9 e5 hx9 hT9 => ?_⟩⟩
    have s02 : Same H H2 := fun b o h => e2 b o (ne_of_none h hl1) (e1 b o h)
    have s05 : Same H H5 := ((s02.trans e3).trans e4).trans e5
    have htr5 : TripAt H5 t c s p := e5 _ _ (e4 _ _ (e3 _ _ htr))
    have hR5 : RulesAt CR H5 bk c s p := (hR.same e4).same e5
    have hT05 := hT0.same e5
    clear e1 e2 e3 e4 e5 hst1 hst2 htr hR hT0 s02
    -- same shows itself
    refine ⟨_, rfl, _, rfl, _, rfl, t, c, s, p, rfl, htr5, hc, fun H6 lb xs e6 hlb hlx hb => ⟨lb, rfl, ⟨_, SqL.of hlx⟩, fun D hD => ?_⟩⟩
    refine LcEnd.imp (law_pairs (F := sameR) (fun x => rfl) hc hlx hb hD fun x b H R hb hx kk => law_same rfl hx kk) fun H7 h7 => use_nil (h7 _ fun H8 d e8 hd hrows => ?_)
    have e58 := e6.trans e8
    refine use_nil ⟨x0, bk, bk, d, c, s, p, sameR, sameR, rfl, hT05.same e58, hR5.same e58, hrows, fun _ _ => rfl, fun H9 e9 => ⟨true, rfl, iteF ?_⟩⟩
    have e59 := e58.trans e9
    have s09 := s05.trans e59
    have htr9 : TripAt H9 t c s p := e59 _ _ htr5
    have hR9 := hR5.same e59
    have hT09 := hT05.same e59
    have hT99 := hT9.same e59
    clear hrows h7 e58 e59 e6 e8 e9 hlx hb htr5 hR5 hT05 hT9
    -- none shows none
    refine ⟨_, rfl, _, rfl, _, rfl, t, c, s, p, rfl, htr9, hc, fun H6 lb xs e6 hlb hlx hb => ⟨lb, rfl, ⟨_, SqL.of hlx⟩, fun D hD => ?_⟩⟩
    refine LcEnd.imp (law_pairs (F := noneR) (fun x => rfl) hc hlx hb hD fun x b H R hb hx kk => law_none rfl kk) fun H7 h7 => use_nil (h7 _ fun H8 d e8 hd hrows => ?_)
    have e58 := e6.trans e8
    refine use_nil ⟨x9, bk, bk, d, c, s, p, noneR, noneR, rfl, hT99.same e58, hR9.same e58, hrows, fun _ _ => rfl, fun Hb e9 => ⟨true, rfl, iteF ?_⟩⟩
    have e59 := e58.trans e9
    have s0b := s09.trans e59
    have htrb : TripAt Hb t c s p := e59 _ _ htr9
    have hRb := hR9.same e59
    have hT0b := hT09.same e59
    have hT9b := hT99.same e59
    clear hrows h7 e58 e59 e6 e8 e9 hlx hb htr9 hR9 hT09 hT99 s09
    have hsb : SqL K Hb a (ns.map V.int) := SqL.ext hs s0b
    -- the cells
    refine ⟨_, rfl, a, _, rfl, .inl hsb, _, _, rfl, _, _, rfl, 1, _, rfl, ⟨by decide, by decide, ?_, ?_⟩, ?_⟩
    · rw [List.length_map]
      repeat' split
      all_goals omega
    · rw [List.length_map]
      repeat' split
      all_goals omega
    refine for_range (lo := 1) (fun i σ H' => (∃ v1 v7 v8 v10 v11 v12 v14 v15 v16 v17 v18 : Option V, σ = [some (.ref a), v1, some (.ref t), some (.ref bk), some (.ref x0), some (.ref x9), none, v7, v8, none, v10, v11, v12, none, v14, v15, v16, v17, v18]) ∧ Same Hb H')
      ⟨⟨_, _, _, _, _, _, _, _, _, _, _, rfl⟩, Same.refl _⟩ ?_ ?_
    · rintro i σ H0 hi ⟨⟨v1, v7, v8, v10, v11, v12, v14, v15, v16, v17, v18, rfl⟩, e0⟩
      have hs0 : SqL K H0 a (ns.map V.int) := SqL.ext hsb e0
      have htr0 : TripAt H0 t c s p := e0 _ _ htrb
      have hR0 := hRb.same e0
      have hI0 := hT0b.same e0
      have hE0 := hT9b.same e0
      refine ⟨_, rfl, _, rfl, a, ns, i + 1, congrArg (fun z => [V.ref a, V.int z]) (by omega), hs0, fun H1 l e1 hl1 hst1 => ?_⟩
      have hl0 : H0 l = Option.none := hl1
      have htr1 : TripAt H1 t c s p := e1 _ _ htr0
      -- three tables' rows
      refine ⟨3, rfl, by decide, by decide, fun D hD => ?_⟩
      refine LcEnd.imp (law_rows3 (fun x => rfl) (fun x => rfl) (fun x => rfl) hst1 htr1 hc hD) ?_
      rintro H2 ⟨e2, hst2, ds, Rs, hdl, hds, hP⟩
      obtain ⟨d1, d2, d3, R1, R2, R3, rfl, rfl, ⟨hd1, hc1⟩, ⟨hd2, hc2⟩, ⟨hd3, hc3⟩⟩ := paired3 hP hdl
      have nDl := hst1.neNew hD
      have hR1 : RulesAt CR H1 bk c s p := hR0.same e1
      have hR2 : RulesAt CR H2 bk c s p := by
        obtain ⟨dr, h⟩ := hR1
        exact ⟨dr, e2 _ _ (hst1.ne h (by intro xs z; cases z)) h⟩
      -- the three tables
      refine ⟨_, rfl, D, rfl, ⟨_, SqL.of hds⟩, fun D2 hD2 => ?_⟩
      refine LcEnd.imp (law_tables (K := K) (fun x => rfl) (fun x => rfl) (fun x => rfl) (fun x => rfl) hst2 hR2 hc hds nDl hP (by show 3 ≤ 10; decide) hD2) ?_
      rintro H3 ⟨e3, hst3, xs, hxl, hxs, hT⟩
      obtain ⟨x1, x2, x3, rfl, t1, t2, t3⟩ := paired3r hT
      refine ⟨D2, _, rfl, SqL.of hxs, rfl, _, _, rfl, _, _, rfl, _, _, rfl, rfl, ?_⟩
      have e03 : Same H0 H3 := SameX.free hl1 e1 (e2.trans e3)
      have hds3 := e3 _ _ nDl hds
      have hr1 := hd1.stream hst2 e3
      have hr2 := hd2.stream hst2 e3
      have htr3 : TripAt H3 t c s p := e03 _ _ htr0
      have hR3 := hR0.same e03
      have hI3 := hI0.same e03
      have hE3 := hE0.same e03
      clear hd1 hd2 hd3 hP hds hT hxs htr1 hR1 hR2 hst2 hst1 e2 e3 hs0 htr0 hR0 hI0 hE0
      -- one behind another
      refine ⟨_, rfl, _, rfl, use_nil (then_ok t1 t2 fun H4 xb e4 hxb tb => ?_)⟩
      refine ⟨_, rfl, _, rfl, _, rfl, _, rfl, D, _, 0, _, rfl, rfl, SqL.of (e4 _ _ hds3), rfl, _, rfl, D, _, 1, _, rfl, rfl, SqL.of (e4 _ _ hds3), rfl, t, d1, d2, c, s, p, R1, R2, rfl, e4 _ _ htr3, hc, hr1.same e4, (hr2.same e4).rd, hc1, hc2, fun H5 dd e5 hdd hrows => ?_⟩
      have E5 := e4.trans e5
      refine use_nil ⟨xb, bk, bk, dd, c, s, p, thenR c R1 R2, thenR c R1 R2, rfl, tb.same e5, hR3.same E5, hrows, fun _ _ => rfl, fun H6 e6 => ⟨true, rfl, iteF ?_⟩⟩
      have E6 := E5.trans e6
      have tb6 := (tb.same e5).same e6
      clear hrows hdd
      -- same on either side; three in a row
      refine ⟨_, rfl, _, rfl, use_nil (then_ok (t1.same E6) (hI3.same E6) fun H7 z7 e7 hz7 w7 => ?_)⟩
      have E7 := E6.trans e7
      refine ⟨_, rfl, ne_tab w7 (t1.same E7) (then_same hc1) ⟨false, rfl, iteF ?_⟩⟩
      refine ⟨_, rfl, _, rfl, use_nil (then_ok (hI3.same E7) (t1.same E7) fun H8 z8 e8 hz8 w8 => ?_)⟩
      have E8 := E7.trans e8
      refine ⟨_, rfl, ne_tab w8 (t1.same E8) (same_then hc1) ⟨false, rfl, iteF ?_⟩⟩
      have tb8 := (tb6.same e7).same e8
      refine ⟨_, rfl, _, rfl, use_nil (then_ok tb8 (t3.same E8) fun H9 z9 e9 hz9 w9 => ?_)⟩
      have E9 := E8.trans e9
      refine ⟨_, rfl, _, rfl, _, rfl, use_nil (then_ok (t2.same E9) (t3.same E9) fun H10 z10 e10 hz10 w10 => ?_)⟩
      have E10 := E9.trans e10
      refine use_nil (then_ok (t1.same E10) w10 fun H11 z11 e11 hz11 w11 => ?_)
      have E11 := E10.trans e11
      refine ne_tab ((w9.same e10).same e11) w11 (then_assoc hc1 hc2) ⟨false, rfl, iteF ?_⟩
      clear w7 w8 w9 w10 w11 tb6 tb8 tb hz7 hz8 hz9 hz10 hz11 E6 E7 E8 E9 E10 E5 e4 e5 e6 e7 e8 e9 e10 e11
      -- none behind, none ahead
      refine ⟨_, rfl, _, rfl, use_nil (then_ok (t1.same E11) (hE3.same E11) fun H12 z12 e12 hz12 w12 => ?_)⟩
      have E12 := E11.trans e12
      refine ⟨_, rfl, _, rfl, D, _, 0, _, rfl, rfl, SqL.of (E12 _ _ hds3), rfl, d1, c, R1, rfl, hc, hr1.same E12, hc1, fun H13 dd e13 hdd hrows => ?_⟩
      refine use_nil ⟨z12, bk, bk, dd, c, s, p, thenR c R1 noneR, starsR R1, rfl, w12.same e13, hR3.same (E12.trans e13), hrows, then_none hc hc1, fun H14 e14 => ⟨true, rfl, iteF ?_⟩⟩
      have E14 := (E12.trans e13).trans e14
      refine ⟨_, rfl, _, rfl, use_nil (then_ok (hE3.same E14) (t1.same E14) fun H15 z15 e15 hz15 w15 => ?_)⟩
      have E15 := E14.trans e15
      refine ⟨_, rfl, ne_tab w15 (hE3.same E15) none_then ⟨false, rfl, iteF ?_⟩⟩
      clear w12 w15 hrows hdd hz12 hz15 E11 E12 E14 e12 e13 e14 e15
      -- joined ones ahead
      refine ⟨_, rfl, _, rfl, or_ok (t1.same E15) (t2.same E15) fun H16 z16 e16 hz16 w16 => ?_⟩
      have E16 := E15.trans e16
      refine ⟨_, rfl, use_nil (then_ok w16 (t3.same E16) fun H17 z17 e17 hz17 w17 => ?_)⟩
      have E17 := E16.trans e17
      refine ⟨_, rfl, _, rfl, use_nil (then_ok (t1.same E17) (t3.same E17) fun H18 z18 e18 hz18 w18 => ?_)⟩
      have E18 := E17.trans e18
      refine ⟨_, rfl, _, rfl, use_nil (then_ok (t2.same E18) (t3.same E18) fun H19 z19 e19 hz19 w19 => ?_)⟩
      have E19 := E18.trans e19
      refine or_ok (w18.same e19) w19 fun H20 z20 e20 hz20 w20 => ?_
      have E20 := E19.trans e20
      refine ne_tab (((w17.same e18).same e19).same e20) w20 (or_then hc1 hc2) ⟨false, rfl, iteF ?_⟩
      clear w16 w17 w18 w19 w20 hz16 hz17 hz18 hz19 hz20 E15 E16 E17 E18 E19 e16 e17 e18 e19 e20
      -- joined ones behind
      refine ⟨_, rfl, _, rfl, _, rfl, or_ok (t2.same E20) (t3.same E20) fun H16 z16 e16 hz16 w16 => ?_⟩
      have E16 := E20.trans e16
      refine use_nil (then_ok (t1.same E16) w16 fun H17 z17 e17 hz17 w17 => ?_)
      have E17 := E16.trans e17
      refine ⟨_, rfl, _, rfl, use_nil (then_ok (t1.same E17) (t2.same E17) fun H18 z18 e18 hz18 w18 => ?_)⟩
      have E18 := E17.trans e18
      refine ⟨_, rfl, _, rfl, use_nil (then_ok (t1.same E18) (t3.same E18) fun H19 z19 e19 hz19 w19 => ?_)⟩
      have E19 := E18.trans e19
      refine or_ok (w18.same e19) w19 fun H21 z21 e21 hz21 w21 => ?_
      have E21 := E19.trans e21
      refine ne_tab (((w17.same e18).same e19).same e21) w21 (then_or hc1) ⟨false, rfl, iteF ?_⟩
      clear w16 w17 w18 w19 w21 hz16 hz17 hz18 hz19 hz21 E16 E17 E18 E19 E20 e16 e17 e18 e19 e21
      -- less within less
      refine ⟨_, rfl, _, rfl, use_nil (then_ok (t1.same E21) (t2.same E21) fun H22 z22 e22 hz22 w22 => ?_)⟩
      have E22 := E21.trans e22
      obtain ⟨dw, dwd, hw1, _⟩ := id w22
      refine ⟨z22, dw, _, rfl, hw1, tf_within _ _, _, rfl, _, rfl, or_ok (t1.same E22) (t3.same E22) fun H23 z23 e23 hz23 w23 => ?_⟩
      have E23 := E22.trans e23
      refine ⟨_, rfl, _, rfl, or_ok (t2.same E23) (t3.same E23) fun H24 z24 e24 hz24 w24 => ?_⟩
      have E24 := E23.trans e24
      refine use_nil (then_ok (w23.same e24) w24 fun H25 z25 e25 hz25 w25 => ?_)
      have E25 := E24.trans e25
      refine use_nil ⟨z22, z25, bk, bk, c, s, p, thenR c R1 R2, thenR c (orR c R1 R3) (orR c R2 R3), rfl, ((w22.same e23).same e24).same e25, w25.rd, then_mono hc1 hc2, fun H26 e26 => ⟨true, rfl, iteF ?_⟩⟩
      have E26 := E25.trans e26
      refine ⟨_, rfl, _, rfl, _, rfl, D, _, 0, _, rfl, rfl, SqL.of (E26 _ _ hds3), rfl, x1, bk, bk, d1, c, s, p, R1, R1, rfl, t1.same E26, hR3.same E26, hr1.same E26, fun _ _ => rfl, fun H27 e27 => ⟨true, rfl, iteF ?_⟩⟩
      have E27 := E26.trans e27
      clear w22 w23 w24 w25 hz22 hz23 hz24 hz25 hw1 E21 E22 E23 E24 E25 E26 e22 e23 e24 e25 e26 e27
      -- a strange table
      have htr27 : TripAt H27 t c s p := E27 _ _ htr3
      refine ⟨_, rfl, t, _, 0, _, rfl, rfl, SqT.of htr27, rfl, _, rfl, t, _, 1, _, rfl, rfl, SqT.of htr27, rfl, s, rfl, _, rfl, t, _, 2, _, rfl, rfl, SqT.of htr27, rfl, fun r2 dr2 hr2' hdr2 ne2 => ?_⟩
      refine ⟨r2, dr2, c, !s, p, rfl, hc, upd_same, fun H28 e28 hR28 => ⟨rfl, ?_⟩⟩
      have e2728 : Same H27 H28 := fun b o h => e28 b o (ne_of_none h hr2') (by rw [upd_ne (ne_of_none h hr2'), upd_ne (ne_of_none h hdr2)]; exact h)
      have E28 := E27.trans e2728
      refine use_nil ⟨.ref r2, rfl, .inl ⟨r2, c, !s, p, rfl, ⟨dr2, hR28⟩, hc, fun H29 st e29 hst29 ws => ?_⟩⟩
      have E29 := E28.trans e29
      clear e28 e2728 e29 htr27 hst29 hR28 E27 E28 hr2' hdr2 ne2
      -- the odd thing
      refine ⟨_, rfl, D, _, 0, _, rfl, rfl, SqL.of (E29 _ _ hds3), rfl, _, rfl, _, rfl, (by show 1 ≤ sizeLine; decide), fun l1 hl1 => ?_⟩
      have e30 : Same H29 (L2.upd H29 l1 (.lst [.ref x1])) := Same.new hl1
      have hl1' : (L2.upd H29 l1 (.lst [.ref x1])) l1 = some (.lst [.ref x1]) := upd_same
      have nl1 : l1 ≠ l := (hst3.same E29).neNew hl1
      generalize L2.upd H29 l1 (.lst [.ref x1]) = H30 at e30 hl1' ⊢
      have E30 := E29.trans e30
      refine ⟨_, rfl, (by show 6 ≤ sizeLine; decide), fun l6 hl6 => ?_⟩
      have e31 : Same H30 (L2.upd H30 l6 (.lst [.non, .ref d1, .ref bk, .str "star", .ref l1, .ref st])) := Same.new hl6
      have hl6' : (L2.upd H30 l6 (.lst [.non, .ref d1, .ref bk, .str "star", .ref l1, .ref st])) l6 = some (.lst [.non, .ref d1, .ref bk, .str "star", .ref l1, .ref st]) := upd_same
      have nl6 : l6 ≠ l := (hst3.same E30).neNew hl6
      generalize L2.upd H30 l6 (.lst [.non, .ref d1, .ref bk, .str "star", .ref l1, .ref st]) = H31 at e31 hl6' ⊢
      have E31 := E30.trans e31
      have hst31 := hst3.same E31
      refine ⟨_, rfl, l, 6, rfl, hst31, by decide, by decide, fun H32 o e32 hst32 o0 o6 => ?_⟩
      -- all stands but the stream
      obtain ⟨sa, sb, sc, hsl⟩ := id hst31
      have ws32 := ((ws.same e30).same e31).lst hsl e32
      have t132 := (t1.same E31).lst hsl e32
      have hR32 : RulesAt CR H32 bk c s p := t132.rules
      have hl132 := e32 _ _ nl1 (e31 _ _ hl1')
      have htr32 : TripAt H32 t c s p := e32.lst hsl (E31 _ _ htr3) (by intro ws z; cases z)
      obtain ⟨kd, hkd, _⟩ := (hr1.same E31).stream hst31 e32
      have e0b : Same H0 H32 := SameX.free hl0 (e03.trans E31) e32
      obtain ⟨v, hat, hodd⟩ := odd_at (K := K) (s := s) hkd hR32 hl132 ws32 o0 o6
      refine ⟨l6, _, o, v, rfl, rfl, SqL.of (e32 _ _ nl6 hl6'), hat, ?_⟩
      have hst32' := hst32
      clear hst31 hl1 hl6 hl6' hl1' e30 e31 e32 hsl E29 E30 ws t1 hst3
      -- refused: the odd one behind
      refine ⟨_, rfl, _, rfl, use_nil ⟨.ref x1, v, v, rfl, .inr ⟨x1, bk, c, s, p, R1, rfl, t132.rd, hodd.odd T, rfl⟩, fun H33 tt e33 htt told => ?_⟩⟩
      refine ⟨_, rfl, (by show 3 ≤ sizeLine; decide), fun t2' ht2 => ⟨tt, t2', v, rfl, rfl, Same.new ht2 _ _ told, upd_same, hodd.simple, false, rfl, iteF ?_⟩⟩
      have e34 : Same H33 (L2.upd H33 t2' (.tup [.str "refused", v, .bl true])) := Same.new ht2
      generalize L2.upd H33 t2' (.tup [.str "refused", v, .bl true]) = H34 at e34 ⊢
      have E34 := e33.trans e34
      -- the odd one ahead
      refine ⟨_, rfl, _, rfl, Odd.ne T (hodd.same E34) (ws32.same E34) ⟨false, rfl, iteF (iteF ?_)⟩ (fun hn => ⟨true, rfl, iteT ?_⟩)⟩
      · obtain ⟨H36, hH⟩ : ∃ z, z = H34 := ⟨_, rfl⟩
        have E36 : Same H32 H36 := by
          rw [hH]
          exact E34
        rw [← hH]
        have hst36 : StreamAt H36 l := hst32.same E36
        have htr36 : TripAt H36 t c s p := E36 _ _ htr32
        refine ⟨_, rfl, _, rfl, (by show 5 ≤ sizeLine; decide), fun l5 hl5 => ?_⟩
        have e37 : Same H36 (L2.upd H36 l5 (.lst [.non, .ref t, .str "rules", .int 1, .ref x1])) := Same.new hl5
        have hl5' : (L2.upd H36 l5 (.lst [.non, .ref t, .str "rules", .int 1, .ref x1])) l5 = some (.lst [.non, .ref t, .str "rules", .int 1, .ref x1]) := upd_same
        have nl5 : l5 ≠ l := hst36.neNew hl5
        generalize L2.upd H36 l5 (.lst [.non, .ref t, .str "rules", .int 1, .ref x1]) = H37 at e37 hl5' ⊢
        have E37 := E36.trans e37
        have hst37 := hst36.same e37
        refine ⟨_, rfl, l, 5, rfl, hst37, by decide, by decide, fun H38 o2 e38 hst38 p0 p5 => ?_⟩
        obtain ⟨qa, qb, qc, hql⟩ := id hst37
        have htr38 : TripAt H38 t c s p := e38.lst hql (e37 _ _ htr36) (by intro ws z; cases z)
        have t138 := (t132.same E37).lst hql e38
        obtain ⟨u, hat2, hth⟩ := thing_at T htr38 t138 p0 p5
        refine ⟨l5, _, o2, u, rfl, rfl, SqL.of (e38 _ _ nl5 hl5'), hat2, ?_⟩
        have e0z : Same H0 H38 := SameX.free hl0 (e0b.trans E37) e38
        refine ⟨2, rfl, by decide, by decide, for_range (lo := 0) (fun j σ H' => (∃ w18 : Option V, σ = [some (.ref a), some (.ref l), some (.ref t), some (.ref bk), some (.ref x0), some (.ref x9), none, some (.int (1 + i)), some (.ref D), none, some (.ref x1), some (.ref x2), some (.ref x3), none, some (.ref xb), some (.ref st), some v, some u, w18]) ∧ Same H38 H') ⟨⟨_, rfl⟩, Same.refl _⟩ ?_ ?_⟩
        · rintro j σ H' hj ⟨⟨w18, rfl⟩, ej⟩
          refine ⟨_, rfl, _, rfl, use_nil ⟨u, 0 + j, rfl, hth.2 _ ej, fun H40 tt e40 htt told => ?_⟩⟩
          refine ⟨_, rfl, (by show 3 ≤ sizeLine; decide), fun t4 ht4 => ⟨tt, t4, u, rfl, rfl, Same.new ht4 _ _ told, upd_same, hth.1, false, rfl, iteF ⟨⟨_, rfl⟩, (ej.trans e40).trans (Same.new ht4)⟩⟩⟩
        · rintro σ H' ⟨⟨w18, rfl⟩, ej⟩
          exact ⟨⟨_, _, _, _, _, _, _, _, _, _, _, rfl⟩, e0.trans (e0z.trans ej)⟩
      · refine ⟨_, rfl, v, .non, v, rfl, .inl ⟨hn, rfl⟩, fun H35 t3' e35 ht3 told3 => ?_⟩
        refine ⟨_, rfl, (by show 3 ≤ sizeLine; decide), fun t4 ht4 => ⟨t3', t4, v, rfl, rfl, Same.new ht4 _ _ told3, upd_same, hodd.simple, false, rfl, iteF ?_⟩⟩
        have e36 : Same H35 (L2.upd H35 t4 (.tup [.str "refused", v, .bl true])) := Same.new ht4
        generalize L2.upd H35 t4 (.tup [.str "refused", v, .bl true]) = H36 at e36 ⊢
        have E36 := (E34.trans e35).trans e36
        have hst36 : StreamAt H36 l := hst32.same E36
        have htr36 : TripAt H36 t c s p := E36 _ _ htr32
        refine ⟨_, rfl, _, rfl, (by show 5 ≤ sizeLine; decide), fun l5 hl5 => ?_⟩
        have e37 : Same H36 (L2.upd H36 l5 (.lst [.non, .ref t, .str "rules", .int 1, .ref x1])) := Same.new hl5
        have hl5' : (L2.upd H36 l5 (.lst [.non, .ref t, .str "rules", .int 1, .ref x1])) l5 = some (.lst [.non, .ref t, .str "rules", .int 1, .ref x1]) := upd_same
        have nl5 : l5 ≠ l := hst36.neNew hl5
        generalize L2.upd H36 l5 (.lst [.non, .ref t, .str "rules", .int 1, .ref x1]) = H37 at e37 hl5' ⊢
        have E37 := E36.trans e37
        have hst37 := hst36.same e37
        refine ⟨_, rfl, l, 5, rfl, hst37, by decide, by decide, fun H38 o2 e38 hst38 p0 p5 => ?_⟩
        obtain ⟨qa, qb, qc, hql⟩ := id hst37
        have htr38 : TripAt H38 t c s p := e38.lst hql (e37 _ _ htr36) (by intro ws z; cases z)
        have t138 := (t132.same E37).lst hql e38
        obtain ⟨u, hat2, hth⟩ := thing_at T htr38 t138 p0 p5
        refine ⟨l5, _, o2, u, rfl, rfl, SqL.of (e38 _ _ nl5 hl5'), hat2, ?_⟩
        have e0z : Same H0 H38 := SameX.free hl0 (e0b.trans E37) e38
        refine ⟨2, rfl, by decide, by decide, for_range (lo := 0) (fun j σ H' => (∃ w18 : Option V, σ = [some (.ref a), some (.ref l), some (.ref t), some (.ref bk), some (.ref x0), some (.ref x9), none, some (.int (1 + i)), some (.ref D), none, some (.ref x1), some (.ref x2), some (.ref x3), none, some (.ref xb), some (.ref st), some v, some u, w18]) ∧ Same H38 H') ⟨⟨_, rfl⟩, Same.refl _⟩ ?_ ?_⟩
        · rintro j σ H' hj ⟨⟨w18, rfl⟩, ej⟩
          refine ⟨_, rfl, _, rfl, use_nil ⟨u, 0 + j, rfl, hth.2 _ ej, fun H40 tt e40 htt told => ?_⟩⟩
          refine ⟨_, rfl, (by show 3 ≤ sizeLine; decide), fun t4 ht4 => ⟨tt, t4, u, rfl, rfl, Same.new ht4 _ _ told, upd_same, hth.1, false, rfl, iteF ⟨⟨_, rfl⟩, (ej.trans e40).trans (Same.new ht4)⟩⟩⟩
        · rintro σ H' ⟨⟨w18, rfl⟩, ej⟩
          exact ⟨⟨_, _, _, _, _, _, _, _, _, _, _, rfl⟩, e0.trans (e0z.trans ej)⟩
    · rintro σ H' _
      exact k H'
end
end Rt
set_option Elab.async false
set_option linter.all false
set_option maxRecDepth 100000
set_option maxHeartbeats 4000000
namespace Rt
open PySem PySem.Spec PyProof.Rows L2
/-! ### the head's facts -/
theorem kit_one {K : PySem.W.Frag} {t : Value} {C : Addr} {b : Bool} (h2 : PySem.W.isClsIn K C = true) (h3 : PySem.W.typeIn K (.ref C) = some (.type "type")) (h4 : PySem.W.subIn K t (.ref C) = some b) (h5 : PySem.W.subIn K (.ref C) (.ref C) = some true) : PySem.W.kitOne K t (.ref C) = some b := by
  have e2 : ((PySem.W.clsIn K C).isSome && PySem.W.typeIn K (.ref C) == some (.type "type")) = true := by
    have h2' : (PySem.W.clsIn K C).isSome = true := h2
    rw [h2', h3] <;> rfl
  show (if (t == Value.ref C) = true then some true else if ((PySem.W.clsIn K C).isSome && PySem.W.typeIn K (.ref C) == some (.type "type")) = true then PySem.W.subIn K t (.ref C) else none) = some b
  by_cases h : (t == Value.ref C) = true
  · rw [if_pos h]
    have e := beq_iff_eq.mp h
    rw [e, h5] at h4
    exact h4
  · rw [if_neg h, if_pos e2]
    exact h4
theorem exm_self {K : PySem.W.Frag} {S : Addr} (h1 : PySem.W.subIn K (.ref S) (.type "BaseException") = some true) (h2 : PySem.W.isClsIn K S = true) (h3 : PySem.W.typeIn K (.ref S) = some (.type "type")) (h4 : PySem.W.subIn K (.ref S) (.ref S) = some true) :
    PySem.W.exmOne K (.ref S) (.ref S) = some true := by
  have e1 : (PySem.W.subIn K (.ref S) (.type "BaseException") == some true) = true := by rw [h1] <;> rfl
  have e2 : ((PySem.W.clsIn K S).isSome && PySem.W.typeIn K (.ref S) == some (.type "type")) = true := by
    have h2' : (PySem.W.clsIn K S).isSome = true := h2
    rw [h2', h3] <;> rfl
  show (if (PySem.W.subIn K (.ref S) (.type "BaseException") == some true) = true then (if ((PySem.W.clsIn K S).isSome && PySem.W.typeIn K (.ref S) == some (.type "type")) = true then PySem.W.subIn K (.ref S) (.ref S) else none) else none) = some true
  rw [if_pos e1, if_pos e2]
  exact h4
/-- Rules' __init__, its three defaults a tuple of the top's -/
theorem rinit_mk {K : PySem.W.Frag} {mg : Str → Option Value} {C f T : Addr} {od an dx : Option Addr} {sl ds : Array (Option Value)} {oc kV dc pm cd ct dq : Value} {dn : Nat} {dk : Tok}
    (l : K.lookup f = some ⟨oc, od, .func (PySem.W.fnOf "__init__" "Rules.__init__" (defArgs (inClass (topS 11) 0)) (defBody (inClass (topS 11) 0)) (defScope (inClass (topS 11) 0)) (.ref T) kV dc pm an cd ct), sl⟩)
    (d : K.lookup T = some ⟨dq, dx, .seq #[.int 1 dk, .bool false, .bool false] dn, ds⟩) (c : PySem.W.codeIn K cd "Rules.__init__" = true) (k : PySem.W.keepIn K (.ref f) = true) (m : Mk K C f) (g : mg "Rules" = some (.ref C)) : DefI K mg C ["self", "cap", "strong", "pull"] := by
  have F : FunD K "__init__" "Rules.__init__" (defArgs (inClass (topS 11) 0)) (defBody (inClass (topS 11) 0)) (defScope (inClass (topS 11) 0)) [.int 1, .bl false, .bl false] [] f _ :=
    ⟨⟨oc, od, .ref T, kV, dc, pm, an, cd, ct, sl, rfl, l, c, .inr ⟨by simp, T, _, [.int 1 dk, .bool false, .bool false], dn, rfl, d, rfl, .cons ⟨dk, rfl⟩ (.cons rfl (.cons rfl .nil))⟩, .inl rfl⟩, k⟩
  obtain ⟨zs, hz, hb⟩ := F.binds1 (ps := ["self", "cap", "strong", "pull"]) 4 3 (by simp) rfl (fun T kV doc pm an cdv ct us its h1 h2 => by
    match us, its, h1, h2 with
    | [_, _, _, _], [_, _, _], _, _ => exact ⟨_, rfl, rfl⟩)
  have ez : zs = [] := by
    cases hz
    rfl
  subst ez
  exact ⟨f, _, ⟨⟨oc, od, .ref T, kV, dc, pm, an, cd, ct, sl, rfl, l, c⟩, k⟩, m, g, hb⟩
theorem all_mk {P : Program} {w : World} {K : PySem.W.Frag} {h : Heap} {mg : Str → Option Value} {fa : Addr} (X : K.In h) (G : h.Ns mainGlobals mg) (hfa : mg "law" = some (.ref fa))
    {fg7 : Addr} {odg7 ang7 : Option Addr} {slg7 : Array (Option Value)} {ocg7 kVg7 dcg7 pmg7 cdg7 ctg7 : Value}
    {fg8 : Addr} {odg8 ang8 : Option Addr} {slg8 : Array (Option Value)} {ocg8 kVg8 dcg8 pmg8 cdg8 ctg8 : Value}
    {fg12 : Addr} {odg12 ang12 : Option Addr} {slg12 : Array (Option Value)} {ocg12 kVg12 dcg12 pmg12 cdg12 ctg12 : Value}
    {fg13 : Addr} {odg13 ang13 : Option Addr} {slg13 : Array (Option Value)} {ocg13 kVg13 dcg13 pmg13 cdg13 ctg13 : Value}
    {fg14 : Addr} {odg14 ang14 : Option Addr} {slg14 : Array (Option Value)} {ocg14 kVg14 dcg14 pmg14 cdg14 ctg14 : Value}
    {fg17 : Addr} {odg17 ang17 : Option Addr} {slg17 : Array (Option Value)} {ocg17 kVg17 dcg17 pmg17 cdg17 ctg17 : Value}
    {fg18 : Addr} {odg18 ang18 : Option Addr} {slg18 : Array (Option Value)} {ocg18 kVg18 dcg18 pmg18 cdg18 ctg18 : Value}
    {fg19 : Addr} {odg19 ang19 : Option Addr} {slg19 : Array (Option Value)} {ocg19 kVg19 dcg19 pmg19 cdg19 ctg19 : Value}
    {fg20 : Addr} {odg20 ang20 : Option Addr} {slg20 : Array (Option Value)} {ocg20 kVg20 dcg20 pmg20 cdg20 ctg20 : Value}
    {fg21 : Addr} {odg21 ang21 : Option Addr} {slg21 : Array (Option Value)} {ocg21 kVg21 dcg21 pmg21 cdg21 ctg21 : Value}
    {fg22 : Addr} {odg22 ang22 : Option Addr} {slg22 : Array (Option Value)} {ocg22 kVg22 dcg22 pmg22 cdg22 ctg22 : Value}
    {fg24 : Addr} {odg24 ang24 : Option Addr} {slg24 : Array (Option Value)} {ocg24 kVg24 dcg24 pmg24 cdg24 ctg24 : Value}
    {fg25 : Addr} {odg25 ang25 : Option Addr} {slg25 : Array (Option Value)} {ocg25 kVg25 dcg25 pmg25 cdg25 ctg25 : Value}
    {fg26 : Addr} {odg26 ang26 : Option Addr} {slg26 : Array (Option Value)} {ocg26 kVg26 dcg26 pmg26 cdg26 ctg26 : Value}
    {fg27 : Addr} {odg27 ang27 : Option Addr} {slg27 : Array (Option Value)} {ocg27 kVg27 dcg27 pmg27 cdg27 ctg27 : Value}
    {fg28 : Addr} {odg28 ang28 : Option Addr} {slg28 : Array (Option Value)} {ocg28 kVg28 dcg28 pmg28 cdg28 ctg28 : Value}
    {fg29 : Addr} {odg29 ang29 : Option Addr} {slg29 : Array (Option Value)} {ocg29 kVg29 dcg29 pmg29 cdg29 ctg29 : Value}
    {fg31 : Addr} {odg31 ang31 : Option Addr} {slg31 : Array (Option Value)} {ocg31 kVg31 dcg31 pmg31 cdg31 ctg31 : Value}
    {fg32 : Addr} {odg32 ang32 : Option Addr} {slg32 : Array (Option Value)} {ocg32 kVg32 dcg32 pmg32 cdg32 ctg32 : Value}
    {fg33 : Addr} {odg33 ang33 : Option Addr} {slg33 : Array (Option Value)} {ocg33 kVg33 dcg33 pmg33 cdg33 ctg33 : Value}
    {fg34 : Addr} {odg34 ang34 : Option Addr} {slg34 : Array (Option Value)} {ocg34 kVg34 dcg34 pmg34 cdg34 ctg34 : Value}
    {fg35 : Addr} {odg35 ang35 : Option Addr} {slg35 : Array (Option Value)} {ocg35 kVg35 dcg35 pmg35 cdg35 ctg35 : Value}
    {fg36 : Addr} {odg36 ang36 : Option Addr} {slg36 : Array (Option Value)} {ocg36 kVg36 dcg36 pmg36 cdg36 ctg36 : Value}
    {fg37 : Addr} {odg37 ang37 : Option Addr} {slg37 : Array (Option Value)} {ocg37 kVg37 dcg37 pmg37 cdg37 ctg37 : Value}
    {fg38 : Addr} {odg38 ang38 : Option Addr} {slg38 : Array (Option Value)} {ocg38 kVg38 dcg38 pmg38 cdg38 ctg38 : Value}
    {fg39 : Addr} {odg39 ang39 : Option Addr} {slg39 : Array (Option Value)} {ocg39 kVg39 dcg39 pmg39 cdg39 ctg39 : Value}
    {fg40 : Addr} {odg40 ang40 : Option Addr} {slg40 : Array (Option Value)} {ocg40 kVg40 dcg40 pmg40 cdg40 ctg40 : Value}
    {fg41 : Addr} {odg41 ang41 : Option Addr} {slg41 : Array (Option Value)} {ocg41 kVg41 dcg41 pmg41 cdg41 ctg41 : Value}
    {fg42 : Addr} {odg42 ang42 : Option Addr} {slg42 : Array (Option Value)} {ocg42 kVg42 dcg42 pmg42 cdg42 ctg42 : Value}
    {fg43 : Addr} {odg43 ang43 : Option Addr} {slg43 : Array (Option Value)} {ocg43 kVg43 dcg43 pmg43 cdg43 ctg43 : Value}
    {fg44 : Addr} {odg44 ang44 : Option Addr} {slg44 : Array (Option Value)} {ocg44 kVg44 dcg44 pmg44 cdg44 ctg44 : Value}
    {fg45 : Addr} {odg45 ang45 : Option Addr} {slg45 : Array (Option Value)} {ocg45 kVg45 dcg45 pmg45 cdg45 ctg45 : Value}
    {CR : Addr}
    {CT : Addr}
    {fmR0 : Addr} {odmR0 anmR0 : Option Addr} {slmR0 : Array (Option Value)} {ocmR0 kVmR0 dcmR0 pmmR0 cdmR0 ctmR0 : Value} {dTmR0 : Addr} {dqmR0 : Value} {dxmR0 : Option Addr} {dnmR0 : Nat} {dkmR0 : Tok} {dsmR0 : Array (Option Value)}
    {fmR1 : Addr} {odmR1 anmR1 : Option Addr} {slmR1 : Array (Option Value)} {ocmR1 kVmR1 dcmR1 pmmR1 cdmR1 ctmR1 : Value}
    {pmR2 : Addr} {restmR2 : List Value}
    {fmR2 : Addr} {odmR2 anmR2 : Option Addr} {slmR2 : Array (Option Value)} {ocmR2 kVmR2 dcmR2 pmmR2 cdmR2 ctmR2 : Value}
    {pmR3 : Addr} {restmR3 : List Value}
    {fmR3 : Addr} {odmR3 anmR3 : Option Addr} {slmR3 : Array (Option Value)} {ocmR3 kVmR3 dcmR3 pmmR3 cdmR3 ctmR3 : Value}
    {pmR4 : Addr} {restmR4 : List Value}
    {fmR4 : Addr} {odmR4 anmR4 : Option Addr} {slmR4 : Array (Option Value)} {ocmR4 kVmR4 dcmR4 pmmR4 cdmR4 ctmR4 : Value}
    {fmR5 : Addr} {odmR5 anmR5 : Option Addr} {slmR5 : Array (Option Value)} {ocmR5 kVmR5 dcmR5 pmmR5 cdmR5 ctmR5 : Value}
    {fmT0 : Addr} {odmT0 anmT0 : Option Addr} {slmT0 : Array (Option Value)} {ocmT0 kVmT0 dcmT0 pmmT0 cdmT0 ctmT0 : Value}
    {pmT1 : Addr} {restmT1 : List Value}
    {fmT1 : Addr} {odmT1 anmT1 : Option Addr} {slmT1 : Array (Option Value)} {ocmT1 kVmT1 dcmT1 pmmT1 cdmT1 ctmT1 : Value}
    {fmT2 : Addr} {odmT2 anmT2 : Option Addr} {slmT2 : Array (Option Value)} {ocmT2 kVmT2 dcmT2 pmmT2 cdmT2 ctmT2 : Value}
    {fmT3 : Addr} {odmT3 anmT3 : Option Addr} {slmT3 : Array (Option Value)} {ocmT3 kVmT3 dcmT3 pmmT3 cdmT3 ctmT3 : Value}
    {fmT4 : Addr} {odmT4 anmT4 : Option Addr} {slmT4 : Array (Option Value)} {ocmT4 kVmT4 dcmT4 pmmT4 cdmT4 ctmT4 : Value}
    {fmT5 : Addr} {odmT5 anmT5 : Option Addr} {slmT5 : Array (Option Value)} {ocmT5 kVmT5 dcmT5 pmmT5 cdmT5 ctmT5 : Value}
    {fmT6 : Addr} {odmT6 anmT6 : Option Addr} {slmT6 : Array (Option Value)} {ocmT6 kVmT6 dcmT6 pmmT6 cdmT6 ctmT6 : Value}
    {CM : Addr}
    {CBR : Addr} {nmBR qBR : Str} {NBR : Addr} {bsBR bmBR : List Value} {snBR : List Str} {subBR : List Value} {abBR : Bool} {colBR : Option Bool} {ddBR : Option Addr} {w0BR w1BR w2BR w3BR w5BR : Option Value}
    {feBR : Addr} {odeBR aneBR : Option Addr} {sleBR : Array (Option Value)} {oceBR kVeBR dceBR pmeBR cdeBR cteBR : Value}
    {CBT : Addr} {nmBT qBT : Str} {NBT : Addr} {bsBT bmBT : List Value} {snBT : List Str} {subBT : List Value} {abBT : Bool} {colBT : Option Bool} {ddBT : Option Addr} {w0BT w1BT w2BT w3BT w5BT : Option Value}
    {feBT : Addr} {odeBT aneBT : Option Addr} {sleBT : Array (Option Value)} {oceBT kVeBT dceBT pmeBT cdeBT cteBT : Value}
    {tcap : Tok} {tstar : Tok}
    (ag7 : PySem.W.nsIn K mainGlobals "is_integer" = some (some (.ref fg7)))
    (lg7 : K.lookup fg7 = some ⟨ocg7, odg7, .func (PySem.W.fnOf "is_integer" "is_integer" (defArgs (topS 7)) (defBody (topS 7)) (defScope (topS 7)) .none kVg7 dcg7 pmg7 ang7 cdg7 ctg7), slg7⟩)
    (cg7 : PySem.W.codeIn K cdg7 "is_integer" = true)
    (kg7 : PySem.W.keepIn K (.ref fg7) = true)
    (ag8 : PySem.W.nsIn K mainGlobals "is_flag" = some (some (.ref fg8)))
    (lg8 : K.lookup fg8 = some ⟨ocg8, odg8, .func (PySem.W.fnOf "is_flag" "is_flag" (defArgs (topS 8)) (defBody (topS 8)) (defScope (topS 8)) .none kVg8 dcg8 pmg8 ang8 cdg8 ctg8), slg8⟩)
    (cg8 : PySem.W.codeIn K cdg8 "is_flag" = true)
    (kg8 : PySem.W.keepIn K (.ref fg8) = true)
    (ag12 : PySem.W.nsIn K mainGlobals "is_bag" = some (some (.ref fg12)))
    (lg12 : K.lookup fg12 = some ⟨ocg12, odg12, .func (PySem.W.fnOf "is_bag" "is_bag" (defArgs (topS 12)) (defBody (topS 12)) (defScope (topS 12)) .none kVg12 dcg12 pmg12 ang12 cdg12 ctg12), slg12⟩)
    (cg12 : PySem.W.codeIn K cdg12 "is_bag" = true)
    (kg12 : PySem.W.keepIn K (.ref fg12) = true)
    (ag13 : PySem.W.nsIn K mainGlobals "check_rules" = some (some (.ref fg13)))
    (lg13 : K.lookup fg13 = some ⟨ocg13, odg13, .func (PySem.W.fnOf "check_rules" "check_rules" (defArgs (topS 13)) (defBody (topS 13)) (defScope (topS 13)) .none kVg13 dcg13 pmg13 ang13 cdg13 ctg13), slg13⟩)
    (cg13 : PySem.W.codeIn K cdg13 "check_rules" = true)
    (kg13 : PySem.W.keepIn K (.ref fg13) = true)
    (ag14 : PySem.W.nsIn K mainGlobals "check_bag" = some (some (.ref fg14)))
    (lg14 : K.lookup fg14 = some ⟨ocg14, odg14, .func (PySem.W.fnOf "check_bag" "check_bag" (defArgs (topS 14)) (defBody (topS 14)) (defScope (topS 14)) .none kVg14 dcg14 pmg14 ang14 cdg14 ctg14), slg14⟩)
    (cg14 : PySem.W.codeIn K cdg14 "check_bag" = true)
    (kg14 : PySem.W.keepIn K (.ref fg14) = true)
    (ag17 : PySem.W.nsIn K mainGlobals "is_outcome" = some (some (.ref fg17)))
    (lg17 : K.lookup fg17 = some ⟨ocg17, odg17, .func (PySem.W.fnOf "is_outcome" "is_outcome" (defArgs (topS 17)) (defBody (topS 17)) (defScope (topS 17)) .none kVg17 dcg17 pmg17 ang17 cdg17 ctg17), slg17⟩)
    (cg17 : PySem.W.codeIn K cdg17 "is_outcome" = true)
    (kg17 : PySem.W.keepIn K (.ref fg17) = true)
    (ag18 : PySem.W.nsIn K mainGlobals "outcomes_in_order" = some (some (.ref fg18)))
    (lg18 : K.lookup fg18 = some ⟨ocg18, odg18, .func (PySem.W.fnOf "outcomes_in_order" "outcomes_in_order" (defArgs (topS 18)) (defBody (topS 18)) (defScope (topS 18)) .none kVg18 dcg18 pmg18 ang18 cdg18 ctg18), slg18⟩)
    (cg18 : PySem.W.codeIn K cdg18 "outcomes_in_order" = true)
    (kg18 : PySem.W.keepIn K (.ref fg18) = true)
    (ag19 : PySem.W.nsIn K mainGlobals "are_outcomes" = some (some (.ref fg19)))
    (lg19 : K.lookup fg19 = some ⟨ocg19, odg19, .func (PySem.W.fnOf "are_outcomes" "are_outcomes" (defArgs (topS 19)) (defBody (topS 19)) (defScope (topS 19)) .none kVg19 dcg19 pmg19 ang19 cdg19 ctg19), slg19⟩)
    (cg19 : PySem.W.codeIn K cdg19 "are_outcomes" = true)
    (kg19 : PySem.W.keepIn K (.ref fg19) = true)
    (ag20 : PySem.W.nsIn K mainGlobals "check_outcome" = some (some (.ref fg20)))
    (lg20 : K.lookup fg20 = some ⟨ocg20, odg20, .func (PySem.W.fnOf "check_outcome" "check_outcome" (defArgs (topS 20)) (defBody (topS 20)) (defScope (topS 20)) .none kVg20 dcg20 pmg20 ang20 cdg20 ctg20), slg20⟩)
    (cg20 : PySem.W.codeIn K cdg20 "check_outcome" = true)
    (kg20 : PySem.W.keepIn K (.ref fg20) = true)
    (ag21 : PySem.W.nsIn K mainGlobals "listed" = some (some (.ref fg21)))
    (lg21 : K.lookup fg21 = some ⟨ocg21, odg21, .func (PySem.W.fnOf "listed" "listed" (defArgs (topS 21)) (defBody (topS 21)) (defScope (topS 21)) .none kVg21 dcg21 pmg21 ang21 cdg21 ctg21), slg21⟩)
    (cg21 : PySem.W.codeIn K cdg21 "listed" = true)
    (kg21 : PySem.W.keepIn K (.ref fg21) = true)
    (ag22 : PySem.W.nsIn K mainGlobals "check_rows" = some (some (.ref fg22)))
    (lg22 : K.lookup fg22 = some ⟨ocg22, odg22, .func (PySem.W.fnOf "check_rows" "check_rows" (defArgs (topS 22)) (defBody (topS 22)) (defScope (topS 22)) .none kVg22 dcg22 pmg22 ang22 cdg22 ctg22), slg22⟩)
    (cg22 : PySem.W.codeIn K cdg22 "check_rows" = true)
    (kg22 : PySem.W.keepIn K (.ref fg22) = true)
    (ag24 : PySem.W.nsIn K mainGlobals "both_rows" = some (some (.ref fg24)))
    (lg24 : K.lookup fg24 = some ⟨ocg24, odg24, .func (PySem.W.fnOf "both_rows" "both_rows" (defArgs (topS 24)) (defBody (topS 24)) (defScope (topS 24)) .none kVg24 dcg24 pmg24 ang24 cdg24 ctg24), slg24⟩)
    (cg24 : PySem.W.codeIn K cdg24 "both_rows" = true)
    (kg24 : PySem.W.keepIn K (.ref fg24) = true)
    (ag25 : PySem.W.nsIn K mainGlobals "check_like" = some (some (.ref fg25)))
    (lg25 : K.lookup fg25 = some ⟨ocg25, odg25, .func (PySem.W.fnOf "check_like" "check_like" (defArgs (topS 25)) (defBody (topS 25)) (defScope (topS 25)) .none kVg25 dcg25 pmg25 ang25 cdg25 ctg25), slg25⟩)
    (cg25 : PySem.W.codeIn K cdg25 "check_like" = true)
    (kg25 : PySem.W.keepIn K (.ref fg25) = true)
    (ag26 : PySem.W.nsIn K mainGlobals "behind" = some (some (.ref fg26)))
    (lg26 : K.lookup fg26 = some ⟨ocg26, odg26, .func (PySem.W.fnOf "behind" "behind" (defArgs (topS 26)) (defBody (topS 26)) (defScope (topS 26)) .none kVg26 dcg26 pmg26 ang26 cdg26 ctg26), slg26⟩)
    (cg26 : PySem.W.codeIn K cdg26 "behind" = true)
    (kg26 : PySem.W.keepIn K (.ref fg26) = true)
    (ag27 : PySem.W.nsIn K mainGlobals "then" = some (some (.ref fg27)))
    (lg27 : K.lookup fg27 = some ⟨ocg27, odg27, .func (PySem.W.fnOf "then" "then" (defArgs (topS 27)) (defBody (topS 27)) (defScope (topS 27)) .none kVg27 dcg27 pmg27 ang27 cdg27 ctg27), slg27⟩)
    (cg27 : PySem.W.codeIn K cdg27 "then" = true)
    (kg27 : PySem.W.keepIn K (.ref fg27) = true)
    (ag28 : PySem.W.nsIn K mainGlobals "same" = some (some (.ref fg28)))
    (lg28 : K.lookup fg28 = some ⟨ocg28, odg28, .func (PySem.W.fnOf "same" "same" (defArgs (topS 28)) (defBody (topS 28)) (defScope (topS 28)) .none kVg28 dcg28 pmg28 ang28 cdg28 ctg28), slg28⟩)
    (cg28 : PySem.W.codeIn K cdg28 "same" = true)
    (kg28 : PySem.W.keepIn K (.ref fg28) = true)
    (ag29 : PySem.W.nsIn K mainGlobals "none" = some (some (.ref fg29)))
    (lg29 : K.lookup fg29 = some ⟨ocg29, odg29, .func (PySem.W.fnOf "none" "none" (defArgs (topS 29)) (defBody (topS 29)) (defScope (topS 29)) .none kVg29 dcg29 pmg29 ang29 cdg29 ctg29), slg29⟩)
    (cg29 : PySem.W.codeIn K cdg29 "none" = true)
    (kg29 : PySem.W.keepIn K (.ref fg29) = true)
    (ag31 : PySem.W.nsIn K mainGlobals "_law_stream" = some (some (.ref fg31)))
    (lg31 : K.lookup fg31 = some ⟨ocg31, odg31, .func (PySem.W.fnOf "_law_stream" "_law_stream" (defArgs (topS 31)) (defBody (topS 31)) (defScope (topS 31)) .none kVg31 dcg31 pmg31 ang31 cdg31 ctg31), slg31⟩)
    (cg31 : PySem.W.codeIn K cdg31 "_law_stream" = true)
    (kg31 : PySem.W.keepIn K (.ref fg31) = true)
    (ag32 : PySem.W.nsIn K mainGlobals "_law_draw" = some (some (.ref fg32)))
    (lg32 : K.lookup fg32 = some ⟨ocg32, odg32, .func (PySem.W.fnOf "_law_draw" "_law_draw" (defArgs (topS 32)) (defBody (topS 32)) (defScope (topS 32)) .none kVg32 dcg32 pmg32 ang32 cdg32 ctg32), slg32⟩)
    (cg32 : PySem.W.codeIn K cdg32 "_law_draw" = true)
    (kg32 : PySem.W.keepIn K (.ref fg32) = true)
    (ag33 : PySem.W.nsIn K mainGlobals "_law_bags" = some (some (.ref fg33)))
    (lg33 : K.lookup fg33 = some ⟨ocg33, odg33, .func (PySem.W.fnOf "_law_bags" "_law_bags" (defArgs (topS 33)) (defBody (topS 33)) (defScope (topS 33)) .none kVg33 dcg33 pmg33 ang33 cdg33 ctg33), slg33⟩)
    (cg33 : PySem.W.codeIn K cdg33 "_law_bags" = true)
    (kg33 : PySem.W.keepIn K (.ref fg33) = true)
    (ag34 : PySem.W.nsIn K mainGlobals "_law_in_order" = some (some (.ref fg34)))
    (lg34 : K.lookup fg34 = some ⟨ocg34, odg34, .func (PySem.W.fnOf "_law_in_order" "_law_in_order" (defArgs (topS 34)) (defBody (topS 34)) (defScope (topS 34)) .none kVg34 dcg34 pmg34 ang34 cdg34 ctg34), slg34⟩)
    (cg34 : PySem.W.codeIn K cdg34 "_law_in_order" = true)
    (kg34 : PySem.W.keepIn K (.ref fg34) = true)
    (ag35 : PySem.W.nsIn K mainGlobals "_law_rules" = some (some (.ref fg35)))
    (lg35 : K.lookup fg35 = some ⟨ocg35, odg35, .func (PySem.W.fnOf "_law_rules" "_law_rules" (defArgs (topS 35)) (defBody (topS 35)) (defScope (topS 35)) .none kVg35 dcg35 pmg35 ang35 cdg35 ctg35), slg35⟩)
    (cg35 : PySem.W.codeIn K cdg35 "_law_rules" = true)
    (kg35 : PySem.W.keepIn K (.ref fg35) = true)
    (ag36 : PySem.W.nsIn K mainGlobals "_law_drawn_rules" = some (some (.ref fg36)))
    (lg36 : K.lookup fg36 = some ⟨ocg36, odg36, .func (PySem.W.fnOf "_law_drawn_rules" "_law_drawn_rules" (defArgs (topS 36)) (defBody (topS 36)) (defScope (topS 36)) .none kVg36 dcg36 pmg36 ang36 cdg36 ctg36), slg36⟩)
    (cg36 : PySem.W.codeIn K cdg36 "_law_drawn_rules" = true)
    (kg36 : PySem.W.keepIn K (.ref fg36) = true)
    (ag37 : PySem.W.nsIn K mainGlobals "_law_rows" = some (some (.ref fg37)))
    (lg37 : K.lookup fg37 = some ⟨ocg37, odg37, .func (PySem.W.fnOf "_law_rows" "_law_rows" (defArgs (topS 37)) (defBody (topS 37)) (defScope (topS 37)) .none kVg37 dcg37 pmg37 ang37 cdg37 ctg37), slg37⟩)
    (cg37 : PySem.W.codeIn K cdg37 "_law_rows" = true)
    (kg37 : PySem.W.keepIn K (.ref fg37) = true)
    (ag38 : PySem.W.nsIn K mainGlobals "_law_shuffled" = some (some (.ref fg38)))
    (lg38 : K.lookup fg38 = some ⟨ocg38, odg38, .func (PySem.W.fnOf "_law_shuffled" "_law_shuffled" (defArgs (topS 38)) (defBody (topS 38)) (defScope (topS 38)) .none kVg38 dcg38 pmg38 ang38 cdg38 ctg38), slg38⟩)
    (cg38 : PySem.W.codeIn K cdg38 "_law_shuffled" = true)
    (kg38 : PySem.W.keepIn K (.ref fg38) = true)
    (ag39 : PySem.W.nsIn K mainGlobals "_law_handed" = some (some (.ref fg39)))
    (lg39 : K.lookup fg39 = some ⟨ocg39, odg39, .func (PySem.W.fnOf "_law_handed" "_law_handed" (defArgs (topS 39)) (defBody (topS 39)) (defScope (topS 39)) .none kVg39 dcg39 pmg39 ang39 cdg39 ctg39), slg39⟩)
    (cg39 : PySem.W.codeIn K cdg39 "_law_handed" = true)
    (kg39 : PySem.W.keepIn K (.ref fg39) = true)
    (ag40 : PySem.W.nsIn K mainGlobals "_law_shows" = some (some (.ref fg40)))
    (lg40 : K.lookup fg40 = some ⟨ocg40, odg40, .func (PySem.W.fnOf "_law_shows" "_law_shows" (defArgs (topS 40)) (defBody (topS 40)) (defScope (topS 40)) .none kVg40 dcg40 pmg40 ang40 cdg40 ctg40), slg40⟩)
    (cg40 : PySem.W.codeIn K cdg40 "_law_shows" = true)
    (kg40 : PySem.W.keepIn K (.ref fg40) = true)
    (ag41 : PySem.W.nsIn K mainGlobals "_law_behind" = some (some (.ref fg41)))
    (lg41 : K.lookup fg41 = some ⟨ocg41, odg41, .func (PySem.W.fnOf "_law_behind" "_law_behind" (defArgs (topS 41)) (defBody (topS 41)) (defScope (topS 41)) .none kVg41 dcg41 pmg41 ang41 cdg41 ctg41), slg41⟩)
    (cg41 : PySem.W.codeIn K cdg41 "_law_behind" = true)
    (kg41 : PySem.W.keepIn K (.ref fg41) = true)
    (ag42 : PySem.W.nsIn K mainGlobals "_law_stars" = some (some (.ref fg42)))
    (lg42 : K.lookup fg42 = some ⟨ocg42, odg42, .func (PySem.W.fnOf "_law_stars" "_law_stars" (defArgs (topS 42)) (defBody (topS 42)) (defScope (topS 42)) .none kVg42 dcg42 pmg42 ang42 cdg42 ctg42), slg42⟩)
    (cg42 : PySem.W.codeIn K cdg42 "_law_stars" = true)
    (kg42 : PySem.W.keepIn K (.ref fg42) = true)
    (ag43 : PySem.W.nsIn K mainGlobals "_law_refused" = some (some (.ref fg43)))
    (lg43 : K.lookup fg43 = some ⟨ocg43, odg43, .func (PySem.W.fnOf "_law_refused" "_law_refused" (defArgs (topS 43)) (defBody (topS 43)) (defScope (topS 43)) .none kVg43 dcg43 pmg43 ang43 cdg43 ctg43), slg43⟩)
    (cg43 : PySem.W.codeIn K cdg43 "_law_refused" = true)
    (kg43 : PySem.W.keepIn K (.ref fg43) = true)
    (ag44 : PySem.W.nsIn K mainGlobals "_law_no_rules" = some (some (.ref fg44)))
    (lg44 : K.lookup fg44 = some ⟨ocg44, odg44, .func (PySem.W.fnOf "_law_no_rules" "_law_no_rules" (defArgs (topS 44)) (defBody (topS 44)) (defScope (topS 44)) .none kVg44 dcg44 pmg44 ang44 cdg44 ctg44), slg44⟩)
    (cg44 : PySem.W.codeIn K cdg44 "_law_no_rules" = true)
    (kg44 : PySem.W.keepIn K (.ref fg44) = true)
    (ag45 : PySem.W.nsIn K mainGlobals "law" = some (some (.ref fg45)))
    (lg45 : K.lookup fg45 = some ⟨ocg45, odg45, .func (PySem.W.fnOf "law" "law" (defArgs (topS 45)) (defBody (topS 45)) (defScope (topS 45)) .none kVg45 dcg45 pmg45 ang45 cdg45 ctg45), slg45⟩)
    (cg45 : PySem.W.codeIn K cdg45 "law" = true)
    (kg45 : PySem.W.keepIn K (.ref fg45) = true)
    (aCR : PySem.W.nsIn K mainGlobals "Rules" = some (some (.ref CR)))
    (pgR : PySem.W.plainGet K CR Str.empty = true)
    (hdR : PySem.W.hasDictIn K CR = true)
    (poR : PySem.W.plainOver K CR = true)
    (saR : PySem.W.findIn K (.ref CR) "__setattr__" = some (some (.builtin "object.__setattr__")))
    (mkR : PySem.W.makesIn K CR = true)
    (kcR : PySem.W.keepIn K (.ref CR) = true)
    (clR : PySem.W.findIn K (.ref CR) "__class__" = some (some (.builtin "object.__class__")))
    (moR : PySem.W.mroIn K CR (.type "object") = some true)
    (neR : PySem.W.findIn K (.ref CR) "__ne__" = some (some (.builtin "object.__ne__")))
    (obR : PySem.W.subIn K (.ref CR) (.type "object") = some true)
    (nR_own_cap : PySem.W.findIn K (.ref CR) "own_cap" = some none)
    (nR_own_strong : PySem.W.findIn K (.ref CR) "own_strong" = some none)
    (nR_own_pull : PySem.W.findIn K (.ref CR) "own_pull" = some none)
    (aCT : PySem.W.nsIn K mainGlobals "Table" = some (some (.ref CT)))
    (pgT : PySem.W.plainGet K CT Str.empty = true)
    (hdT : PySem.W.hasDictIn K CT = true)
    (poT : PySem.W.plainOver K CT = true)
    (saT : PySem.W.findIn K (.ref CT) "__setattr__" = some (some (.builtin "object.__setattr__")))
    (mkT : PySem.W.makesIn K CT = true)
    (kcT : PySem.W.keepIn K (.ref CT) = true)
    (clT : PySem.W.findIn K (.ref CT) "__class__" = some (some (.builtin "object.__class__")))
    (moT : PySem.W.mroIn K CT (.type "object") = some true)
    (neT : PySem.W.findIn K (.ref CT) "__ne__" = some (some (.builtin "object.__ne__")))
    (obT : PySem.W.subIn K (.ref CT) (.type "object") = some true)
    (nT_own_rules : PySem.W.findIn K (.ref CT) "own_rules" = some none)
    (nT_kept : PySem.W.findIn K (.ref CT) "kept" = some none)
    (gcl : PySem.W.specialIn K (.builtin "object.__class__") "__get__" = some (some (.builtin "getset_descriptor.__get__")))
    (tcl : PySem.W.takesIn K (.builtin "object.__class__") = some true)
    (sfT : PySem.W.selfFirst K CT = true)
    (apNoneType : PySem.W.subIn K (.ref CT) (.type "NoneType") = some false)
    (apstr : PySem.W.subIn K (.ref CT) (.type "str") = some false)
    (aplist : PySem.W.subIn K (.ref CT) (.type "list") = some false)
    (apdict : PySem.W.subIn K (.ref CT) (.type "dict") = some false)
    (nfRR : PySem.W.notFirst K CR (.ref CR) = true)
    (nfTT : PySem.W.notFirst K CT (.ref CT) = true)
    (nfRT : PySem.W.notFirst K CR (.ref CT) = true)
    (icCR : PySem.W.isClsIn K CR = true)
    (tyCR : PySem.W.typeIn K (.ref CR) = some (.type "type"))
    (ssCR : PySem.W.subIn K (.ref CR) (.ref CR) = some true)
    (icCT : PySem.W.isClsIn K CT = true)
    (tyCT : PySem.W.typeIn K (.ref CT) = some (.type "type"))
    (ssCT : PySem.W.subIn K (.ref CT) (.ref CT) = some true)
    (suTR : PySem.W.subIn K (.ref CT) (.ref CR) = some false)
    (suRT : PySem.W.subIn K (.ref CR) (.ref CT) = some false)
    (suNoneTypeCR : PySem.W.subIn K (.type "NoneType") (.ref CR) = some false)
    (suNoneTypeCT : PySem.W.subIn K (.type "NoneType") (.ref CT) = some false)
    (sustrCR : PySem.W.subIn K (.type "str") (.ref CR) = some false)
    (sustrCT : PySem.W.subIn K (.type "str") (.ref CT) = some false)
    (sulistCR : PySem.W.subIn K (.type "list") (.ref CR) = some false)
    (sulistCT : PySem.W.subIn K (.type "list") (.ref CT) = some false)
    (sudictCR : PySem.W.subIn K (.type "dict") (.ref CR) = some false)
    (sudictCT : PySem.W.subIn K (.type "dict") (.ref CT) = some false)
    (sutupleCR : PySem.W.subIn K (.type "tuple") (.ref CR) = some false)
    (sutupleCT : PySem.W.subIn K (.type "tuple") (.ref CT) = some false)
    (suintCR : PySem.W.subIn K (.type "int") (.ref CR) = some false)
    (suintCT : PySem.W.subIn K (.type "int") (.ref CT) = some false)
    (amR0 : PySem.W.findIn K (.ref CR) "__init__" = some (some (.ref fmR0)))
    (imR0 : PySem.W.isFn K (.ref fmR0) = true)
    (lmR0 : K.lookup fmR0 = some ⟨ocmR0, odmR0, .func (PySem.W.fnOf "__init__" "Rules.__init__" (defArgs (inClass (topS 11) 0)) (defBody (inClass (topS 11) 0)) (defScope (inClass (topS 11) 0)) (.ref dTmR0) kVmR0 dcmR0 pmmR0 anmR0 cdmR0 ctmR0), slmR0⟩)
    (dmR0 : K.lookup dTmR0 = some ⟨dqmR0, dxmR0, .seq #[.int 1 dkmR0, .bool false, .bool false] dnmR0, dsmR0⟩)
    (cmR0 : PySem.W.codeIn K cdmR0 "Rules.__init__" = true)
    (kmR0 : PySem.W.keepIn K (.ref fmR0) = true)
    (amR1 : PySem.W.findIn K (.ref CR) "__eq__" = some (some (.ref fmR1)))
    (imR1 : PySem.W.isFn K (.ref fmR1) = true)
    (lmR1 : K.lookup fmR1 = some ⟨ocmR1, odmR1, .func (PySem.W.fnOf "__eq__" "Rules.__eq__" (defArgs (inClass (topS 11) 1)) (defBody (inClass (topS 11) 1)) (defScope (inClass (topS 11) 1)) .none kVmR1 dcmR1 pmmR1 anmR1 cdmR1 ctmR1), slmR1⟩)
    (cmR1 : PySem.W.codeIn K cdmR1 "Rules.__eq__" = true)
    (kmR1 : PySem.W.keepIn K (.ref fmR1) = true)
    (amR2 : PySem.W.findIn K (.ref CR) "cap" = some (some (.ref pmR2)))
    (gmR2 : PySem.W.specialIn K (.ref pmR2) "__get__" = some (some (.builtin "property.__get__")))
    (tmR2 : PySem.W.takesIn K (.ref pmR2) = some true)
    (rmR2 : PySem.W.recIn K pmR2 "property" = some (.ref fmR2 :: restmR2))
    (lmR2 : K.lookup fmR2 = some ⟨ocmR2, odmR2, .func (PySem.W.fnOf "cap" "Rules.cap" (defArgs (inClass (topS 11) 2)) (defBody (inClass (topS 11) 2)) (defScope (inClass (topS 11) 2)) .none kVmR2 dcmR2 pmmR2 anmR2 cdmR2 ctmR2), slmR2⟩)
    (cmR2 : PySem.W.codeIn K cdmR2 "Rules.cap" = true)
    (kmR2 : PySem.W.keepIn K (.ref fmR2) = true)
    (amR3 : PySem.W.findIn K (.ref CR) "strong" = some (some (.ref pmR3)))
    (gmR3 : PySem.W.specialIn K (.ref pmR3) "__get__" = some (some (.builtin "property.__get__")))
    (tmR3 : PySem.W.takesIn K (.ref pmR3) = some true)
    (rmR3 : PySem.W.recIn K pmR3 "property" = some (.ref fmR3 :: restmR3))
    (lmR3 : K.lookup fmR3 = some ⟨ocmR3, odmR3, .func (PySem.W.fnOf "strong" "Rules.strong" (defArgs (inClass (topS 11) 3)) (defBody (inClass (topS 11) 3)) (defScope (inClass (topS 11) 3)) .none kVmR3 dcmR3 pmmR3 anmR3 cdmR3 ctmR3), slmR3⟩)
    (cmR3 : PySem.W.codeIn K cdmR3 "Rules.strong" = true)
    (kmR3 : PySem.W.keepIn K (.ref fmR3) = true)
    (amR4 : PySem.W.findIn K (.ref CR) "pull" = some (some (.ref pmR4)))
    (gmR4 : PySem.W.specialIn K (.ref pmR4) "__get__" = some (some (.builtin "property.__get__")))
    (tmR4 : PySem.W.takesIn K (.ref pmR4) = some true)
    (rmR4 : PySem.W.recIn K pmR4 "property" = some (.ref fmR4 :: restmR4))
    (lmR4 : K.lookup fmR4 = some ⟨ocmR4, odmR4, .func (PySem.W.fnOf "pull" "Rules.pull" (defArgs (inClass (topS 11) 4)) (defBody (inClass (topS 11) 4)) (defScope (inClass (topS 11) 4)) .none kVmR4 dcmR4 pmmR4 anmR4 cdmR4 ctmR4), slmR4⟩)
    (cmR4 : PySem.W.codeIn K cdmR4 "Rules.pull" = true)
    (kmR4 : PySem.W.keepIn K (.ref fmR4) = true)
    (amR5 : PySem.W.findIn K (.ref CR) "bags" = some (some (.ref fmR5)))
    (imR5 : PySem.W.isFn K (.ref fmR5) = true)
    (lmR5 : K.lookup fmR5 = some ⟨ocmR5, odmR5, .func (PySem.W.fnOf "bags" "Rules.bags" (defArgs (inClass (topS 11) 5)) (defBody (inClass (topS 11) 5)) (defScope (inClass (topS 11) 5)) .none kVmR5 dcmR5 pmmR5 anmR5 cdmR5 ctmR5), slmR5⟩)
    (cmR5 : PySem.W.codeIn K cdmR5 "Rules.bags" = true)
    (kmR5 : PySem.W.keepIn K (.ref fmR5) = true)
    (amT0 : PySem.W.findIn K (.ref CT) "__init__" = some (some (.ref fmT0)))
    (imT0 : PySem.W.isFn K (.ref fmT0) = true)
    (lmT0 : K.lookup fmT0 = some ⟨ocmT0, odmT0, .func (PySem.W.fnOf "__init__" "Table.__init__" (defArgs (inClass (topS 23) 0)) (defBody (inClass (topS 23) 0)) (defScope (inClass (topS 23) 0)) .none kVmT0 dcmT0 pmmT0 anmT0 cdmT0 ctmT0), slmT0⟩)
    (cmT0 : PySem.W.codeIn K cdmT0 "Table.__init__" = true)
    (kmT0 : PySem.W.keepIn K (.ref fmT0) = true)
    (amT1 : PySem.W.findIn K (.ref CT) "rules" = some (some (.ref pmT1)))
    (gmT1 : PySem.W.specialIn K (.ref pmT1) "__get__" = some (some (.builtin "property.__get__")))
    (tmT1 : PySem.W.takesIn K (.ref pmT1) = some true)
    (rmT1 : PySem.W.recIn K pmT1 "property" = some (.ref fmT1 :: restmT1))
    (lmT1 : K.lookup fmT1 = some ⟨ocmT1, odmT1, .func (PySem.W.fnOf "rules" "Table.rules" (defArgs (inClass (topS 23) 1)) (defBody (inClass (topS 23) 1)) (defScope (inClass (topS 23) 1)) .none kVmT1 dcmT1 pmmT1 anmT1 cdmT1 ctmT1), slmT1⟩)
    (cmT1 : PySem.W.codeIn K cdmT1 "Table.rules" = true)
    (kmT1 : PySem.W.keepIn K (.ref fmT1) = true)
    (amT2 : PySem.W.findIn K (.ref CT) "outcomes" = some (some (.ref fmT2)))
    (imT2 : PySem.W.isFn K (.ref fmT2) = true)
    (lmT2 : K.lookup fmT2 = some ⟨ocmT2, odmT2, .func (PySem.W.fnOf "outcomes" "Table.outcomes" (defArgs (inClass (topS 23) 2)) (defBody (inClass (topS 23) 2)) (defScope (inClass (topS 23) 2)) .none kVmT2 dcmT2 pmmT2 anmT2 cdmT2 ctmT2), slmT2⟩)
    (cmT2 : PySem.W.codeIn K cdmT2 "Table.outcomes" = true)
    (kmT2 : PySem.W.keepIn K (.ref fmT2) = true)
    (amT3 : PySem.W.findIn K (.ref CT) "lets" = some (some (.ref fmT3)))
    (imT3 : PySem.W.isFn K (.ref fmT3) = true)
    (lmT3 : K.lookup fmT3 = some ⟨ocmT3, odmT3, .func (PySem.W.fnOf "lets" "Table.lets" (defArgs (inClass (topS 23) 3)) (defBody (inClass (topS 23) 3)) (defScope (inClass (topS 23) 3)) .none kVmT3 dcmT3 pmmT3 anmT3 cdmT3 ctmT3), slmT3⟩)
    (cmT3 : PySem.W.codeIn K cdmT3 "Table.lets" = true)
    (kmT3 : PySem.W.keepIn K (.ref fmT3) = true)
    (amT4 : PySem.W.findIn K (.ref CT) "within" = some (some (.ref fmT4)))
    (imT4 : PySem.W.isFn K (.ref fmT4) = true)
    (lmT4 : K.lookup fmT4 = some ⟨ocmT4, odmT4, .func (PySem.W.fnOf "within" "Table.within" (defArgs (inClass (topS 23) 4)) (defBody (inClass (topS 23) 4)) (defScope (inClass (topS 23) 4)) .none kVmT4 dcmT4 pmmT4 anmT4 cdmT4 ctmT4), slmT4⟩)
    (cmT4 : PySem.W.codeIn K cdmT4 "Table.within" = true)
    (kmT4 : PySem.W.keepIn K (.ref fmT4) = true)
    (amT5 : PySem.W.findIn K (.ref CT) "__or__" = some (some (.ref fmT5)))
    (imT5 : PySem.W.isFn K (.ref fmT5) = true)
    (lmT5 : K.lookup fmT5 = some ⟨ocmT5, odmT5, .func (PySem.W.fnOf "__or__" "Table.__or__" (defArgs (inClass (topS 23) 5)) (defBody (inClass (topS 23) 5)) (defScope (inClass (topS 23) 5)) .none kVmT5 dcmT5 pmmT5 anmT5 cdmT5 ctmT5), slmT5⟩)
    (cmT5 : PySem.W.codeIn K cdmT5 "Table.__or__" = true)
    (kmT5 : PySem.W.keepIn K (.ref fmT5) = true)
    (amT6 : PySem.W.findIn K (.ref CT) "__eq__" = some (some (.ref fmT6)))
    (imT6 : PySem.W.isFn K (.ref fmT6) = true)
    (lmT6 : K.lookup fmT6 = some ⟨ocmT6, odmT6, .func (PySem.W.fnOf "__eq__" "Table.__eq__" (defArgs (inClass (topS 23) 6)) (defBody (inClass (topS 23) 6)) (defScope (inClass (topS 23) 6)) .none kVmT6 dcmT6 pmmT6 anmT6 cdmT6 ctmT6), slmT6⟩)
    (cmT6 : PySem.W.codeIn K cdmT6 "Table.__eq__" = true)
    (kmT6 : PySem.W.keepIn K (.ref fmT6) = true)
    (aME : PySem.W.nsIn K mainGlobals "MazeError" = some (some (.ref CM)))
    (icM : PySem.W.isClsIn K CM = true)
    (tyM : PySem.W.typeIn K (.ref CM) = some (.type "type"))
    (ssM : PySem.W.subIn K (.ref CM) (.ref CM) = some true)
    (aBR : PySem.W.nsIn K mainGlobals "BadRules" = some (some (.ref CBR)))
    (xBR : K.lookup CBR = some (excClassObj nmBR qBR CBR NBR bsBR bmBR true snBR subBR abBR colBR ddBR w0BR w1BR w2BR w3BR w5BR "ValueError.__new__"))
    (rfBR : PySem.HandSPX.refsVE bmBR = true)
    (saBR : PySem.W.findIn K (.ref CBR) "__setattr__" = some (some (.builtin "object.__setattr__")))
    (gaBR : PySem.W.findIn K (.ref CBR) "__getattribute__" = some (some (.builtin "BaseException.__getattribute__")))
    (ggBR : PySem.W.findIn K (.ref CBR) "__getattr__" = some none)
    (nvBR : PySem.W.findIn K (.ref CBR) "value" = some none)
    (seBR : PySem.W.subIn K (.ref CBR) (.type "BaseException") = some true)
    (tyBR : PySem.W.typeIn K (.ref CBR) = some (.type "type"))
    (kcBR : PySem.W.keepIn K (.ref CBR) = true)
    (hdBR : PySem.W.hasDictIn K CBR = true)
    (icBR : PySem.W.isClsIn K CBR = true)
    (clBR : PySem.W.findIn K (.ref CBR) "__class__" = some (some (.builtin "object.__class__")))
    (moBR : PySem.W.mroIn K CBR (.type "object") = some true)
    (smBR : PySem.W.subIn K (.ref CBR) (.ref CM) = some true)
    (ssBR : PySem.W.subIn K (.ref CBR) (.ref CBR) = some true)
    (aiBR : PySem.W.findIn K (.ref CBR) "__init__" = some (some (.ref feBR)))
    (tiBR : PySem.W.typeIn K (.ref feBR) = some (.type "function"))
    (leBR : K.lookup feBR = some ⟨oceBR, odeBR, .func (PySem.W.fnOf "__init__" "BadRules.__init__" (defArgs (inClass (topS 2) 0)) (defBody (inClass (topS 2) 0)) (defScope (inClass (topS 2) 0)) .none kVeBR dceBR pmeBR aneBR cdeBR cteBR), sleBR⟩)
    (ceBR : PySem.W.codeIn K cdeBR "BadRules.__init__" = true)
    (keBR : PySem.W.keepIn K (.ref feBR) = true)
    (aBT : PySem.W.nsIn K mainGlobals "BadTable" = some (some (.ref CBT)))
    (xBT : K.lookup CBT = some (excClassObj nmBT qBT CBT NBT bsBT bmBT true snBT subBT abBT colBT ddBT w0BT w1BT w2BT w3BT w5BT "ValueError.__new__"))
    (rfBT : PySem.HandSPX.refsVE bmBT = true)
    (saBT : PySem.W.findIn K (.ref CBT) "__setattr__" = some (some (.builtin "object.__setattr__")))
    (gaBT : PySem.W.findIn K (.ref CBT) "__getattribute__" = some (some (.builtin "BaseException.__getattribute__")))
    (ggBT : PySem.W.findIn K (.ref CBT) "__getattr__" = some none)
    (nvBT : PySem.W.findIn K (.ref CBT) "value" = some none)
    (seBT : PySem.W.subIn K (.ref CBT) (.type "BaseException") = some true)
    (tyBT : PySem.W.typeIn K (.ref CBT) = some (.type "type"))
    (kcBT : PySem.W.keepIn K (.ref CBT) = true)
    (hdBT : PySem.W.hasDictIn K CBT = true)
    (icBT : PySem.W.isClsIn K CBT = true)
    (clBT : PySem.W.findIn K (.ref CBT) "__class__" = some (some (.builtin "object.__class__")))
    (moBT : PySem.W.mroIn K CBT (.type "object") = some true)
    (smBT : PySem.W.subIn K (.ref CBT) (.ref CM) = some true)
    (ssBT : PySem.W.subIn K (.ref CBT) (.ref CBT) = some true)
    (aiBT : PySem.W.findIn K (.ref CBT) "__init__" = some (some (.ref feBT)))
    (tiBT : PySem.W.typeIn K (.ref feBT) = some (.type "function"))
    (leBT : K.lookup feBT = some ⟨oceBT, odeBT, .func (PySem.W.fnOf "__init__" "BadTable.__init__" (defArgs (inClass (topS 5) 0)) (defBody (inClass (topS 5) 0)) (defScope (inClass (topS 5) 0)) .none kVeBT dceBT pmeBT aneBT cdeBT cteBT), sleBT⟩)
    (ceBT : PySem.W.codeIn K cdeBT "BadTable.__init__" = true)
    (keBT : PySem.W.keepIn K (.ref feBT) = true)
    (gcap : PySem.W.nsIn K mainGlobals "GREATEST_CAP" = some (some (.int 2 tcap)))
    (gstar : PySem.W.nsIn K mainGlobals "STAR" = some (some (.str "star" tstar)))
    (z_isinstance : PySem.W.nsIn K mainGlobals "isinstance" = some none)
    (z_int : PySem.W.nsIn K mainGlobals "int" = some none)
    (z_bool : PySem.W.nsIn K mainGlobals "bool" = some none)
    (z_range : PySem.W.nsIn K mainGlobals "range" = some none)
    (z_list : PySem.W.nsIn K mainGlobals "list" = some none)
    (z_tuple : PySem.W.nsIn K mainGlobals "tuple" = some none)
    (z_dict : PySem.W.nsIn K mainGlobals "dict" = some none)
    (z_len : PySem.W.nsIn K mainGlobals "len" = some none)
    (z_all : PySem.W.nsIn K mainGlobals "all" = some none)
    (z_str : PySem.W.nsIn K mainGlobals "str" = some none)
    (z_sum : PySem.W.nsIn K mainGlobals "sum" = some none)
    (z_abs : PySem.W.nsIn K mainGlobals "abs" = some none)
    (z_min : PySem.W.nsIn K mainGlobals "min" = some none)
    (z_max : PySem.W.nsIn K mainGlobals "max" = some none)
    (z_repr : PySem.W.nsIn K mainGlobals "repr" = some none)
    : ∃ fd : FuncData, (∀ (s : Shared) (u : Value), BindsTo s fd ⟨[u], []⟩ [("_law_script", u)]) ∧ ∀ base : Heap, K.In base → base.Ns mainGlobals mg → FnG P w K mg base CX0 12 fa fd ["_law_script"] (spLaw K) := by
  have e := hfa.symm.trans (PySem.W.mg_of X G ag45)
  cases e
  have Fr : Free mg := ⟨PySem.W.mg_none_of X G z_isinstance, PySem.W.mg_none_of X G z_int, PySem.W.mg_none_of X G z_bool, PySem.W.mg_none_of X G z_range, PySem.W.mg_none_of X G z_list, PySem.W.mg_none_of X G z_tuple, PySem.W.mg_none_of X G z_dict, PySem.W.mg_none_of X G z_len, PySem.W.mg_none_of X G z_all, PySem.W.mg_none_of X G z_str, PySem.W.mg_none_of X G z_sum, PySem.W.mg_none_of X G z_abs, PySem.W.mg_none_of X G z_min, PySem.W.mg_none_of X G z_max, PySem.W.mg_none_of X G z_repr⟩
  have cR : Cls K CR := ⟨pgR, hdR, poR, saR⟩
  have cT : Cls K CT := ⟨pgT, hdT, poT, saT⟩
  have kitR : ∀ t ∈ (["NoneType", "str", "list", "dict", "tuple", "int"] : List String), PySem.W.kitOne K (.type t) (.ref CR) = some false := by
    intro t ht
    simp only [List.mem_cons, List.not_mem_nil, or_false] at ht
    rcases ht with rfl | rfl | rfl | rfl | rfl | rfl
    · exact kit_one icCR tyCR suNoneTypeCR ssCR
    · exact kit_one icCR tyCR sustrCR ssCR
    · exact kit_one icCR tyCR sulistCR ssCR
    · exact kit_one icCR tyCR sudictCR ssCR
    · exact kit_one icCR tyCR sutupleCR ssCR
    · exact kit_one icCR tyCR suintCR ssCR
  have kitT : ∀ t ∈ (["NoneType", "str", "list", "dict", "tuple", "int"] : List String), PySem.W.kitOne K (.type t) (.ref CT) = some false := by
    intro t ht
    simp only [List.mem_cons, List.not_mem_nil, or_false] at ht
    rcases ht with rfl | rfl | rfl | rfl | rfl | rfl
    · exact kit_one icCT tyCT suNoneTypeCT ssCT
    · exact kit_one icCT tyCT sustrCT ssCT
    · exact kit_one icCT tyCT sulistCT ssCT
    · exact kit_one icCT tyCT sudictCT ssCT
    · exact kit_one icCT tyCT sutupleCT ssCT
    · exact kit_one icCT tyCT suintCT ssCT
  have T : Tx K mg CR CT := { fr := Fr, clR := cR, clT := cT, nc := nR_own_cap, ns := nR_own_strong, np := nR_own_pull, nr := nT_own_rules, nk := nT_kept, gR := (PySem.W.mg_of X G aCR), gT := (PySem.W.mg_of X G aCT), haR := clR, haT := clT, hn := gcl, htk := tcl, hmR := moR, hmT := moT, kRR := kit_one icCR tyCR ssCR ssCR, kTT := kit_one icCT tyCT ssCT ssCT, kRT := kit_one icCT tyCT suRT ssCT, kTR := kit_one icCR tyCR suTR ssCR, kR := kitR, kT := kitT, gcap := ⟨_, (PySem.W.mg_of X G gcap)⟩, gstar := ⟨_, (PySem.W.mg_of X G gstar)⟩ }
  have A0 : Apart K CT := ⟨apNoneType, apstr, aplist, apdict⟩
  have D7 : Def K mg "is_integer" 7 ["thing"] := ⟨_, _, (fun_mk (st := (topS 7)) lg7 cg7 kg7), (PySem.W.mg_of X G ag7), ((fun_mk (st := (topS 7)) lg7 cg7 kg7).binds (ps := ["thing"]) fun _ _ _ _ _ _ us hl => match us, hl with | [_], _ => rfl)⟩
  have D8 : Def K mg "is_flag" 8 ["thing"] := ⟨_, _, (fun_mk (st := (topS 8)) lg8 cg8 kg8), (PySem.W.mg_of X G ag8), ((fun_mk (st := (topS 8)) lg8 cg8 kg8).binds (ps := ["thing"]) fun _ _ _ _ _ _ us hl => match us, hl with | [_], _ => rfl)⟩
  have D12 : Def K mg "is_bag" 12 ["rules", "thing"] := ⟨_, _, (fun_mk (st := (topS 12)) lg12 cg12 kg12), (PySem.W.mg_of X G ag12), ((fun_mk (st := (topS 12)) lg12 cg12 kg12).binds (ps := ["rules", "thing"]) fun _ _ _ _ _ _ us hl => match us, hl with | [_, _], _ => rfl)⟩
  have D13 : Def K mg "check_rules" 13 ["thing"] := ⟨_, _, (fun_mk (st := (topS 13)) lg13 cg13 kg13), (PySem.W.mg_of X G ag13), ((fun_mk (st := (topS 13)) lg13 cg13 kg13).binds (ps := ["thing"]) fun _ _ _ _ _ _ us hl => match us, hl with | [_], _ => rfl)⟩
  have D14 : Def K mg "check_bag" 14 ["rules", "thing"] := ⟨_, _, (fun_mk (st := (topS 14)) lg14 cg14 kg14), (PySem.W.mg_of X G ag14), ((fun_mk (st := (topS 14)) lg14 cg14 kg14).binds (ps := ["rules", "thing"]) fun _ _ _ _ _ _ us hl => match us, hl with | [_, _], _ => rfl)⟩
  have D17 : Def K mg "is_outcome" 17 ["rules", "thing"] := ⟨_, _, (fun_mk (st := (topS 17)) lg17 cg17 kg17), (PySem.W.mg_of X G ag17), ((fun_mk (st := (topS 17)) lg17 cg17 kg17).binds (ps := ["rules", "thing"]) fun _ _ _ _ _ _ us hl => match us, hl with | [_, _], _ => rfl)⟩
  have D18 : Def K mg "outcomes_in_order" 18 ["rules"] := ⟨_, _, (fun_mk (st := (topS 18)) lg18 cg18 kg18), (PySem.W.mg_of X G ag18), ((fun_mk (st := (topS 18)) lg18 cg18 kg18).binds (ps := ["rules"]) fun _ _ _ _ _ _ us hl => match us, hl with | [_], _ => rfl)⟩
  have D19 : Def K mg "are_outcomes" 19 ["rules", "thing"] := ⟨_, _, (fun_mk (st := (topS 19)) lg19 cg19 kg19), (PySem.W.mg_of X G ag19), ((fun_mk (st := (topS 19)) lg19 cg19 kg19).binds (ps := ["rules", "thing"]) fun _ _ _ _ _ _ us hl => match us, hl with | [_, _], _ => rfl)⟩
  have D20 : Def K mg "check_outcome" 20 ["rules", "thing"] := ⟨_, _, (fun_mk (st := (topS 20)) lg20 cg20 kg20), (PySem.W.mg_of X G ag20), ((fun_mk (st := (topS 20)) lg20 cg20 kg20).binds (ps := ["rules", "thing"]) fun _ _ _ _ _ _ us hl => match us, hl with | [_, _], _ => rfl)⟩
  have D21 : Def K mg "listed" 21 ["rules", "had"] := ⟨_, _, (fun_mk (st := (topS 21)) lg21 cg21 kg21), (PySem.W.mg_of X G ag21), ((fun_mk (st := (topS 21)) lg21 cg21 kg21).binds (ps := ["rules", "had"]) fun _ _ _ _ _ _ us hl => match us, hl with | [_, _], _ => rfl)⟩
  have D22 : Def K mg "check_rows" 22 ["rules", "rows"] := ⟨_, _, (fun_mk (st := (topS 22)) lg22 cg22 kg22), (PySem.W.mg_of X G ag22), ((fun_mk (st := (topS 22)) lg22 cg22 kg22).binds (ps := ["rules", "rows"]) fun _ _ _ _ _ _ us hl => match us, hl with | [_, _], _ => rfl)⟩
  have D24 : Def K mg "both_rows" 24 ["one", "other", "bag"] := ⟨_, _, (fun_mk (st := (topS 24)) lg24 cg24 kg24), (PySem.W.mg_of X G ag24), ((fun_mk (st := (topS 24)) lg24 cg24 kg24).binds (ps := ["one", "other", "bag"]) fun _ _ _ _ _ _ us hl => match us, hl with | [_, _, _], _ => rfl)⟩
  have D25 : Def K mg "check_like" 25 ["table", "other"] := ⟨_, _, (fun_mk (st := (topS 25)) lg25 cg25 kg25), (PySem.W.mg_of X G ag25), ((fun_mk (st := (topS 25)) lg25 cg25 kg25).binds (ps := ["table", "other"]) fun _ _ _ _ _ _ us hl => match us, hl with | [_, _], _ => rfl)⟩
  have D26 : Def K mg "behind" 26 ["one", "other", "bag"] := ⟨_, _, (fun_mk (st := (topS 26)) lg26 cg26 kg26), (PySem.W.mg_of X G ag26), ((fun_mk (st := (topS 26)) lg26 cg26 kg26).binds (ps := ["one", "other", "bag"]) fun _ _ _ _ _ _ us hl => match us, hl with | [_, _, _], _ => rfl)⟩
  have D27 : Def K mg "then" 27 ["one", "other"] := ⟨_, _, (fun_mk (st := (topS 27)) lg27 cg27 kg27), (PySem.W.mg_of X G ag27), ((fun_mk (st := (topS 27)) lg27 cg27 kg27).binds (ps := ["one", "other"]) fun _ _ _ _ _ _ us hl => match us, hl with | [_, _], _ => rfl)⟩
  have D28 : Def K mg "same" 28 ["rules"] := ⟨_, _, (fun_mk (st := (topS 28)) lg28 cg28 kg28), (PySem.W.mg_of X G ag28), ((fun_mk (st := (topS 28)) lg28 cg28 kg28).binds (ps := ["rules"]) fun _ _ _ _ _ _ us hl => match us, hl with | [_], _ => rfl)⟩
  have D29 : Def K mg "none" 29 ["rules"] := ⟨_, _, (fun_mk (st := (topS 29)) lg29 cg29 kg29), (PySem.W.mg_of X G ag29), ((fun_mk (st := (topS 29)) lg29 cg29 kg29).binds (ps := ["rules"]) fun _ _ _ _ _ _ us hl => match us, hl with | [_], _ => rfl)⟩
  have D31 : Def K mg "_law_stream" 31 ["_law_script", "_law_k"] := ⟨_, _, (fun_mk (st := (topS 31)) lg31 cg31 kg31), (PySem.W.mg_of X G ag31), ((fun_mk (st := (topS 31)) lg31 cg31 kg31).binds (ps := ["_law_script", "_law_k"]) fun _ _ _ _ _ _ us hl => match us, hl with | [_, _], _ => rfl)⟩
  have D32 : Def K mg "_law_draw" 32 ["_law_stream_here", "_law_many"] := ⟨_, _, (fun_mk (st := (topS 32)) lg32 cg32 kg32), (PySem.W.mg_of X G ag32), ((fun_mk (st := (topS 32)) lg32 cg32 kg32).binds (ps := ["_law_stream_here", "_law_many"]) fun _ _ _ _ _ _ us hl => match us, hl with | [_, _], _ => rfl)⟩
  have D33 : Def K mg "_law_bags" 33 ["_law_rules_here"] := ⟨_, _, (fun_mk (st := (topS 33)) lg33 cg33 kg33), (PySem.W.mg_of X G ag33), ((fun_mk (st := (topS 33)) lg33 cg33 kg33).binds (ps := ["_law_rules_here"]) fun _ _ _ _ _ _ us hl => match us, hl with | [_], _ => rfl)⟩
  have D34 : Def K mg "_law_in_order" 34 ["_law_rules_here", "_law_outcomes"] := ⟨_, _, (fun_mk (st := (topS 34)) lg34 cg34 kg34), (PySem.W.mg_of X G ag34), ((fun_mk (st := (topS 34)) lg34 cg34 kg34).binds (ps := ["_law_rules_here", "_law_outcomes"]) fun _ _ _ _ _ _ us hl => match us, hl with | [_, _], _ => rfl)⟩
  have D35 : Def K mg "_law_rules" 35 ["_law_rules_here"] := ⟨_, _, (fun_mk (st := (topS 35)) lg35 cg35 kg35), (PySem.W.mg_of X G ag35), ((fun_mk (st := (topS 35)) lg35 cg35 kg35).binds (ps := ["_law_rules_here"]) fun _ _ _ _ _ _ us hl => match us, hl with | [_], _ => rfl)⟩
  have D36 : Def K mg "_law_drawn_rules" 36 ["_law_stream_here"] := ⟨_, _, (fun_mk (st := (topS 36)) lg36 cg36 kg36), (PySem.W.mg_of X G ag36), ((fun_mk (st := (topS 36)) lg36 cg36 kg36).binds (ps := ["_law_stream_here"]) fun _ _ _ _ _ _ us hl => match us, hl with | [_], _ => rfl)⟩
  have D37 : Def K mg "_law_rows" 37 ["_law_stream_here", "_law_rules_here"] := ⟨_, _, (fun_mk (st := (topS 37)) lg37 cg37 kg37), (PySem.W.mg_of X G ag37), ((fun_mk (st := (topS 37)) lg37 cg37 kg37).binds (ps := ["_law_stream_here", "_law_rules_here"]) fun _ _ _ _ _ _ us hl => match us, hl with | [_, _], _ => rfl)⟩
  have D38 : Def K mg "_law_shuffled" 38 ["_law_stream_here", "_law_items"] := ⟨_, _, (fun_mk (st := (topS 38)) lg38 cg38 kg38), (PySem.W.mg_of X G ag38), ((fun_mk (st := (topS 38)) lg38 cg38 kg38).binds (ps := ["_law_stream_here", "_law_items"]) fun _ _ _ _ _ _ us hl => match us, hl with | [_, _], _ => rfl)⟩
  have D39 : Def K mg "_law_handed" 39 ["_law_stream_here", "_law_rows_here"] := ⟨_, _, (fun_mk (st := (topS 39)) lg39 cg39 kg39), (PySem.W.mg_of X G ag39), ((fun_mk (st := (topS 39)) lg39 cg39 kg39).binds (ps := ["_law_stream_here", "_law_rows_here"]) fun _ _ _ _ _ _ us hl => match us, hl with | [_, _], _ => rfl)⟩
  have D40 : Def K mg "_law_shows" 40 ["_law_told", "_law_book", "_law_rows_here"] := ⟨_, _, (fun_mk (st := (topS 40)) lg40 cg40 kg40), (PySem.W.mg_of X G ag40), ((fun_mk (st := (topS 40)) lg40 cg40 kg40).binds (ps := ["_law_told", "_law_book", "_law_rows_here"]) fun _ _ _ _ _ _ us hl => match us, hl with | [_, _, _], _ => rfl)⟩
  have D41 : Def K mg "_law_behind" 41 ["_law_rules_here", "_law_rows_here", "_law_others"] := ⟨_, _, (fun_mk (st := (topS 41)) lg41 cg41 kg41), (PySem.W.mg_of X G ag41), ((fun_mk (st := (topS 41)) lg41 cg41 kg41).binds (ps := ["_law_rules_here", "_law_rows_here", "_law_others"]) fun _ _ _ _ _ _ us hl => match us, hl with | [_, _, _], _ => rfl)⟩
  have D42 : Def K mg "_law_stars" 42 ["_law_rows_here"] := ⟨_, _, (fun_mk (st := (topS 42)) lg42 cg42 kg42), (PySem.W.mg_of X G ag42), ((fun_mk (st := (topS 42)) lg42 cg42 kg42).binds (ps := ["_law_rows_here"]) fun _ _ _ _ _ _ us hl => match us, hl with | [_], _ => rfl)⟩
  have D43 : Def K mg "_law_refused" 43 ["_law_one", "_law_other"] := ⟨_, _, (fun_mk (st := (topS 43)) lg43 cg43 kg43), (PySem.W.mg_of X G ag43), ((fun_mk (st := (topS 43)) lg43 cg43 kg43).binds (ps := ["_law_one", "_law_other"]) fun _ _ _ _ _ _ us hl => match us, hl with | [_, _], _ => rfl)⟩
  have D44 : Def K mg "_law_no_rules" 44 ["_law_thing", "_law_which"] := ⟨_, _, (fun_mk (st := (topS 44)) lg44 cg44 kg44), (PySem.W.mg_of X G ag44), ((fun_mk (st := (topS 44)) lg44 cg44 kg44).binds (ps := ["_law_thing", "_law_which"]) fun _ _ _ _ _ _ us hl => match us, hl with | [_, _], _ => rfl)⟩
  have E_mR1 : DefE K CR "Rules.__eq__" 11 1 := ⟨_, _, (fun_mk (st := (inClass (topS 11) 1)) lmR1 cmR1 kmR1), ⟨⟨neR, amR1, imR1, obR⟩, nfRR⟩, ((fun_mk (st := (inClass (topS 11) 1)) lmR1 cmR1 kmR1).binds (ps := ["self", "other"]) fun _ _ _ _ _ _ us hl => match us, hl with | [_, _], _ => rfl)⟩
  have E_mR2 : DefP K CR "cap" "Rules.cap" 11 2 := ⟨pmR2, _, _, (fun_mk (st := (inClass (topS 11) 2)) lmR2 cmR2 kmR2), ⟨amR2, gmR2, tmR2, ⟨_, rmR2⟩⟩, ((fun_mk (st := (inClass (topS 11) 2)) lmR2 cmR2 kmR2).binds (ps := ["self"]) fun _ _ _ _ _ _ us hl => match us, hl with | [_], _ => rfl)⟩
  have E_mR3 : DefP K CR "strong" "Rules.strong" 11 3 := ⟨pmR3, _, _, (fun_mk (st := (inClass (topS 11) 3)) lmR3 cmR3 kmR3), ⟨amR3, gmR3, tmR3, ⟨_, rmR3⟩⟩, ((fun_mk (st := (inClass (topS 11) 3)) lmR3 cmR3 kmR3).binds (ps := ["self"]) fun _ _ _ _ _ _ us hl => match us, hl with | [_], _ => rfl)⟩
  have E_mR4 : DefP K CR "pull" "Rules.pull" 11 4 := ⟨pmR4, _, _, (fun_mk (st := (inClass (topS 11) 4)) lmR4 cmR4 kmR4), ⟨amR4, gmR4, tmR4, ⟨_, rmR4⟩⟩, ((fun_mk (st := (inClass (topS 11) 4)) lmR4 cmR4 kmR4).binds (ps := ["self"]) fun _ _ _ _ _ _ us hl => match us, hl with | [_], _ => rfl)⟩
  have E_mR5 : DefM K CR "bags" "Rules.bags" 11 5 ["self"] := ⟨_, _, (fun_mk (st := (inClass (topS 11) 5)) lmR5 cmR5 kmR5), ⟨amR5, imR5, kmR5⟩, ((fun_mk (st := (inClass (topS 11) 5)) lmR5 cmR5 kmR5).binds (ps := ["self"]) fun _ _ _ _ _ _ us hl => match us, hl with | [_], _ => rfl)⟩
  have E_mT0 : DefTI K mg CT := ⟨_, _, (fun_mk (st := (inClass (topS 23) 0)) lmT0 cmT0 kmT0), ⟨mkT, amT0, imT0, kcT⟩, (PySem.W.mg_of X G aCT), ((fun_mk (st := (inClass (topS 23) 0)) lmT0 cmT0 kmT0).binds (ps := ["self", "rules", "rows"]) fun _ _ _ _ _ _ us hl => match us, hl with | [_, _, _], _ => rfl)⟩
  have E_mT1 : DefP K CT "rules" "Table.rules" 23 1 := ⟨pmT1, _, _, (fun_mk (st := (inClass (topS 23) 1)) lmT1 cmT1 kmT1), ⟨amT1, gmT1, tmT1, ⟨_, rmT1⟩⟩, ((fun_mk (st := (inClass (topS 23) 1)) lmT1 cmT1 kmT1).binds (ps := ["self"]) fun _ _ _ _ _ _ us hl => match us, hl with | [_], _ => rfl)⟩
  have E_mT2 : DefM K CT "outcomes" "Table.outcomes" 23 2 ["self", "bag"] := ⟨_, _, (fun_mk (st := (inClass (topS 23) 2)) lmT2 cmT2 kmT2), ⟨amT2, imT2, kmT2⟩, ((fun_mk (st := (inClass (topS 23) 2)) lmT2 cmT2 kmT2).binds (ps := ["self", "bag"]) fun _ _ _ _ _ _ us hl => match us, hl with | [_, _], _ => rfl)⟩
  have E_mT3 : DefM K CT "lets" "Table.lets" 23 3 ["self", "bag", "outcome"] := ⟨_, _, (fun_mk (st := (inClass (topS 23) 3)) lmT3 cmT3 kmT3), ⟨amT3, imT3, kmT3⟩, ((fun_mk (st := (inClass (topS 23) 3)) lmT3 cmT3 kmT3).binds (ps := ["self", "bag", "outcome"]) fun _ _ _ _ _ _ us hl => match us, hl with | [_, _, _], _ => rfl)⟩
  have E_mT4 : DefM K CT "within" "Table.within" 23 4 ["self", "other"] := ⟨_, _, (fun_mk (st := (inClass (topS 23) 4)) lmT4 cmT4 kmT4), ⟨amT4, imT4, kmT4⟩, ((fun_mk (st := (inClass (topS 23) 4)) lmT4 cmT4 kmT4).binds (ps := ["self", "other"]) fun _ _ _ _ _ _ us hl => match us, hl with | [_, _], _ => rfl)⟩
  have E_mT5 : DefO K CT "Table.__or__" 23 5 := ⟨_, _, (fun_mk (st := (inClass (topS 23) 5)) lmT5 cmT5 kmT5), ⟨amT5, imT5, sfT⟩, ((fun_mk (st := (inClass (topS 23) 5)) lmT5 cmT5 kmT5).binds (ps := ["self", "other"]) fun _ _ _ _ _ _ us hl => match us, hl with | [_, _], _ => rfl)⟩
  have E_mT6 : DefE K CT "Table.__eq__" 23 6 := ⟨_, _, (fun_mk (st := (inClass (topS 23) 6)) lmT6 cmT6 kmT6), ⟨⟨neT, amT6, imT6, obT⟩, nfTT⟩, ((fun_mk (st := (inClass (topS 23) 6)) lmT6 cmT6 kmT6).binds (ps := ["self", "other"]) fun _ _ _ _ _ _ us hl => match us, hl with | [_, _], _ => rfl)⟩
  have E_mR0 : DefI K mg CR ["self", "cap", "strong", "pull"] := rinit_mk lmR0 dmR0 cmR0 kmR0 ⟨mkR, amR0, imR0, kcR⟩ (PySem.W.mg_of X G aCR)
  have X_BR : ExD K mg "BadRules" 2 CBR CM := ⟨⟨⟨nmBR, qBR, NBR, bsBR, bmBR, snBR, subBR, abBR, colBR, ddBR, w0BR, w1BR, w2BR, w3BR, w5BR, xBR, rfBR⟩, saBR, seBR, tyBR, kcBR⟩, ⟨gaBR, ggBR, seBR, hdBR⟩, ⟨icBR, gaBR, ggBR, seBR, clBR, gcl, tcl, moBR⟩, nvBR, (PySem.W.mg_of X G aBR), exm_self seBR icBR tyBR ssBR, kit_one icM tyM smBR ssM, _, _, _, (fun_mk (st := (inClass (topS 2) 0)) leBR ceBR keBR), aiBR, tiBR, ((fun_mk (st := (inClass (topS 2) 0)) leBR ceBR keBR).binds (ps := ["self", "value"]) fun _ _ _ _ _ _ us hl => match us, hl with | [_, _], _ => rfl)⟩
  have X_BT : ExD K mg "BadTable" 5 CBT CM := ⟨⟨⟨nmBT, qBT, NBT, bsBT, bmBT, snBT, subBT, abBT, colBT, ddBT, w0BT, w1BT, w2BT, w3BT, w5BT, xBT, rfBT⟩, saBT, seBT, tyBT, kcBT⟩, ⟨gaBT, ggBT, seBT, hdBT⟩, ⟨icBT, gaBT, ggBT, seBT, clBT, gcl, tcl, moBT⟩, nvBT, (PySem.W.mg_of X G aBT), exm_self seBT icBT tyBT ssBT, kit_one icM tyM smBT ssM, _, _, _, (fun_mk (st := (inClass (topS 5) 0)) leBT ceBT keBT), aiBT, tiBT, ((fun_mk (st := (inClass (topS 5) 0)) leBT ceBT keBT).binds (ps := ["self", "value"]) fun _ _ _ _ _ _ us hl => match us, hl with | [_, _], _ => rfl)⟩
  refine ⟨PySem.W.fnOf "law" "law" (defArgs (topS 45)) (defBody (topS 45)) (defScope (topS 45)) .none kVg45 dcg45 pmg45 ang45 cdg45 ctg45, fun s u => .of_eq rfl, fun base _ _ => ?_⟩
  have iInt := ok_int (P := P) (w := w) (base := base) D7 Fr
  have iFlag := ok_flag (P := P) (w := w) (base := base) D8 Fr
  have rInit := ok_rinit (P := P) (w := w) (base := base) T E_mR0 iInt iFlag
  have pCap := ok_cap (P := P) (w := w) (base := base) T E_mR2
  have pStr := ok_strong (P := P) (w := w) (base := base) T E_mR3
  have pPul := ok_pull (P := P) (w := w) (base := base) T E_mR4
  have pRul := ok_rules (P := P) (w := w) (base := base) T E_mT1
  have rEqM := ok_req (P := P) (w := w) (base := base) T E_mR1 pCap pStr pPul
  have mBags := ok_bags (P := P) (w := w) (base := base) T E_mR5 pCap
  have isBg := ok_isBag (P := P) (w := w) (base := base) T D12 iInt pCap
  have ckBg := ok_ckBag (P := P) (w := w) (base := base) D14 isBg
  have isOcm := ok_isOc (P := P) (w := w) (base := base) T D17 isBg
  have ckOcm := ok_ckOc (P := P) (w := w) (base := base) D20 isOcm
  have oio := ok_oio (P := P) (w := w) (base := base) T D18 mBags
  have are := ok_are (P := P) (w := w) (base := base) T D19 isOcm
  have lstd := ok_listed (P := P) (w := w) (base := base) T D21 oio
  have ckRw := ok_ckRows (P := P) (w := w) (base := base) T D22 mBags isBg are lstd
  have nBR := exn2 (P := P) (w := w) (base := base) X_BR
  have nBT := exn5 (P := P) (w := w) (base := base) X_BT
  have ckRl := ok_ckRules (P := P) (w := w) (base := base) T D13 nBR
  have tInit := ok_tinit (P := P) (w := w) (base := base) T E_mT0 ckRl ckRw mBags lstd
  have mOuts := ok_outs (P := P) (w := w) (base := base) T E_mT2 ckBg pRul
  have mLets := ok_lets (P := P) (w := w) (base := base) T E_mT3 ckBg ckOcm pRul
  have like := ok_like (P := P) (w := w) (base := base) T D25 nBT rEqM pRul
  have both := ok_both (P := P) (w := w) (base := base) T D24 mOuts lstd pRul
  have mOr := ok_or (P := P) (w := w) (base := base) T E_mT5 like mBags both tInit pRul
  have tEqM := ok_teq (P := P) (w := w) (base := base) T E_mT6 rEqM pRul
  have mWithin := ok_within (P := P) (w := w) (base := base) T E_mT4 like mLets
  have bhd := ok_behind (P := P) (w := w) (base := base) T D26 mOuts
  have smf := ok_same (P := P) (w := w) (base := base) T D28 ckRl mBags tInit
  have nnf := ok_none (P := P) (w := w) (base := base) T D29 ckRl mBags tInit
  have thf := ok_then (P := P) (w := w) (base := base) T D27 nBT like mBags lstd bhd tInit pRul
  have lStream := ok_stream (P := P) (w := w) (base := base) T D31
  have lDraw := ok_draw (P := P) (w := w) (base := base) T D32
  have lBags := ok_lbags (P := P) (w := w) (base := base) T D33
  have lOrd := ok_lord (P := P) (w := w) (base := base) T D34 lBags
  have lRules := ok_lrules (P := P) (w := w) (base := base) T D35 rInit
  have lDrawn := ok_ldrawn (P := P) (w := w) (base := base) T D36 lDraw
  have lRows := ok_lrows (P := P) (w := w) (base := base) T D37 lDraw lBags
  have lShuf := ok_shuf (P := P) (w := w) (base := base) T D38 lDraw
  have lHanded := ok_handed (P := P) (w := w) (base := base) T D39 lDraw lShuf
  have lShows := ok_shows (P := P) (w := w) (base := base) T D40 rEqM pRul mOuts
  have lBehind := ok_lbehind (P := P) (w := w) (base := base) T D41 lOrd
  have lStars := ok_lstars (P := P) (w := w) (base := base) T D42
  have lRefused := ok_refused (P := P) (w := w) (base := base) T D43 nBT (PySem.W.mg_of X G aME) thf
  have lNoRules := ok_noRules (P := P) (w := w) (base := base) T D44 nBR (PySem.W.mg_of X G aME) smf nnf
  exact ok_law T A0 nfRT (fun_mk (st := (topS 45)) lg45 cg45 kg45) ⟨lStream, lDraw, lBags, lRules, lDrawn, lRows, lHanded, lShows, lBehind, lStars, lRefused, lNoRules, thf, smf, nnf, rInit, tInit, mWithin, mOr, tEqM, rEqM⟩
end Rt
set_option Elab.async false
set_option linter.all false
open PySem PySem.W PyProof.Rows in
set_option maxRecDepth 100000 in
set_option maxHeartbeats 0 in
theorem PySem.Challenge.cw_roomsthrough_k30_whole_tables_one_behind_holds : PySem.Challenge.rw_roomsthrough_k30_whole_tables_one_behind.Holds := by
  w_on; o_law; k_head; (case hw => w_witness2)
  k_fill
  refine Rt.walkG (l := PySem.Challenge.rw_roomsthrough_k30_whole_tables_one_behind) (k := 12) (n := 63) (x := "_law_script") (sp := Rt.spLaw) rfl (by decide) rfl ⟨rfl, by decide, by decide⟩ (fun w h Y => PySem.W.kIn_of Y) ?F (fun _ _ a ns hn hs => ⟨a, ns, rfl, hn, hs, fun _ => rfl⟩)
  case F =>
    intro w mg fa h KX G hmg
    refine' Rt.all_mk KX G hmg ?ag7 ?lg7 ?cg7 ?kg7 ?ag8 ?lg8 ?cg8 ?kg8 ?ag12 ?lg12 ?cg12 ?kg12 ?ag13 ?lg13 ?cg13 ?kg13 ?ag14 ?lg14 ?cg14 ?kg14 ?ag17 ?lg17 ?cg17 ?kg17 ?ag18 ?lg18 ?cg18 ?kg18 ?ag19 ?lg19 ?cg19 ?kg19 ?ag20 ?lg20 ?cg20 ?kg20 ?ag21 ?lg21 ?cg21 ?kg21 ?ag22 ?lg22 ?cg22 ?kg22 ?ag24 ?lg24 ?cg24 ?kg24 ?ag25 ?lg25 ?cg25 ?kg25 ?ag26 ?lg26 ?cg26 ?kg26 ?ag27 ?lg27 ?cg27 ?kg27 ?ag28 ?lg28 ?cg28 ?kg28 ?ag29 ?lg29 ?cg29 ?kg29 ?ag31 ?lg31 ?cg31 ?kg31 ?ag32 ?lg32 ?cg32 ?kg32 ?ag33 ?lg33 ?cg33 ?kg33 ?ag34 ?lg34 ?cg34 ?kg34 ?ag35 ?lg35 ?cg35 ?kg35 ?ag36 ?lg36 ?cg36 ?kg36 ?ag37 ?lg37 ?cg37 ?kg37 ?ag38 ?lg38 ?cg38 ?kg38 ?ag39 ?lg39 ?cg39 ?kg39 ?ag40 ?lg40 ?cg40 ?kg40 ?ag41 ?lg41 ?cg41 ?kg41 ?ag42 ?lg42 ?cg42 ?kg42 ?ag43 ?lg43 ?cg43 ?kg43 ?ag44 ?lg44 ?cg44 ?kg44 ?ag45 ?lg45 ?cg45 ?kg45 ?aCR ?pgR ?hdR ?poR ?saR ?mkR ?kcR ?clR ?moR ?neR ?obR ?nR_own_cap ?nR_own_strong ?nR_own_pull ?aCT ?pgT ?hdT ?poT ?saT ?mkT ?kcT ?clT ?moT ?neT ?obT ?nT_own_rules ?nT_kept ?gcl ?tcl ?sfT ?apNoneType ?apstr ?aplist ?apdict ?nfRR ?nfTT ?nfRT ?icCR ?tyCR ?ssCR ?icCT ?tyCT ?ssCT ?suTR ?suRT ?suNoneTypeCR ?suNoneTypeCT ?sustrCR ?sustrCT ?sulistCR ?sulistCT ?sudictCR ?sudictCT ?sutupleCR ?sutupleCT ?suintCR ?suintCT ?amR0 ?imR0 ?lmR0 ?dmR0 ?cmR0 ?kmR0 ?amR1 ?imR1 ?lmR1 ?cmR1 ?kmR1 ?amR2 ?gmR2 ?tmR2 ?rmR2 ?lmR2 ?cmR2 ?kmR2 ?amR3 ?gmR3 ?tmR3 ?rmR3 ?lmR3 ?cmR3 ?kmR3 ?amR4 ?gmR4 ?tmR4 ?rmR4 ?lmR4 ?cmR4 ?kmR4 ?amR5 ?imR5 ?lmR5 ?cmR5 ?kmR5 ?amT0 ?imT0 ?lmT0 ?cmT0 ?kmT0 ?amT1 ?gmT1 ?tmT1 ?rmT1 ?lmT1 ?cmT1 ?kmT1 ?amT2 ?imT2 ?lmT2 ?cmT2 ?kmT2 ?amT3 ?imT3 ?lmT3 ?cmT3 ?kmT3 ?amT4 ?imT4 ?lmT4 ?cmT4 ?kmT4 ?amT5 ?imT5 ?lmT5 ?cmT5 ?kmT5 ?amT6 ?imT6 ?lmT6 ?cmT6 ?kmT6 ?aME ?icM ?tyM ?ssM ?aBR ?xBR ?rfBR ?saBR ?gaBR ?ggBR ?nvBR ?seBR ?tyBR ?kcBR ?hdBR ?icBR ?clBR ?moBR ?smBR ?ssBR ?aiBR ?tiBR ?leBR ?ceBR ?keBR ?aBT ?xBT ?rfBT ?saBT ?gaBT ?ggBT ?nvBT ?seBT ?tyBT ?kcBT ?hdBT ?icBT ?clBT ?moBT ?smBT ?ssBT ?aiBT ?tiBT ?leBT ?ceBT ?keBT ?gcap ?gstar ?z_isinstance ?z_int ?z_bool ?z_range ?z_list ?z_tuple ?z_dict ?z_len ?z_all ?z_str ?z_sum ?z_abs ?z_min ?z_max ?z_repr
    (case ag7 => k_is)
    (case lg7 => k_is)
    (case cg7 => k_is)
    (case kg7 => k_is)
    (case ag8 => k_is)
    (case lg8 => k_is)
    (case cg8 => k_is)
    (case kg8 => k_is)
    (case ag12 => k_is)
    (case lg12 => k_is)
    (case cg12 => k_is)
    (case kg12 => k_is)
    (case ag13 => k_is)
    (case lg13 => k_is)
    (case cg13 => k_is)
    (case kg13 => k_is)
    (case ag14 => k_is)
    (case lg14 => k_is)
    (case cg14 => k_is)
    (case kg14 => k_is)
    (case ag17 => k_is)
    (case lg17 => k_is)
    (case cg17 => k_is)
    (case kg17 => k_is)
    (case ag18 => k_is)
    (case lg18 => k_is)
    (case cg18 => k_is)
    (case kg18 => k_is)
    (case ag19 => k_is)
    (case lg19 => k_is)
    (case cg19 => k_is)
    (case kg19 => k_is)
    (case ag20 => k_is)
    (case lg20 => k_is)
    (case cg20 => k_is)
    (case kg20 => k_is)
    (case ag21 => k_is)
    (case lg21 => k_is)
    (case cg21 => k_is)
    (case kg21 => k_is)
    (case ag22 => k_is)
    (case lg22 => k_is)
    (case cg22 => k_is)
    (case kg22 => k_is)
    (case ag24 => k_is)
    (case lg24 => k_is)
    (case cg24 => k_is)
    (case kg24 => k_is)
    (case ag25 => k_is)
    (case lg25 => k_is)
    (case cg25 => k_is)
    (case kg25 => k_is)
    (case ag26 => k_is)
    (case lg26 => k_is)
    (case cg26 => k_is)
    (case kg26 => k_is)
    (case ag27 => k_is)
    (case lg27 => k_is)
    (case cg27 => k_is)
    (case kg27 => k_is)
    (case ag28 => k_is)
    (case lg28 => k_is)
    (case cg28 => k_is)
    (case kg28 => k_is)
    (case ag29 => k_is)
    (case lg29 => k_is)
    (case cg29 => k_is)
    (case kg29 => k_is)
    (case ag31 => k_is)
    (case lg31 => k_is)
    (case cg31 => k_is)
    (case kg31 => k_is)
    (case ag32 => k_is)
    (case lg32 => k_is)
    (case cg32 => k_is)
    (case kg32 => k_is)
    (case ag33 => k_is)
    (case lg33 => k_is)
    (case cg33 => k_is)
    (case kg33 => k_is)
    (case ag34 => k_is)
    (case lg34 => k_is)
    (case cg34 => k_is)
    (case kg34 => k_is)
    (case ag35 => k_is)
    (case lg35 => k_is)
    (case cg35 => k_is)
    (case kg35 => k_is)
    (case ag36 => k_is)
    (case lg36 => k_is)
    (case cg36 => k_is)
    (case kg36 => k_is)
    (case ag37 => k_is)
    (case lg37 => k_is)
    (case cg37 => k_is)
    (case kg37 => k_is)
    (case ag38 => k_is)
    (case lg38 => k_is)
    (case cg38 => k_is)
    (case kg38 => k_is)
    (case ag39 => k_is)
    (case lg39 => k_is)
    (case cg39 => k_is)
    (case kg39 => k_is)
    (case ag40 => k_is)
    (case lg40 => k_is)
    (case cg40 => k_is)
    (case kg40 => k_is)
    (case ag41 => k_is)
    (case lg41 => k_is)
    (case cg41 => k_is)
    (case kg41 => k_is)
    (case ag42 => k_is)
    (case lg42 => k_is)
    (case cg42 => k_is)
    (case kg42 => k_is)
    (case ag43 => k_is)
    (case lg43 => k_is)
    (case cg43 => k_is)
    (case kg43 => k_is)
    (case ag44 => k_is)
    (case lg44 => k_is)
    (case cg44 => k_is)
    (case kg44 => k_is)
    (case ag45 => k_is)
    (case lg45 => k_is)
    (case cg45 => k_is)
    (case kg45 => k_is)
    (case aCR => k_is)
    (case pgR => k_is)
    (case hdR => k_is)
    (case poR => k_is)
    (case saR => k_is)
    (case mkR => k_is)
    (case kcR => k_is)
    (case clR => k_is)
    (case moR => k_is)
    (case neR => k_is)
    (case obR => k_is)
    (case nR_own_cap => k_is)
    (case nR_own_strong => k_is)
    (case nR_own_pull => k_is)
    (case aCT => k_is)
    (case pgT => k_is)
    (case hdT => k_is)
    (case poT => k_is)
    (case saT => k_is)
    (case mkT => k_is)
    (case kcT => k_is)
    (case clT => k_is)
    (case moT => k_is)
    (case neT => k_is)
    (case obT => k_is)
    (case nT_own_rules => k_is)
    (case nT_kept => k_is)
    (case gcl => k_is)
    (case tcl => k_is)
    (case sfT => k_is)
    (case apNoneType => k_is)
    (case apstr => k_is)
    (case aplist => k_is)
    (case apdict => k_is)
    (case nfRR => k_is)
    (case nfTT => k_is)
    (case nfRT => k_is)
    (case icCR => k_is)
    (case tyCR => k_is)
    (case ssCR => k_is)
    (case icCT => k_is)
    (case tyCT => k_is)
    (case ssCT => k_is)
    (case suTR => k_is)
    (case suRT => k_is)
    (case suNoneTypeCR => k_is)
    (case suNoneTypeCT => k_is)
    (case sustrCR => k_is)
    (case sustrCT => k_is)
    (case sulistCR => k_is)
    (case sulistCT => k_is)
    (case sudictCR => k_is)
    (case sudictCT => k_is)
    (case sutupleCR => k_is)
    (case sutupleCT => k_is)
    (case suintCR => k_is)
    (case suintCT => k_is)
    (case amR0 => k_is)
    (case imR0 => k_is)
    (case lmR0 => k_is)
    (case dmR0 => k_is)
    (case cmR0 => k_is)
    (case kmR0 => k_is)
    (case amR1 => k_is)
    (case imR1 => k_is)
    (case lmR1 => k_is)
    (case cmR1 => k_is)
    (case kmR1 => k_is)
    (case amR2 => k_is)
    (case gmR2 => k_is)
    (case tmR2 => k_is)
    (case rmR2 => k_is)
    (case lmR2 => k_is)
    (case cmR2 => k_is)
    (case kmR2 => k_is)
    (case amR3 => k_is)
    (case gmR3 => k_is)
    (case tmR3 => k_is)
    (case rmR3 => k_is)
    (case lmR3 => k_is)
    (case cmR3 => k_is)
    (case kmR3 => k_is)
    (case amR4 => k_is)
    (case gmR4 => k_is)
    (case tmR4 => k_is)
    (case rmR4 => k_is)
    (case lmR4 => k_is)
    (case cmR4 => k_is)
    (case kmR4 => k_is)
    (case amR5 => k_is)
    (case imR5 => k_is)
    (case lmR5 => k_is)
    (case cmR5 => k_is)
    (case kmR5 => k_is)
    (case amT0 => k_is)
    (case imT0 => k_is)
    (case lmT0 => k_is)
    (case cmT0 => k_is)
    (case kmT0 => k_is)
    (case amT1 => k_is)
    (case gmT1 => k_is)
    (case tmT1 => k_is)
    (case rmT1 => k_is)
    (case lmT1 => k_is)
    (case cmT1 => k_is)
    (case kmT1 => k_is)
    (case amT2 => k_is)
    (case imT2 => k_is)
    (case lmT2 => k_is)
    (case cmT2 => k_is)
    (case kmT2 => k_is)
    (case amT3 => k_is)
    (case imT3 => k_is)
    (case lmT3 => k_is)
    (case cmT3 => k_is)
    (case kmT3 => k_is)
    (case amT4 => k_is)
    (case imT4 => k_is)
    (case lmT4 => k_is)
    (case cmT4 => k_is)
    (case kmT4 => k_is)
    (case amT5 => k_is)
    (case imT5 => k_is)
    (case lmT5 => k_is)
    (case cmT5 => k_is)
    (case kmT5 => k_is)
    (case amT6 => k_is)
    (case imT6 => k_is)
    (case lmT6 => k_is)
    (case cmT6 => k_is)
    (case kmT6 => k_is)
    (case aME => k_is)
    (case icM => k_is)
    (case tyM => k_is)
    (case ssM => k_is)
    (case aBR => k_is)
    (case xBR => k_is)
    (case rfBR => decide +kernel)
    (case saBR => k_is)
    (case gaBR => k_is)
    (case ggBR => k_is)
    (case nvBR => k_is)
    (case seBR => k_is)
    (case tyBR => k_is)
    (case kcBR => k_is)
    (case hdBR => k_is)
    (case icBR => k_is)
    (case clBR => k_is)
    (case moBR => k_is)
    (case smBR => k_is)
    (case ssBR => k_is)
    (case aiBR => k_is)
    (case tiBR => k_is)
    (case leBR => k_is)
    (case ceBR => k_is)
    (case keBR => k_is)
    (case aBT => k_is)
    (case xBT => k_is)
    (case rfBT => decide +kernel)
    (case saBT => k_is)
    (case gaBT => k_is)
    (case ggBT => k_is)
    (case nvBT => k_is)
    (case seBT => k_is)
    (case tyBT => k_is)
    (case kcBT => k_is)
    (case hdBT => k_is)
    (case icBT => k_is)
    (case clBT => k_is)
    (case moBT => k_is)
    (case smBT => k_is)
    (case ssBT => k_is)
    (case aiBT => k_is)
    (case tiBT => k_is)
    (case leBT => k_is)
    (case ceBT => k_is)
    (case keBT => k_is)
    (case gcap => k_is)
    (case gstar => k_is)
    (case z_isinstance => k_is)
    (case z_int => k_is)
    (case z_bool => k_is)
    (case z_range => k_is)
    (case z_list => k_is)
    (case z_tuple => k_is)
    (case z_dict => k_is)
    (case z_len => k_is)
    (case z_all => k_is)
    (case z_str => k_is)
    (case z_sum => k_is)
    (case z_abs => k_is)
    (case z_min => k_is)
    (case z_max => k_is)
    (case z_repr => k_is)
