import PyProof.Rows.All
import Wide.All
import OpenK.AllK
import Wide.FinOn
import HandS.ForMost
import HandS.TupAny
import HandS.TupMul
import PyProof.StrOps2
import HandS.Exc
import HandS.TryOnly
import HandS.ExcOwn
import HandS.WordsExc
import KE.KDictKeyed
import KE.DataEq
import KE.DataFind
import KE.DataMinMax
import KE.SortData
import KE.KeyNested
import HandS.Deep
import HandS.IsInst
import HandS.NoneIn
import KE.GoesEnum
import KE.GoesMore
import HandS.Walk
import HandS.Zip
import HandS.SetFor
import HandS.Strs
import PyProof.WalksMore
import HandS.Flow
import HandS.ExcIs
import HandS.SortInts
import KE.KDictCopyH
import HandS.Iter
import HandS.TupLen
import HandS.Conv
import HandS.Replace
import HandS.TupSets
import HandS.DictEq
import HandS.ExcInit
import HandS.ExcField
import KE.KExcIs
import HandS.SuiteRaise
import KE.GoesRaise
import KE.SortKeyHeap
import HandS.Nested
import HandS.Lambda
import HandS.Style
import HandS.EndTab
import PySem.Challenge.RW_guesscode_k15_least_names
section
set_option Elab.async false
set_option linter.all false
set_option maxRecDepth 100000
set_option maxHeartbeats 4000000
/-! GT: tuples that are made are known objects without a dict of their own (so that their methods may be called). -/
namespace L2
open PySem PySem.Spec PyProof.Rows
/-- a known tuple: its object has no dict -/
def Fz (H : Hp) (a : Addr) (xs : List V) : Prop := ∃ o : Obj, H a = some (.frz o (.tup xs)) ∧ o.dict = none
theorem Fz.sq {K : PySem.W.Frag} {H : Hp} {a : Addr} {xs : List V} (h : Fz H a xs) : SqT K H a xs := let ⟨o, e, _⟩ := h; .inl (.inr ⟨o, e⟩)
theorem Fz.rd {H : Hp} {a : Addr} {xs : List V} (h : Fz H a xs) : Rd H a (.tup xs) := let ⟨o, e, _⟩ := h; .inr ⟨o, e⟩
theorem Fz.same {H H' : Hp} {a : Addr} {xs : List V} (s : Same H H') (h : Fz H a xs) : Fz H' a xs := let ⟨o, e, d⟩ := h; ⟨o, s _ _ e, d⟩
section
variable {X : Cx} {es : List Expr} {t : TA} {pos : Pos} {pins : List (Addr × Obj)} {σ : L2.St} {H : Hp} {s : Shared}
/-- a new tuple, known -/
abbrev NewT (H : Hp) (xs : List V) (Q : VK) : Prop := ∀ (p : Addr) (o : Obj), o.dict = none → H p = none → Q (.ref p) (upd H p (.frz o (.tup xs)))
theorem Inv.newT {xs : List V} {its : List Value} {t' : Nat} {Q : VK} (I : Inv X pins σ H s) (hv : Vals xs its) (hz : xs.length ≤ sizeLine) (q : NewT H xs Q) :
    EP X pins σ Q (.ref s.heap.objs.size) { s with heap := s.heap.push { cls := .type "tuple", data := .seq its.toArray }, toks := t' } := by
  refine ⟨.ref s.heap.objs.size, upd H s.heap.objs.size (.frz { cls := .type "tuple", data := .seq its.toArray } (.tup xs)), I.laid (t' := t') (fun b u e => Heap.get?_push_of_some _ e) (Nat.le_refl _) ?_, rfl, q _ _ rfl (I.hok.fresh (Nat.le_refl _))⟩
  exact ⟨Heap.get?_push_size _ rfl, hz, its, hv, ⟨_, Heap.get?_push_size _ rfl, rfl, _, rfl⟩⟩
def tTupF (t : TA) : TE := fun σ H Q => t σ H fun xs H1 => xs.length ≤ sizeLine ∧ NewT H1 xs Q
theorem pe_tupF {x1} (h : PA X es t) : PE X (.Tuple es x1 pos) (tTupF t) := by
  refine ⟨fun pins s σ H Q I hq => ?_⟩
  exact wpAny_Tuple_spliced (thn (h.run pos pins s σ H _ I hq) fun us s1 ⟨xs, H1, I1, r, z, q⟩ => ⟨by rw [← r.length]; exact z, I1.newT (t' := s1.toks) r z q⟩)
theorem call_tuple_ofF : CallR X (.type "tuple") (fun xs H Q => ∃ p ys, xs = [.ref p] ∧ ((SqL X.K H p ys ∧ NewT H ys Q) ∨ (SqT X.K H p ys ∧ Q (.ref p) H))) := by
  intro pins s σ H xs us Q I r h
  obtain ⟨p, ys, rfl, h⟩ := h
  obtain ⟨u, rfl, rx⟩ := vals1 r
  cases rx
  rcases h with ⟨hq, q⟩ | ⟨hq, q⟩
  · obtain ⟨its, r', pl, hz⟩ := I.list hq
    have hlen := r'.length
    refine call_tuple_list pl.isList (fun h' kp => ?_) (by simp only [List.size_toArray] <;> omega)
    have I1 : Inv X pins σ H { s with heap := h' } := I.kept (t' := s.toks) kp
    exact I1.newT (t' := s.toks) r' hz q
  · obtain ⟨its, r', pl, hz⟩ := I.tuple hq
    exact call_tuple_same pl ⟨.ref p, H, I, rfl, q⟩
def rCatF (K : PySem.W.Frag) : R2 := fun x y H Q => ∃ a b xs ys, x = .ref a ∧ y = .ref b ∧ SqT K H a xs ∧ SqT K H b ys ∧ xs.length + ys.length ≤ sizeLine ∧
  (xs = [] → Q (.ref b) H) ∧ (xs ≠ [] → ys = [] → Q (.ref a) H) ∧ (xs ≠ [] → ys ≠ [] → NewT H (xs ++ ys) Q)
theorem op_catF : OpR X (binaryOp .Add) (rCatF X.K) := by
  intro pins s σ H x y v u Q I rx ry h
  obtain ⟨a, b, xs, ys, rfl, rfl, ha, hb, hz, q0, q1, q2⟩ := h
  by_cases hy : xs ≠ [] ∧ ys ≠ []
  · cases rx
    cases ry
    obtain ⟨its, r1, p1, _⟩ := I.tuple ha
    obtain ⟨its2, r2, p2, _⟩ := I.tuple hb
    refine HT.cat_tup p1 p2 (fun z => hy.1 (r1.nil_iff.mp z)) (fun z => absurd (r2.nil_iff.mp z) hy.2) (fun z => ?_) (by rw [← r1.length, ← r2.length]; exact hz)
    exact I.newT (t' := s.toks) (r1.append r2) (by rw [List.length_append]; exact hz) (q2 hy.1 hy.2)
  · exact op_catA pins s σ H _ _ v u Q I rx ry ⟨a, b, xs, ys, rfl, rfl, ha, hb, hz, q0, q1, fun h1 h2 => absurd ⟨h1, h2⟩ hy⟩
def rSlF (K : PySem.W.Frag) : V → Option Int → Option Int → Hp → VK → Prop := fun x lo hi H Q => ∃ a xs, x = .ref a ∧ SqT K H a xs ∧
  (HT.sIx xs.length 0 lo = 0 ∧ HT.sIx xs.length xs.length hi = xs.length → Q (.ref a) H) ∧ (¬ (HT.sIx xs.length 0 lo = 0 ∧ HT.sIx xs.length xs.length hi = xs.length) → NewT H (cutV xs lo hi) Q)
theorem sl_tupF : SlR X (rSlF X.K) := by
  intro pins s σ H x v vl vu lo hi sl Q I rx hs pl pu h
  obtain ⟨a, xs, rfl, hx, q1, q2⟩ := h
  by_cases hw : HT.sIx xs.length 0 lo = 0 ∧ HT.sIx xs.length xs.length hi = xs.length
  · exact sl_tupA pins s σ H _ v vl vu lo hi sl Q I rx hs pl pu ⟨a, xs, rfl, hx, q1, fun h => absurd hw h⟩
  · cases rx
    obtain ⟨its, r, ht, hz⟩ := I.tuple hx
    have hlen : its.toArray.size = xs.length := by rw [List.size_toArray]; exact r.length.symm
    refine ⟨"tuple", _, PyProof.Rows.slot_tuple_getitem.lookup, ht.typeIs, ?_⟩
    refine HT.getItem_tuple_cut ht hs pl pu (by rw [hlen]; exact hw) ?_ (by rw [hlen]; exact hz)
    rw [hlen]
    exact I.newT (t' := s.toks) ((r.drop (HT.sIx xs.length 0 lo)).take (HT.sIx xs.length xs.length hi - HT.sIx xs.length 0 lo)) (Nat.le_trans (cutV_length xs lo hi) hz) (q2 hw)
/-- a tuple, some times -/
def rTimesF (K : PySem.W.Frag) : R2 := fun x y H Q => ∃ l m ws, x = .ref l ∧ y = .int m ∧ SqT K H l ws ∧ ws ≠ [] ∧ 2 ≤ m ∧ m ≤ 1000 ∧ ws.length ≤ 1000 ∧ NewT H (List.replicate m.toNat ws).flatten Q
theorem op_timesF : OpR X (binaryOp .Mult) (rTimesF X.K) := by
  intro pins s σ H x y v u Q I rx ry h
  obtain ⟨l, m, ws, rfl, rfl, sq, ne, m2, mk, wk, fin⟩ := h
  cases rx
  obtain ⟨tok, rfl⟩ := ry
  obtain ⟨its, rv, ⟨ob, ho, oc, cap, od⟩, _⟩ := I.tuple sq
  obtain ⟨c0, dct, dat, slo⟩ := ob
  replace oc : c0 = .type "tuple" := oc
  replace od : dat = .seq its.toArray cap := od
  subst oc od
  have len : its.length = ws.length := rv.length.symm
  have full : its.toArray.isEmpty = false := by
    cases its with
    | cons _ _ => rfl
    | nil => exact absurd (List.eq_nil_of_length_eq_zero (show ws.length = 0 from len.symm)) ne
  have sz : its.toArray.size = ws.length := by rw [List.size_toArray, len]
  have prod : ((its.toArray.size : Nat) : Int) * m ≤ 1000000 := by
    rw [sz]
    have := Int.mul_le_mul_of_nonneg_right (show ((ws.length : Nat) : Int) ≤ 1000 by omega) (show 0 ≤ m by omega)
    omega
  have room : ∀ {β : Type} (l : List β), l.length = ws.length → (List.replicate m.toNat l).flatten.length ≤ sizeLine := fun l hl => by
    have := Nat.mul_le_mul (show m.toNat ≤ 1000 by omega) wk
    rw [PyProof.Rows.lm_len_rep_flat, hl, sizeLine_eq]
    omega
  refine wpAny_binaryOp_repeat_ref (T := "tuple") (U := "int") (by decide) ⟨_, ho, rfl⟩ (fun z => typeIs_int z m tok) noFill_tuple_mul F.fills_int_mul F.slot_int_rmul repeat_tuple F.slot_int_index.lookup
    (call_meets F.slot_int_rmul (typeIs_int s m tok) F.entry_int_rmul (F.args_int_rmul_2 _ _) (int_rmul_tuple m tok l its.toArray cap dct slo)
      ⟨ho, rfl, ⟨_, ho, rfl⟩, call_meets F.slot_tuple_mul ⟨_, ho, rfl⟩ F.entry_tuple_mul (F.args_tuple_mul_2 _ _)
        (tuple_mulW l its.toArray cap dct slo m tok (by rw [decide_eq_false (by omega), decide_eq_false (by omega)] <;> rfl) (by rw [full, Bool.false_or]; exact beq_eq_false_iff_ne.mpr (by omega))
          (by rw [full, Bool.or_false]; exact decide_eq_false (by omega)) (by omega) (by unfold Builtin.Tuple.tupleTooMany; rw [sizeLine_eq]; exact decide_eq_false (by omega)) (by rw [size_rep, List.size_toArray]; exact room _ len)) ⟨ho, ?_⟩⟩)
  rw [size_rep]
  exact I.newT (t' := s.toks) (rv.rep m.toNat) (room _ rfl) fin
/-- a text, some times -/
def repS (t : Str) (n : Nat) : Str := ⟨(List.replicate n t.cps).foldl (· ++ ·) #[]⟩
theorem rep_len (l : Array Nat) : ∀ (n : Nat) (a : Array Nat), ((List.replicate n l).foldl (· ++ ·) a).size = a.size + n * l.size
  | 0, a => by simp
  | n + 1, a => by
    rw [List.replicate_succ, List.foldl_cons, rep_len l n, Array.size_append, Nat.succ_mul]
    omega
def rTimesS : R2 := fun x y H Q => ∃ t m, x = .str t ∧ y = .int m ∧ 1 ≤ m ∧ m ≤ 1000 ∧ 0 < t.length ∧ t.length ≤ 1000 ∧ Q (.str (repS t m.toNat)) H
theorem op_timesS : OpR X (binaryOp .Mult) rTimesS := by
  intro pins s σ H x y v u Q I rx ry h
  obtain ⟨t, m, rfl, rfl, m1, m2, l1, l2, q⟩ := h
  obtain ⟨tk, rfl⟩ := rx
  obtain ⟨tk2, rfl⟩ := ry
  have lz : t.length * m.toNat ≤ 1000 * 1000 := Nat.mul_le_mul l2 (by omega)
  have ln : (repS t m.toNat).length ≤ 1000000 := by
    show ((List.replicate m.toNat t.cps).foldl (· ++ ·) #[]).size ≤ _
    rw [rep_len, Nat.mul_comm]
    have : t.cps.size * m.toNat ≤ 1000 * 1000 := lz
    show 0 + _ ≤ _
    omega
  refine P.mul_str (by rw [decide_eq_false (by omega), decide_eq_false (by omega)] <;> rfl) (fun _ _ => ?_) (fun _ _ => ?_) ?_
  · have : (1000 : Int) ≤ (2 ^ 63 - 1) / m := (Int.le_ediv_iff_mul_le (by omega)).mpr (by omega)
    omega
  · unfold Builtin.Str.tooLong
    rw [sizeLine_eq]
    exact decide_eq_false (by omega)
  · rw [if_neg (by omega)]
    by_cases e : (m == 1 || t.length == 0) = true
    · rw [if_pos e]
      rw [Bool.or_eq_true, beq_iff_eq, beq_iff_eq] at e
      rcases e with e | e
      · subst e
        have er : repS t (1 : Int).toNat = t := by
          obtain ⟨c⟩ := t
          show (⟨(List.replicate 1 c).foldl (· ++ ·) #[]⟩ : Str) = _
          simp [List.replicate]
        rw [er] at q
        exact ⟨.str t, H, I, ⟨_, rfl⟩, q⟩
      · omega
    · rw [if_neg e]
      exact ⟨(by rw [sizeLine_eq]; exact Nat.le_trans ln (by decide)), .str (repS t m.toNat), H, I.tok _, ⟨_, rfl⟩, q⟩
/-- the object of a known tuple -/
theorem Fz.obj {a : Addr} {xs : List V} (I : Inv X pins σ H s) (h : Fz H a xs) : ∃ (o : Obj) (its : List Value), s.heap.get? a = some o ∧ o.dict = none ∧ o.cls = .type "tuple" ∧ Vals xs its ∧ IsTup s.heap a its.toArray := by
  obtain ⟨o, e, d⟩ := h
  obtain ⟨ho, z, its, rv, p⟩ := (show ObjOk X.prog X.w H s.heap a (.frz o (.tup xs)) from I.hok a _ e)
  obtain ⟨o', ho', hc, n, hd⟩ := id p
  rw [ho] at ho'
  cases ho'
  exact ⟨o, its, ho, d, hc, rv, p⟩
end
end L2
end

section
set_option Elab.async false
set_option linter.all false
set_option maxRecDepth 100000
set_option maxHeartbeats 4000000
/-! G1: data in the abstract heap, states of slots, readings that are Lean functions. -/
namespace G
open PySem PySem.Spec PyProof.Rows L2

abbrev D := PyData
/-- an exception that is raised: which class (a number of one's own), its at -/
structure Exc where
  cls : Nat
  at_ : Option Int := none
/-- what an evaluation gives: nothing promised, a value, an exception -/
inductive R (α : Type) where
  | no | ok (a : α) | ex (e : Exc)
namespace R
def bind {α β : Type} : R α → (α → R β) → R β
  | .no, _ => .no
  | .ok a, f => f a
  | .ex e, _ => .ex e
def map {α β : Type} (f : α → β) : R α → R β
  | .no => .no
  | .ok a => .ok (f a)
  | .ex e => .ex e
def ofO {α : Type} : Option α → R α
  | some a => .ok a
  | none => .no
@[simp] theorem bind_ok {α β : Type} (a : α) (f : α → R β) : (R.ok a).bind f = f a := rfl
@[simp] theorem bind_no {α β : Type} (f : α → R β) : (R.no).bind f = .no := rfl
@[simp] theorem bind_ex {α β : Type} (e : Exc) (f : α → R β) : (R.ex e).bind f = .ex e := rfl
@[simp] theorem map_ok {α β : Type} (a : α) (f : α → β) : (R.ok a).map f = .ok (f a) := rfl
@[simp] theorem map_no {α β : Type} (f : α → β) : (R.no).map f = .no := rfl
@[simp] theorem map_ex {α β : Type} (e : Exc) (f : α → β) : (R.ex e).map f = .ex e := rfl
@[simp] theorem ofO_some {α : Type} (a : α) : R.ofO (some a) = .ok a := rfl
@[simp] theorem ofO_none {α : Type} : R.ofO (none : Option α) = .no := rfl
end R

/-! ### dicts: the object is known -/
def dkO (a : Addr) (o : Obj) : HO := .ext fun h => h.get? a = some o
abbrev KsT := List (NestedKey × Addr × V)
def KsRel : KsT → List (NestedKey × Addr × Value) → Prop := Paired fun p q => p.1 = q.1 ∧ p.2.1 = q.2.1 ∧ RelV p.2.2 q.2.2
/-- the object o is a dict with the entries ks -/
def DkIs (w : World) (o : Obj) (ks : KsT) : Prop :=
  o.ExactDict ∧ ks.length ≤ sizeLine ∧ ∃ es ep, o.data = .dict es ep ∧ ∃ xs, KsRel ks xs ∧ es.toList = xs.map (fun x => (⟨NestedKey.hash w x.1, .ref x.2.1, x.2.2⟩ : DictEntry)) ∧ (xs.map (·.1)).Nodup
/-- a datum as a key of a dict -/
def keyOf : D → Option NestedKey
  | .int i => some (.num i)
  | .str x => some (.text x)
  | .tuple ds => (keysOf ds).map .tup
  | _ => none
where keysOf : List D → Option (List NestedKey)
  | [] => some []
  | d :: ds => (keyOf d).bind fun k => (keysOf ds).map (k :: ·)

/-- .. not too deep -/
def kOf (d : D) : Option NestedKey := match keyOf d with
  | some k => if k.depth ≤ 8 then some k else none
  | none => none
theorem kOf_some {d : D} {k : NestedKey} (h : kOf d = some k) : keyOf d = some k ∧ k.depth ≤ 8 := by
  unfold kOf at h
  split at h
  · split at h
    · rename_i e z
      cases h
      exact ⟨e, z⟩
    · cases h
  · cases h

/-! ### a value is a datum in a heap -/
section
variable (K : PySem.W.Frag) (w : World) (H : Hp)
mutual
inductive Rp : V → D → Prop
  | non : Rp .non .none
  | bl (b : Bool) : Rp (.bl b) (.bool b)
  | int (i : Int) : Rp (.int i) (.int i)
  | str (x : Str) : Rp (.str x) (.str x)
  | lst {a : Addr} {xs : List V} {ds : List D} : H a = some (.lst xs) → RpAll xs ds → Rp (.ref a) (.list ds)
  | tup {a : Addr} {xs : List V} {ds : List D} : Fz H a xs → RpAll xs ds → Rp (.ref a) (.tuple ds)
  | loose {a : Addr} {xs : List V} {ds : List D} : H a = some (.tup xs) → RpAll xs ds → Rp (.ref a) (.dict [(.bool true, .tuple ds)])
  | scr {a : Addr} {ns : List Int} : SqL K H a (ns.map V.int) → Rp (.ref a) (.dict [(.none, .list (ns.map .int))])
  | dct {a : Addr} {o : Obj} {ks : KsT} {kvs : List (D × D)} : H a = some (dkO a o) → (a == sysModules) = false → DkIs w o ks → RpKvs ks kvs → Rp (.ref a) (.dict kvs)
inductive RpAll : List V → List D → Prop
  | nil : RpAll [] []
  | cons {v : V} {vs : List V} {d : D} {ds : List D} : Rp v d → RpAll vs ds → RpAll (v :: vs) (d :: ds)
inductive RpKvs : KsT → List (D × D) → Prop
  | nil : RpKvs [] []
  | cons {k : NestedKey} {q : Addr} {v : V} {ks : KsT} {dk dv : D} {kvs : List (D × D)} : kOf dk = some k → Rp (.ref q) dk → Rp v dv → RpKvs ks kvs → RpKvs ((k, q, v) :: ks) ((dk, dv) :: kvs)
end
end

section
variable {K : PySem.W.Frag} {w : World} {H H' : Hp}
theorem same_rd {a : Addr} {u : HO} (e : Same H H') (h : Rd H a u) : Rd H' a u := by
  rcases h with h | ⟨o, h⟩
  · exact .inl (e _ _ h)
  · exact .inr ⟨o, e _ _ h⟩
mutual
theorem Rp.mono (e : Same H H') : ∀ {v : V} {d : D}, Rp K w H v d → Rp K w H' v d
  | _, _, .non => .non
  | _, _, .bl b => .bl b
  | _, _, .int i => .int i
  | _, _, .str x => .str x
  | _, _, .lst h a => .lst (e _ _ h) (RpAll.mono e a)
  | _, _, .tup h a => .tup (h.same e) (RpAll.mono e a)
  | _, _, .loose h a => .loose (e _ _ h) (RpAll.mono e a)
  | _, _, .scr h => .scr (e.seq h)
  | _, _, .dct h n i r => .dct (e _ _ h) n i (RpKvs.mono e r)
theorem RpAll.mono (e : Same H H') : ∀ {vs : List V} {ds : List D}, RpAll K w H vs ds → RpAll K w H' vs ds
  | _, _, .nil => .nil
  | _, _, .cons h t => .cons (Rp.mono e h) (RpAll.mono e t)
theorem RpKvs.mono (e : Same H H') : ∀ {ks : KsT} {kvs : List (D × D)}, RpKvs K w H ks kvs → RpKvs K w H' ks kvs
  | _, _, .nil => .nil
  | _, _, .cons k h v t => .cons k (Rp.mono e h) (Rp.mono e v) (RpKvs.mono e t)
end
theorem RpAll.length : ∀ {vs : List V} {ds : List D}, RpAll K w H vs ds → vs.length = ds.length
  | _, _, .nil => rfl
  | _, _, .cons _ t => congrArg (· + 1) t.length
theorem RpAll.append : ∀ {vs : List V} {ds : List D} {us : List V} {es : List D}, RpAll K w H vs ds → RpAll K w H us es → RpAll K w H (vs ++ us) (ds ++ es)
  | _, _, _, _, .nil, s => s
  | _, _, _, _, .cons h t, s => .cons h (t.append s)
theorem RpAll.get : ∀ {vs : List V} {ds : List D} {i : Nat} {d : D}, RpAll K w H vs ds → ds[i]? = some d → ∃ v, vs[i]? = some v ∧ Rp K w H v d
  | _, _, _, _, .nil, e => by simp at e
  | _, _, 0, _, .cons h _, e => by simp at e; subst e; exact ⟨_, rfl, h⟩
  | _, _, i + 1, d, .cons _ t, e => by
    obtain ⟨v, h1, h2⟩ := RpAll.get (i := i) (d := d) t (by simpa using e)
    exact ⟨v, by simpa using h1, h2⟩
theorem RpAll.get' : ∀ {vs : List V} {ds : List D} {i : Nat} {v : V}, RpAll K w H vs ds → vs[i]? = some v → ∃ d, ds[i]? = some d ∧ Rp K w H v d
  | _, _, _, _, .nil, e => by simp at e
  | _, _, 0, _, .cons h _, e => by simp at e; subst e; exact ⟨_, rfl, h⟩
  | _, _, i + 1, v, .cons _ t, e => by
    obtain ⟨d, h1, h2⟩ := RpAll.get' (i := i) (v := v) t (by simpa using e)
    exact ⟨d, by simpa using h1, h2⟩
theorem RpAll.take (n : Nat) : ∀ {vs : List V} {ds : List D}, RpAll K w H vs ds → RpAll K w H (vs.take n) (ds.take n) := by
  induction n with
  | zero => intro vs ds _; exact .nil
  | succ n ih =>
    intro vs ds h
    cases h with
    | nil => exact .nil
    | cons a t => exact .cons a (ih t)
theorem RpAll.drop (n : Nat) : ∀ {vs : List V} {ds : List D}, RpAll K w H vs ds → RpAll K w H (vs.drop n) (ds.drop n) := by
  induction n with
  | zero => intro vs ds h; exact h
  | succ n ih =>
    intro vs ds h
    cases h with
    | nil => exact .nil
    | cons a t => exact ih t
theorem RpAll.set {v : V} {d : D} (r : Rp K w H v d) : ∀ {vs : List V} {ds : List D} (i : Nat), RpAll K w H vs ds → RpAll K w H (vs.set i v) (ds.set i d)
  | _, _, _, .nil => .nil
  | _, _, 0, .cons _ t => .cons r t
  | _, _, i + 1, .cons a t => .cons a (RpAll.set r i t)
theorem RpAll.erase : ∀ {vs : List V} {ds : List D} (i : Nat), RpAll K w H vs ds → RpAll K w H (vs.eraseIdx i) (ds.eraseIdx i)
  | _, _, _, .nil => .nil
  | _, _, 0, .cons _ t => t
  | _, _, i + 1, .cons a t => .cons a (RpAll.erase i t)
theorem RpAll.ints : ∀ {vs : List V} {ns : List Int}, RpAll K w H vs (ns.map .int) → vs = ns.map V.int
  | _, [], h => by cases h; rfl
  | _, n :: ns, h => by
    cases h with
    | cons a t => cases a; rw [RpAll.ints t]; rfl
theorem RpAll.of_ints : ∀ (ns : List Int), RpAll K w H (ns.map V.int) (ns.map .int)
  | [] => .nil
  | n :: ns => .cons (.int n) (RpAll.of_ints ns)
theorem RpKvs.length : ∀ {ks : KsT} {kvs : List (D × D)}, RpKvs K w H ks kvs → ks.length = kvs.length
  | _, _, .nil => rfl
  | _, _, .cons _ _ _ t => congrArg (· + 1) t.length
mutual
/-- data without dicts, for == -/
theorem Rp.dp : ∀ {v : V} {d : D}, Rp K w H v d → d.plain = true → Dp K H v d
  | _, _, .non, _ => .non
  | _, _, .bl b, _ => .bl b
  | _, _, .int i, _ => .int i
  | _, _, .str x, _ => .str x
  | _, _, .lst h a, l => .lst (.of h) (RpAll.dp a (by simpa [PyData.plain] using l))
  | _, _, .tup h a, l => .tup h.sq (RpAll.dp a (by simpa [PyData.plain] using l))
  | _, _, .loose h a, l => by simp [PyData.plain] at l
  | _, _, .scr h, l => by simp [PyData.plain] at l
  | _, _, .dct _ _ _ _, l => by simp [PyData.plain] at l
theorem RpAll.dp : ∀ {vs : List V} {ds : List D}, RpAll K w H vs ds → PyData.plainAll ds = true → DpAll K H vs ds
  | _, _, .nil, _ => .nil
  | _, _, .cons h t, l => by
    have l' := l
    simp only [PyData.plainAll, Bool.and_eq_true] at l'
    exact .cons (Rp.dp h l'.1) (RpAll.dp t l'.2)
end
end

/-! ### what a step of an evaluation may do: Hd is what will never change, H all that is tracked -/
structure Step (Hd H Hd' H' : Hp) : Prop where
  d : Same Hd Hd'
  h : Same H H'
  s : Same Hd' H'
  n : ∀ p o, H p = some o → Hd p = none → Hd' p = none
section
variable {Hd H Hd1 H1 Hd2 H2 : Hp}
theorem Step.refl (s : Same Hd H) : Step Hd H Hd H := ⟨.refl _, .refl _, s, fun _ _ _ h => h⟩
theorem Step.trans (a : Step Hd H Hd1 H1) (b : Step Hd1 H1 Hd2 H2) : Step Hd H Hd2 H2 :=
  ⟨a.d.trans b.d, a.h.trans b.h, b.s, fun p o h n => b.n p o (a.h _ _ h) (a.n p o h n)⟩
theorem same_upd {H : Hp} {p : Addr} {o : HO} (h : H p = none) : Same H (upd H p o) := fun b x e => by
  rw [upd_ne (ne_of_none e h)]
  exact e
theorem same_upd2 {Hd H : Hp} (s : Same Hd H) {p : Addr} {o : HO} : Same (upd Hd p o) (upd H p o) := fun b x e => by
  by_cases hb : b = p
  · subst hb
    rw [upd_same] at e
    rw [upd_same]
    exact e
  · rw [upd_ne hb] at e
    rw [upd_ne hb]
    exact s _ _ e
/-- a new object that will never change -/
theorem Step.new (s : Same Hd H) {p : Addr} {o : HO} (hp : H p = none) : Step Hd H (upd Hd p o) (upd H p o) :=
  ⟨same_upd (s.free hp), same_upd hp, same_upd2 s, fun q u h n => by
    have : q ≠ p := ne_of_none h hp
    rw [upd_ne this]
    exact n⟩
/-- a new object that may change -/
theorem Step.own (s : Same Hd H) {p : Addr} {o : HO} (hp : H p = none) : Step Hd H Hd (upd H p o) :=
  ⟨.refl _, same_upd hp, s.trans (same_upd hp), fun _ _ _ n => n⟩
/-- an object of one's own is never to change again -/
theorem Step.freeze (a : Step Hd H Hd1 H1) {p : Addr} {o : HO} (hp : H p = none) (n : Hd1 p = none) (h : H1 p = some o) : Step Hd H (upd Hd1 p o) H1 :=
  ⟨a.d.trans (same_upd n), a.h, fun b x e => by
    by_cases hb : b = p
    · subst hb
      rw [upd_same] at e
      rw [h]
      exact e
    · rw [upd_ne hb] at e
      exact a.s _ _ e, fun q u e m => by
    have : q ≠ p := ne_of_none e hp
    rw [upd_ne this]
    exact a.n q u e m⟩
end

/-! ### states -/
/-- what a slot holds: nothing known, a datum, a list of one's own, a dict of one's own -/
inductive Sl where
  | un | dat (d : D) | lst (ds : List D) | dct (kvs : List (D × D)) | mem (a : Addr) (kvs : List (D × D))
abbrev Sg := List Sl
def Sl.own : Sl → Bool
  | .lst _ => true
  | .dct _ => true
  | .mem _ _ => true
  | _ => false
/-- the heaps at the def's entry -/
structure Bx where
  cl : Nat → Addr
  Hd : Hp
  H : Hp
section
variable (K : PySem.W.Frag) (w : World)
def SlOk (B : Bx) (Hd H : Hp) (so : Option V) (p : Addr) : Sl → Prop
  | .un => True
  | .dat d => ∃ v, so = some v ∧ Rp K w Hd v d
  | .lst ds => so = some (.ref p) ∧ B.H p = none ∧ Hd p = none ∧ ∃ vs, H p = some (.lst vs) ∧ RpAll K w Hd vs ds
  | .dct kvs => so = some (.ref p) ∧ B.H p = none ∧ Hd p = none ∧ (p == sysModules) = false ∧ ∃ o ks, H p = some (dkO p o) ∧ DkIs w o ks ∧ RpKvs K w Hd ks kvs
  | .mem a kvs => p = a ∧ so = some (.ref p) ∧ B.H p = none ∧ Hd p = none ∧ (p == sysModules) = false ∧ ∃ o ks, H p = some (dkO p o) ∧ DkIs w o ks ∧ RpKvs K w Hd ks kvs
structure Rep (B : Bx) (Hd H : Hp) (σ : L2.St) (g : Sg) : Prop where
  base : Step B.Hd B.H Hd H
  len : σ.length = g.length
  ex : ∃ ow : Nat → Addr, (∀ i j si sj, i ≠ j → g[i]? = some si → g[j]? = some sj → si.own = true → sj.own = true → ow i ≠ ow j) ∧ ∀ i s, g[i]? = some s → SlOk K w B Hd H (σ[i]?).join (ow i) s
/-- a value that is read at once: a datum, or an object of one's own -/
def RpT (Hd H : Hp) (v : V) (d : D) : Prop :=
  Rp K w Hd v d ∨ (∃ p vs ds, v = .ref p ∧ d = .list ds ∧ H p = some (.lst vs) ∧ RpAll K w Hd vs ds) ∨
    ∃ p o ks kvs, v = .ref p ∧ d = .dict kvs ∧ H p = some (dkO p o) ∧ (p == sysModules) = false ∧ DkIs w o ks ∧ RpKvs K w Hd ks kvs
end
section
variable {K : PySem.W.Frag} {w : World} {B : Bx} {Hd H Hd' H' : Hp} {σ : L2.St} {g : Sg}
theorem Rep.same (r : Rep K w B Hd H σ g) : Same Hd H := r.base.s
theorem SlOk.step {so : Option V} {p : Addr} {s : Sl} (t : Step Hd H Hd' H') (h : SlOk K w B Hd H so p s) : SlOk K w B Hd' H' so p s := by
  cases s with
  | un => trivial
  | dat d =>
    obtain ⟨v, e, r⟩ := h
    exact ⟨v, e, r.mono t.d⟩
  | lst ds =>
    obtain ⟨e, b, n, vs, hp, r⟩ := h
    exact ⟨e, b, t.n _ _ hp n, vs, t.h _ _ hp, r.mono t.d⟩
  | dct kvs =>
    obtain ⟨e, b, n, z, o, ks, hp, i, r⟩ := h
    exact ⟨e, b, t.n _ _ hp n, z, o, ks, t.h _ _ hp, i, r.mono t.d⟩
  | mem a kvs =>
    obtain ⟨ea, e, b, n, z, o, ks, hp, i, r⟩ := h
    exact ⟨ea, e, b, t.n _ _ hp n, z, o, ks, t.h _ _ hp, i, r.mono t.d⟩
theorem Rep.step (r : Rep K w B Hd H σ g) (t : Step Hd H Hd' H') : Rep K w B Hd' H' σ g := by
  obtain ⟨b, l, ow, n, h⟩ := r
  exact ⟨b.trans t, l, ow, n, fun i s e => (h i s e).step t⟩
theorem Rp.t {v : V} {d : D} (r : Rp K w Hd v d) : RpT K w Hd H v d := .inl r
theorem RpT.step {v : V} {d : D} (t : Step Hd H Hd' H') (r : RpT K w Hd H v d) : RpT K w Hd' H' v d := by
  rcases r with r | ⟨p, vs, ds, e1, e2, h, a⟩ | ⟨p, o, ks, kvs, e1, e2, h, n, i, a⟩
  · exact .inl (r.mono t.d)
  · exact .inr (.inl ⟨p, vs, ds, e1, e2, t.h _ _ h, a.mono t.d⟩)
  · exact .inr (.inr ⟨p, o, ks, kvs, e1, e2, t.h _ _ h, n, i, a.mono t.d⟩)
theorem RpT.now {v : V} {d : D} (s : Same Hd H) (r : RpT K w Hd H v d) : Rp K w H v d := by
  rcases r with r | ⟨p, vs, ds, rfl, rfl, h, a⟩ | ⟨p, o, ks, kvs, rfl, rfl, h, n, i, a⟩
  · exact r.mono s
  · exact .lst h (a.mono s)
  · exact .dct h n i (a.mono s)
theorem RpT.list {v : V} {ds : List D} (s : Same Hd H) (r : RpT K w Hd H v (.list ds)) : ∃ p vs, v = .ref p ∧ H p = some (.lst vs) ∧ RpAll K w Hd vs ds := by
  rcases r with r | ⟨p, vs, ds', e1, e2, h, a⟩ | ⟨p, o, ks, kvs, e1, e2, h, n, i, a⟩
  · cases r with
    | lst h a => exact ⟨_, _, rfl, s _ _ h, a⟩
  · cases e2
    exact ⟨p, vs, e1, h, a⟩
  · cases e2
theorem RpT.tup {v : V} {ds : List D} (s : Same Hd H) (r : RpT K w Hd H v (.tuple ds)) : ∃ p vs, v = .ref p ∧ Fz H p vs ∧ RpAll K w Hd vs ds := by
  rcases r with r | ⟨p, vs, ds', e1, e2, h, a⟩ | ⟨p, o, ks, kvs, e1, e2, h, n, i, a⟩
  · cases r with
    | tup h a => exact ⟨_, _, rfl, h.same s, a⟩
  · cases e2
  · cases e2
theorem RpT.tupR {v : V} {ds : List D} (r : RpT K w Hd H v (.tuple ds)) : Rp K w Hd v (.tuple ds) := by
  rcases r with r | ⟨p, vs, ds', e1, e2, h, a⟩ | ⟨p, o, ks, kvs, e1, e2, h, n, i, a⟩
  · exact r
  · cases e2
  · cases e2
theorem RpT.int {v : V} {i : Int} (r : RpT K w Hd H v (.int i)) : v = .int i := by
  rcases r with r | ⟨p, vs, ds', e1, e2, h, a⟩ | ⟨p, o, ks, kvs, e1, e2, h, n, i, a⟩
  · cases r; rfl
  · cases e2
  · cases e2
theorem RpT.bl {v : V} {b : Bool} (r : RpT K w Hd H v (.bool b)) : v = .bl b := by
  rcases r with r | ⟨p, vs, ds', e1, e2, h, a⟩ | ⟨p, o, ks, kvs, e1, e2, h, n, i, a⟩
  · cases r; rfl
  · cases e2
  · cases e2
theorem RpT.str {v : V} {x : Str} (r : RpT K w Hd H v (.str x)) : v = .str x := by
  rcases r with r | ⟨p, vs, ds', e1, e2, h, a⟩ | ⟨p, o, ks, kvs, e1, e2, h, n, i, a⟩
  · cases r; rfl
  · cases e2
  · cases e2
theorem RpT.non {v : V} (r : RpT K w Hd H v .none) : v = .non := by
  rcases r with r | ⟨p, vs, ds', e1, e2, h, a⟩ | ⟨p, o, ks, kvs, e1, e2, h, n, i, a⟩
  · cases r; rfl
  · cases e2
  · cases e2
theorem join_get {σ : L2.St} {i : Nat} {v : V} (h : (σ[i]?).join = some v) : σ[i]? = some (some v) := by
  cases e : σ[i]? with
  | none => rw [e] at h; cases h
  | some o =>
    rw [e] at h
    cases o with
    | none => cases h
    | some u =>
      have : some u = some v := h
      cases this
      rfl
theorem get_join {σ : L2.St} {i : Nat} {v : V} (h : σ[i]? = some (some v)) : (σ[i]?).join = some v := by
  rw [h]; rfl
end
end G
end

section
set_option Elab.async false
set_option linter.all false
set_option maxRecDepth 100000
set_option maxHeartbeats 4000000
/-! G2: readings that are Lean functions on states; expressions. -/
namespace G
open PySem PySem.Spec PyProof.Rows L2

/-- how a result is borne: the heap ahead, the unchanging part and the heap behind -/
structure Rl (β α : Type) where
  r : Hp → Hp → Hp → β → α → Prop
  anti : ∀ {H H1 Hd' H' : Hp} {v : β} {a : α}, Same H H1 → r H1 Hd' H' v a → r H Hd' H' v a
section
variable (K : PySem.W.Frag) (w : World)
def rlD : Rl V D := ⟨fun _ Hd' _ v d => Rp K w Hd' v d, fun _ h => h⟩
def rlT : Rl V D := ⟨fun _ Hd' H' v d => RpT K w Hd' H' v d, fun _ h => h⟩
def rlO : Rl V (List D) := ⟨fun H Hd' H' v ds => ∃ p vs, v = .ref p ∧ H p = none ∧ Hd' p = none ∧ H' p = some (.lst vs) ∧ RpAll K w Hd' vs ds, fun s ⟨p, vs, e, n, r⟩ => ⟨p, vs, e, s.free n, r⟩⟩
def rlA : Rl (List V) (List D) := ⟨fun _ Hd' _ vs ds => RpAll K w Hd' vs ds, fun _ h => h⟩
def rlB : Rl Bool Bool := ⟨fun _ _ _ b a => b = a, fun _ h => h⟩
def ExOk (B : Bx) (H : Hp) (e : Exc) (cls : Value) (dd : Option Addr) : Prop := cls = .ref (B.cl e.cls) ∧ (e.at_ = none → dd = none) ∧ ∀ i, e.at_ = some i → ∃ d, dd = some d ∧ H d = some (.xd [(("at" : Str), .int i)])
def OkG {β α : Type} (rl : Rl β α) (B : Bx) (W : WX) (Hd H : Hp) (σ : L2.St) (Q : β → Hp → Prop) : R α → Prop
  | .no => False
  | .ok a => ∀ v Hd' H', Step Hd H Hd' H' → rl.r H Hd' H' v a → Q v H'
  | .ex e => ∀ cls dd Hd' H', Step Hd H Hd' H' → ExOk B H' e cls dd → W cls dd σ H'
def tG {β α : Type} (rl : Rl β α) (B : Bx) (W : WX) (f : Sg → R α) : L2.St → Hp → (β → Hp → Prop) → Prop := fun σ H Q => ∃ g Hd, Rep K w B Hd H σ g ∧ OkG rl B W Hd H σ Q (f g)
end
abbrev DE (X : Cx) (B : Bx) (W : WX) (e : Expr) (f : Sg → R D) : Prop := PE X e (tG X.K X.w (rlD X.K X.w) B W f)
abbrev DT (X : Cx) (B : Bx) (W : WX) (e : Expr) (f : Sg → R D) : Prop := PE X e (tG X.K X.w (rlT X.K X.w) B W f)
abbrev DO (X : Cx) (B : Bx) (W : WX) (e : Expr) (f : Sg → R (List D)) : Prop := PE X e (tG X.K X.w (rlO X.K X.w) B W f)
abbrev DA (X : Cx) (B : Bx) (W : WX) (es : List Expr) (f : Sg → R (List D)) : Prop := PA X es (tG X.K X.w (rlA X.K X.w) B W f)
abbrev DB (X : Cx) (B : Bx) (W : WX) (e : Expr) (f : Sg → R Bool) : Prop := PT X e (tG X.K X.w rlB B W f)
abbrev DW (X : Cx) (B : Bx) (W : WX) (e : Expr) (f : Sg → R Bool) : Prop := PW X e (tG X.K X.w rlB B W f)

section
variable {K : PySem.W.Frag} {w : World} {B : Bx} {W : WX} {Hd H Hd' H' : Hp} {σ : L2.St} {g : Sg} {β α β1 α1 : Type} {rl : Rl β α} {rl1 : Rl β1 α1} {Q : β → Hp → Prop}
theorem OkG.step (t : Step Hd H Hd' H') {r : R α} (h : OkG rl B W Hd H σ Q r) : OkG rl B W Hd' H' σ Q r := by
  cases r with
  | no => exact h
  | ok a => exact fun v Hd2 H2 s r => h v Hd2 H2 (t.trans s) (rl.anti t.h r)
  | ex e => exact fun cls dd Hd2 H2 s x => h cls dd Hd2 H2 (t.trans s) x
theorem OkG.ok {a : α} {v : β} (h : OkG rl B W Hd H σ Q (.ok a)) (t : Step Hd H Hd' H') (r : rl.r H Hd' H' v a) : Q v H' := h v Hd' H' t r
theorem seq {f1 : Sg → R α1} {k : α1 → R α} {P : β1 → Hp → Prop} (rep : Rep K w B Hd H σ g) (h : OkG rl B W Hd H σ Q ((f1 g).bind k))
    (hk : ∀ a v Hd' H', f1 g = .ok a → Step Hd H Hd' H' → rl1.r H Hd' H' v a → Rep K w B Hd' H' σ g → OkG rl B W Hd' H' σ Q (k a) → P v H') : tG K w rl1 B W f1 σ H P := by
  refine ⟨g, Hd, rep, ?_⟩
  cases e : f1 g with
  | no => rw [e] at h; exact h
  | ok a =>
    rw [e] at h
    exact fun v Hd' H' t r => hk a v Hd' H' e t r (rep.step t) (OkG.step t h)
  | ex x => rw [e] at h; exact h
theorem OkG.map {f : α1 → α} {r : R α1} {P : β1 → Hp → Prop} (h : OkG rl B W Hd H σ Q (r.map f)) (hk : ∀ a v Hd' H', Step Hd H Hd' H' → rl1.r H Hd' H' v a → OkG rl B W Hd H σ Q (.ok (f a)) → P v H') : OkG rl1 B W Hd H σ P r := by
  cases r with
  | no => exact h
  | ok a => exact fun v Hd' H' t r => hk a v Hd' H' t r h
  | ex e => exact h
end

section
variable {X : Cx} {B : Bx} {W : WX} {e a b c : Expr} {es : List Expr} {pos : Pos} {f f1 f2 f3 : Sg → R D}
theorem PE.imp {t t' : TE} (h : PE X e t) (i : ∀ σ H Q, t' σ H Q → t σ H Q) : PE X e t' := ⟨fun pins s σ H Q I hw => h.run pins s σ H Q I (i σ H Q hw)⟩
theorem PA.imp {t t' : TA} (h : PA X es t) (i : ∀ σ H Q, t' σ H Q → t σ H Q) : PA X es t' := ⟨fun pos pins s σ H Q I hw => h.run pos pins s σ H Q I (i σ H Q hw)⟩
theorem PT.imp {t t' : TT} (h : PT X e t) (i : ∀ σ H Q, t' σ H Q → t σ H Q) : PT X e t' := ⟨fun pins s σ H Q I hw => h.run pins s σ H Q I (i σ H Q hw)⟩
theorem PW.imp {t t' : TT} (h : PW X e t) (i : ∀ σ H Q, t' σ H Q → t σ H Q) : PW X e t' := ⟨fun wh pins s σ H Q I hw => h.run wh pins s σ H Q I (i σ H Q hw)⟩

/-- a datum is a value that may be read -/
theorem DE.t (h : DE X B W e f) : DT X B W e f := PE.imp h fun σ H Q ⟨g, Hd, rep, q⟩ => ⟨g, Hd, rep, by
  cases r : f g with
  | no => rw [r] at q; exact q
  | ok a => rw [r] at q; exact fun v Hd' H' s rp => q v Hd' H' s (.inl rp)
  | ex x => rw [r] at q; exact q⟩
/-- a new list is a datum -/
theorem DO.toE {fo : Sg → R (List D)} (h : DO X B W e fo) : DE X B W e (fun g => (fo g).map .list) := PE.imp h fun σ H Q ⟨g, Hd, rep, q⟩ => ⟨g, Hd, rep, by
  refine OkG.map q fun ds v Hd' H' t ⟨p, vs, ev, n0, n, hp, r⟩ q => ?_
  subst ev
  have t2 := t.freeze n0 n hp
  exact q.ok t2 (.lst upd_same (r.mono (same_upd n)))⟩

/-! ### names, constants -/
def fVar (i : Nat) : Sg → R D := fun g => match g[i]? with
  | some (.dat d) => .ok d
  | _ => .no
def fVarT (i : Nat) : Sg → R D := fun g => match g[i]? with
  | some (.dat d) => .ok d
  | some (.lst ds) => .ok (.list ds)
  | some (.dct kvs) => .ok (.dict kvs)
  | some (.mem _ kvs) => .ok (.dict kvs)
  | _ => .no
def fC (d : D) : Sg → R D := fun _ => .ok d
theorem de_pv {i : Nat} (h : PE X e (tVar i)) : DE X B W e (fVar i) := PE.imp h fun σ H Q ⟨g, Hd, rep, q⟩ => by
  obtain ⟨b, l, ow, n, hs⟩ := id rep
  unfold fVar at q
  cases eg : g[i]? with
  | none => rw [eg] at q; exact q.elim
  | some s =>
    rw [eg] at q
    cases s with
    | dat d =>
      obtain ⟨v, e1, r⟩ := hs i _ eg
      exact ⟨v, join_get e1, q.ok (Step.refl rep.same) r⟩
    | un => exact q.elim
    | lst ds => exact q.elim
    | dct kvs => exact q.elim
    | mem a kvs => exact q.elim
theorem dt_pv {i : Nat} (h : PE X e (tVar i)) : DT X B W e (fVarT i) := PE.imp h fun σ H Q ⟨g, Hd, rep, q⟩ => by
  obtain ⟨b, l, ow, n, hs⟩ := id rep
  unfold fVarT at q
  cases eg : g[i]? with
  | none => rw [eg] at q; exact q.elim
  | some s =>
    rw [eg] at q
    cases s with
    | dat d =>
      obtain ⟨v, e1, r⟩ := hs i _ eg
      exact ⟨v, join_get e1, q.ok (Step.refl rep.same) (.inl r)⟩
    | un => exact q.elim
    | lst ds =>
      obtain ⟨e1, _, _, vs, h1, r⟩ := hs i _ eg
      exact ⟨_, join_get e1, q.ok (Step.refl rep.same) (.inr (.inl ⟨_, vs, ds, rfl, rfl, h1, r⟩))⟩
    | dct kvs =>
      obtain ⟨e1, _, _, z, o, ks, h1, i1, r⟩ := hs i _ eg
      exact ⟨_, join_get e1, q.ok (Step.refl rep.same) (.inr (.inr ⟨_, o, ks, kvs, rfl, rfl, h1, z, i1, r⟩))⟩
    | mem a kvs =>
      obtain ⟨_, e1, _, _, z, o, ks, h1, i1, r⟩ := hs i _ eg
      exact ⟨_, join_get e1, q.ok (Step.refl rep.same) (.inr (.inr ⟨_, o, ks, kvs, rfl, rfl, h1, z, i1, r⟩))⟩
theorem de_c {v : V} {d : D} (h : PE X e (tC v)) (r : ∀ H, Rp X.K X.w H v d) : DE X B W e (fC d) := PE.imp h fun σ H Q ⟨g, Hd, rep, q⟩ => q.ok (Step.refl rep.same) (r Hd)
theorem de_int {i j pos} : DE X B W (.Constant (.int i) j pos) (fC (.int i)) := de_c pe_int fun _ => .int i
theorem de_bl {b j pos} : DE X B W (.Constant (.bool b) j pos) (fC (.bool b)) := de_c pe_bl fun _ => .bl b
theorem de_non {j pos} : DE X B W (.Constant .none j pos) (fC .none) := de_c pe_non fun _ => .non
theorem de_str {x j pos} : DE X B W (.Constant (.str x) j pos) (fC (.str x)) := de_c pe_str fun _ => .str x
/-- a module's constant that is a number or a text -/
theorem de_globI {x : Str} {i : Int} {t : Tok} {pos : Pos} (hg : Gl X x) (hm : X.mg x = some (.int i t)) (hd : (x == ("__debug__" : Str)) = false := by decide) : DE X B W (.Name x pos) (fC (.int i)) := de_c (pe_glob hg hm (show RelV (.int i) (.int i t) from ⟨t, rfl⟩) hd) fun _ => .int i
theorem de_globS {x z : Str} {t : Tok} {pos : Pos} (hg : Gl X x) (hm : X.mg x = some (.str z t)) (hd : (x == ("__debug__" : Str)) = false := by decide) : DE X B W (.Name x pos) (fC (.str z)) := de_c (pe_glob hg hm (show RelV (.str z) (.str z t) from ⟨t, rfl⟩) hd) fun _ => .str z

/-! ### two operands -/
def fBin (F : D → D → R D) (f1 f2 : Sg → R D) : Sg → R D := fun g => (f1 g).bind fun x => (f2 g).bind fun y => F x y
theorem imp_bin {F : D → D → R D} {r : R2}
    (hF : ∀ {Hd H σ x y v u} {Q : VK}, Same Hd H → RpT X.K X.w Hd H v x → RpT X.K X.w Hd H u y → OkG (rlD X.K X.w) B W Hd H σ Q (F x y) → r v u H Q) {σ : L2.St} {H : Hp} {Q : VK} (h : tG X.K X.w (rlD X.K X.w) B W (fBin F f1 f2) σ H Q) :
    tOp r (tG X.K X.w (rlT X.K X.w) B W f1) (tG X.K X.w (rlT X.K X.w) B W f2) σ H Q := by
  obtain ⟨g, Hd, rep, h⟩ := h
  exact seq rep h fun x v Hd1 H1 _ s1 r1 rep1 h1 => seq rep1 h1 fun y u Hd2 H2 _ s2 r2 rep2 h2 => hF rep2.same (RpT.step s2 r1) r2 h2
theorem de_op {op : Operator} {F : D → D → R D} {r : R2} (ho : OpR X (binaryOp op) r)
    (hF : ∀ {Hd H σ x y v u} {Q : VK}, Same Hd H → RpT X.K X.w Hd H v x → RpT X.K X.w Hd H u y → OkG (rlD X.K X.w) B W Hd H σ Q (F x y) → r v u H Q)
    (ha : DT X B W a f1) (hb : DT X B W b f2) : DE X B W (.BinOp a op b pos) (fBin F f1 f2) := PE.imp (pe_op ho ha hb) fun _ _ _ h => imp_bin hF h
theorem OpR.or {f : Value → Value → Sem Value} {r r' : R2} (h : OpR X f r) (h' : OpR X f r') : OpR X f (fun x y H Q => r x y H Q ∨ r' x y H Q) := fun pins s σ H x y v u Q I rx ry q => by
  rcases q with q | q
  · exact h pins s σ H x y v u Q I rx ry q
  · exact h' pins s σ H x y v u Q I rx ry q
def big : Nat := 1000000
theorem big_le {n : Nat} (h : n ≤ big) : n ≤ sizeLine := Nat.le_trans h (by rw [sizeLine_eq]; decide)
theorem big_lt {n : Nat} (h : n < big) : n < sizeLine := Nat.lt_of_lt_of_le h (by rw [sizeLine_eq]; decide)
def addD : D → D → R D
  | .int i, .int j => .ok (.int (i + j))
  | .str i, .str j => if i.length + j.length ≤ big then .ok (.str (i ++ j)) else .no
  | .list a, .list b => if a.length + b.length ≤ big then .ok (.list (a ++ b)) else .no
  | .tuple a, .tuple b => if a.length + b.length ≤ big then .ok (.tuple (a ++ b)) else .no
  | _, _ => .no
def rAdd (K : PySem.W.Frag) : R2 := fun x y H Q => rI0 (fun i j => .int (i + j)) x y H Q ∨ (∃ i j, x = .str i ∧ y = .str j ∧ i.length + j.length ≤ sizeLine ∧ Q (.str (i ++ j)) H) ∨ rCat x y H Q ∨ rCatF K x y H Q
theorem op_addAny : OpR X (binaryOp .Add) (rAdd X.K) := OpR.or op_add (OpR.or op_add_str (OpR.or op_cat op_catF))
theorem no_elim {β α : Type} {rl : Rl β α} {B : Bx} {W : WX} {Hd H : Hp} {σ : L2.St} {Q : β → Hp → Prop} {C : Prop} (h : OkG rl B W Hd H σ Q .no) : C := h.elim
theorem de_add (ha : DT X B W a f1) (hb : DT X B W b f2) : DE X B W (.BinOp a .Add b pos) (fBin addD f1 f2) := by
  refine de_op op_addAny (fun {Hd H σ x y v u Q} s r1 r2 h => ?_) ha hb
  unfold addD at h
  split at h
  · obtain rfl := r1.int
    obtain rfl := r2.int
    exact .inl ⟨_, _, rfl, rfl, h.ok (Step.refl s) (.int _)⟩
  · split at h
    case isFalse => exact no_elim h
    case isTrue hz =>
      obtain rfl := r1.str
      obtain rfl := r2.str
      exact .inr (.inl ⟨_, _, rfl, rfl, big_le hz, h.ok (Step.refl s) (.str _)⟩)
  · split at h
    case isFalse => exact no_elim h
    case isTrue hz =>
      obtain ⟨p, vs, rfl, hp, ra⟩ := r1.list s
      obtain ⟨q, us, rfl, hq, rb⟩ := r2.list s
      refine .inr (.inr (.inl ⟨p, q, vs, us, rfl, rfl, hp, hq, by rw [ra.length, rb.length]; exact big_le hz, fun n hn => ?_⟩))
      have t := Step.new (o := .lst (vs ++ us)) s hn
      exact h.ok t (.lst upd_same ((ra.append rb).mono t.d))
  · split at h
    case isFalse => exact no_elim h
    case isTrue hz =>
      obtain ⟨p, vs, ev, hp, ra⟩ := r1.tup s
      obtain ⟨q, us, eu, hq, rb⟩ := r2.tup s
      subst ev
      subst eu
      have la := ra.length
      have lb := rb.length
      refine .inr (.inr (.inr ⟨p, q, vs, us, rfl, rfl, hp.sq, hq.sq, by rw [la, lb]; exact big_le hz, fun e0 => ?_, fun _ e0 => ?_, fun _ _ n o hd hn => ?_⟩))
      · subst e0
        cases ra
        exact h.ok (Step.refl s) r2.tupR
      · subst e0
        cases rb
        rw [List.append_nil] at h
        exact h.ok (Step.refl s) r1.tupR
      · have t := Step.new (o := .frz o (.tup (vs ++ us))) s hn
        exact h.ok t (.tup ⟨o, upd_same, hd⟩ ((ra.append rb).mono t.d))
  · exact no_elim h
def subD : D → D → R D
  | .int i, .int j => .ok (.int (i - j))
  | _, _ => .no
theorem de_sub (ha : DT X B W a f1) (hb : DT X B W b f2) : DE X B W (.BinOp a .Sub b pos) (fBin subD f1 f2) := by
  refine de_op op_sub (fun {Hd H σ x y v u Q} s r1 r2 h => ?_) ha hb
  unfold subD at h
  split at h
  · obtain rfl := r1.int
    obtain rfl := r2.int
    exact ⟨_, _, rfl, rfl, h.ok (Step.refl s) (.int _)⟩
  · exact no_elim h
def modD : D → D → R D
  | .int i, .int j => if 0 < j then .ok (.int (i % j)) else .no
  | _, _ => .no
theorem de_mod (ha : DT X B W a f1) (hb : DT X B W b f2) : DE X B W (.BinOp a .Mod b pos) (fBin modD f1 f2) := by
  refine de_op op_mod (fun {Hd H σ x y v u Q} s r1 r2 h => ?_) ha hb
  unfold modD at h
  split at h
  · split at h
    case isFalse => exact no_elim h
    case isTrue hz =>
      obtain rfl := r1.int
      obtain rfl := r2.int
      exact ⟨_, _, rfl, rfl, hz, h.ok (Step.refl s) (.int _)⟩
  · exact no_elim h
def fdivD : D → D → R D
  | .int i, .int j => if 0 < j ∧ j < 1073741824 then .ok (.int (i / j)) else .no
  | _, _ => .no
theorem de_fdiv (ha : DT X B W a f1) (hb : DT X B W b f2) : DE X B W (.BinOp a .FloorDiv b pos) (fBin fdivD f1 f2) := by
  refine de_op op_fdiv (fun {Hd H σ x y v u Q} s r1 r2 h => ?_) ha hb
  unfold fdivD at h
  split at h
  · split at h
    case isFalse => exact no_elim h
    case isTrue hz =>
      obtain rfl := r1.int
      obtain rfl := r2.int
      exact ⟨_, _, rfl, rfl, hz, h.ok (Step.refl s) (.int _)⟩
  · exact no_elim h
/-- a product: two ints (one of them small), a list, a tuple or a text and an int from 0 to 1000 -/
def mulD : D → D → R D
  | .int i, .int j => if (-18446744073709551616 < i ∧ i < 18446744073709551616) ∨ (-18446744073709551616 < j ∧ j < 18446744073709551616) then .ok (.int (i * j)) else .no
  | .list a, .int k => if 0 ≤ k ∧ k ≤ 1000 ∧ a.length ≤ 1000 then .ok (.list (List.replicate k.toNat a).flatten) else .no
  | .tuple a, .int k => if 0 < a.length ∧ 2 ≤ k ∧ k ≤ 1000 ∧ a.length ≤ 1000 then .ok (.tuple (List.replicate k.toNat a).flatten) else .no
  | .str t, .int k => if 1 ≤ k ∧ k ≤ 1000 ∧ 0 < t.length ∧ t.length ≤ 1000 then .ok (.str (repS t k.toNat)) else .no
  | _, _ => .no
theorem rep_flat {K : PySem.W.Frag} {w : World} {H : Hp} {vs : List V} {ds : List D} (r : RpAll K w H vs ds) : ∀ n : Nat, RpAll K w H (List.replicate n vs).flatten (List.replicate n ds).flatten
  | 0 => .nil
  | n + 1 => by
    rw [List.replicate_succ, List.replicate_succ, List.flatten_cons, List.flatten_cons]
    exact r.append (rep_flat r n)
theorem de_mul (ha : DT X B W a f1) (hb : DT X B W b f2) : DE X B W (.BinOp a .Mult b pos) (fBin mulD f1 f2) := by
  refine de_op (OpR.or (OpR.or (OpR.or op_mul op_rep) op_timesF) op_timesS) (fun {Hd H σ x y v u Q} s r1 r2 h => ?_) ha hb
  unfold mulD at h
  split at h
  · split at h
    case isFalse => exact no_elim h
    case isTrue hz =>
      obtain rfl := r1.int
      obtain rfl := r2.int
      exact .inl (.inl (.inl ⟨_, _, rfl, rfl, hz, h.ok (Step.refl s) (.int _)⟩))
  · split at h
    case isFalse => exact no_elim h
    case isTrue hz =>
      rename_i k
      obtain ⟨p, vs, ev, hp, ra⟩ := r1.list s
      subst ev
      obtain rfl := r2.int
      obtain ⟨h0, h1, h2⟩ := hz
      have lz : vs.length * k.toNat ≤ 1000 * 1000 := Nat.mul_le_mul (by rw [ra.length]; exact h2) (Int.toNat_le.mpr h1)
      refine .inl (.inl (.inr ⟨p, k, vs, rfl, rfl, hp, by omega, by omega, big_le lz, fun n hn => ?_⟩))
      have t := Step.new (o := .lst (List.replicate k.toNat vs).flatten) s hn
      exact h.ok t (.lst upd_same ((rep_flat ra _).mono t.d))
  · split at h
    case isFalse => exact no_elim h
    case isTrue hz =>
      rename_i k
      obtain ⟨p, vs, ev, hp, ra⟩ := r1.tup s
      subst ev
      obtain rfl := r2.int
      obtain ⟨h0, h1, h2, h3⟩ := hz
      refine .inl (.inr ⟨p, k, vs, rfl, rfl, hp.sq, (fun z => by have := ra.length; rw [z] at this; simp at this; omega), h1, h2, by rw [ra.length]; exact h3, fun n o hd hn => ?_⟩)
      have t := Step.new (o := .frz o (.tup (List.replicate k.toNat vs).flatten)) s hn
      exact h.ok t (.tup ⟨o, upd_same, hd⟩ ((rep_flat ra _).mono t.d))
  · split at h
    case isFalse => exact no_elim h
    case isTrue hz =>
      rename_i k
      obtain rfl := r1.str
      obtain rfl := r2.int
      obtain ⟨h0, h1, h2, h3⟩ := hz
      exact .inr ⟨_, k, rfl, rfl, h0, h1, h2, h3, h.ok (Step.refl s) (.str _)⟩
  · exact no_elim h
end
end G
end

section
set_option Elab.async false
set_option linter.all false
set_option maxRecDepth 100000
set_option maxHeartbeats 4000000
/-! G3: comparisons, tests, subscripts, displays, calls of built-ins. -/
namespace G
open PySem PySem.Spec PyProof.Rows L2
section
variable {X : Cx} {B : Bx} {W : WX} {e a b c : Expr} {es rest : List Expr} {pos : Pos} {f f1 f2 f3 : Sg → R D} {t1 t2 : Sg → R Bool}

/-! ### comparisons -/
theorem de_cmp {op : CmpOp} {F : D → D → R D} {r : R2} (ho : OpR X (compareOp op) r)
    (hF : ∀ {Hd H σ x y v u} {Q : VK}, Same Hd H → RpT X.K X.w Hd H v x → RpT X.K X.w Hd H u y → OkG (rlD X.K X.w) B W Hd H σ Q (F x y) → r v u H Q)
    (ha : DT X B W a f1) (hb : DT X B W b f2) (hm : behindInMarks op b = false) : DE X B W (.Compare a [op] [b] pos) (fBin F f1 f2) := PE.imp (pe_cmpR ho ha hb hm) fun _ _ _ h => imp_bin hF h
def asB : D → R Bool
  | .bool b => .ok b
  | _ => .no
def fB (f : Sg → R D) : Sg → R Bool := fun g => (f g).bind asB
theorem imp_test {σ : L2.St} {H : Hp} {Q : Bool → Hp → Prop} (h : tG X.K X.w rlB B W (fB f) σ H Q) : tG X.K X.w (rlD X.K X.w) B W f σ H (fun x H' => ∃ k, x = .bl k ∧ Q k H') := by
  obtain ⟨g, Hd, rep, h⟩ := h
  refine seq rep h fun d v Hd1 H1 _ s1 r1 rep1 h1 => ?_
  unfold asB at h1
  split at h1
  · cases r1
    exact ⟨_, rfl, h1.ok (Step.refl rep1.same) rfl⟩
  · exact no_elim h1
theorem db_cmp {op : CmpOp} {F : D → D → R D} {r : R2} (ho : OpR X (compareOp op) r)
    (hF : ∀ {Hd H σ x y v u} {Q : VK}, Same Hd H → RpT X.K X.w Hd H v x → RpT X.K X.w Hd H u y → OkG (rlD X.K X.w) B W Hd H σ Q (F x y) → r v u H Q)
    (ha : DT X B W a f1) (hb : DT X B W b f2) (hm : behindInMarks op b = false) : DB X B W (.Compare a [op] [b] pos) (fB (fBin F f1 f2)) := PT.imp (pt_cmpR ho ha hb hm) fun _ _ _ h => imp_bin hF (imp_test h)
def cmpI (p : Int → Int → Bool) : D → D → R D
  | .int i, .int j => .ok (.bool (p i j))
  | _, _ => .no
abbrev ltD : D → D → R D := cmpI fun i j => decide (i < j)
abbrev leD : D → D → R D := cmpI fun i j => decide (i ≤ j)
abbrev gtD : D → D → R D := cmpI fun i j => decide (j < i)
abbrev geD : D → D → R D := cmpI fun i j => decide (j ≤ i)
theorem hF_I {p : Int → Int → Bool} {Hd H : Hp} {σ : L2.St} {x y : D} {v u : V} {Q : VK} (s : Same Hd H) (r1 : RpT X.K X.w Hd H v x) (r2 : RpT X.K X.w Hd H u y) (h : OkG (rlD X.K X.w) B W Hd H σ Q (cmpI p x y)) : rI0 (fun i j => .bl (p i j)) v u H Q := by
  unfold cmpI at h
  split at h
  · obtain rfl := r1.int
    obtain rfl := r2.int
    exact ⟨_, _, rfl, rfl, h.ok (Step.refl s) (.bl _)⟩
  · exact no_elim h
theorem de_lt (ha : DT X B W a f1) (hb : DT X B W b f2) : DE X B W (.Compare a [.Lt] [b] pos) (fBin ltD f1 f2) := de_cmp op_lt hF_I ha hb (nomark _)
theorem de_le (ha : DT X B W a f1) (hb : DT X B W b f2) : DE X B W (.Compare a [.LtE] [b] pos) (fBin leD f1 f2) := de_cmp op_le hF_I ha hb (nomark _)
theorem de_gt (ha : DT X B W a f1) (hb : DT X B W b f2) : DE X B W (.Compare a [.Gt] [b] pos) (fBin gtD f1 f2) := de_cmp op_gt hF_I ha hb (nomark _)
theorem de_ge (ha : DT X B W a f1) (hb : DT X B W b f2) : DE X B W (.Compare a [.GtE] [b] pos) (fBin geD f1 f2) := de_cmp op_ge hF_I ha hb (nomark _)
theorem db_lt (ha : DT X B W a f1) (hb : DT X B W b f2) : DB X B W (.Compare a [.Lt] [b] pos) (fB (fBin ltD f1 f2)) := db_cmp op_lt hF_I ha hb (nomark _)
theorem db_le (ha : DT X B W a f1) (hb : DT X B W b f2) : DB X B W (.Compare a [.LtE] [b] pos) (fB (fBin leD f1 f2)) := db_cmp op_le hF_I ha hb (nomark _)
theorem db_gt (ha : DT X B W a f1) (hb : DT X B W b f2) : DB X B W (.Compare a [.Gt] [b] pos) (fB (fBin gtD f1 f2)) := db_cmp op_gt hF_I ha hb (nomark _)
theorem db_ge (ha : DT X B W a f1) (hb : DT X B W b f2) : DB X B W (.Compare a [.GtE] [b] pos) (fB (fBin geD f1 f2)) := db_cmp op_ge hF_I ha hb (nomark _)

/-! == and != at any depth -/
/-- data that may be compared: no dict within, not too deep -/
def fine (d : D) : Bool := d.plain && decide (d.depth ≤ 60)
def eqD (x y : D) : R D := if fine x && fine y then .ok (.bool (PyData.eqv x y)) else .no
def neD (x y : D) : R D := if fine x && fine y then .ok (.bool (!PyData.eqv x y)) else .no
theorem fine_iff {d : D} : fine d = true ↔ d.plain = true ∧ d.depth ≤ 60 := by
  unfold fine
  rw [Bool.and_eq_true, decide_eq_true_iff]
theorem RpT.dp {K : PySem.W.Frag} {w : World} {Hd H : Hp} {v : V} {d : D} (s : Same Hd H) (r : RpT K w Hd H v d) (l : fine d = true) : Dp K H v d := (r.now s).dp (fine_iff.mp l).1
def rEqP (K : PySem.W.Frag) (neg : Bool) : R2 := fun x y H Q => ∃ d e, Dp K H x d ∧ Dp K H y e ∧ fine d = true ∧ fine e = true ∧ Q (.bl (if neg then !PyData.eqv d e else PyData.eqv d e)) H
theorem op_eqP (hu : X.A.units + 64 < cLine) : OpR X (compareOp .Eq) (rEqP X.K false) := by
  intro pins s σ H x y v u Q I rx ry h
  obtain ⟨d, e, hd, he, sd, se, q⟩ := h
  obtain ⟨as, r1⟩ := Dp.reads I d x v hd rx
  obtain ⟨bs, r2⟩ := Dp.reads I e y u he ry
  have h1 := fine_iff.mp sd
  have h2 := fine_iff.mp se
  exact SeqAt.eq_plain r1 r2 h1.1 h2.1 (by omega) ⟨.bl _, H, I, rfl, q⟩
theorem op_neP (hu : X.A.units + 64 < cLine) : OpR X (compareOp .NotEq) (rEqP X.K true) := by
  intro pins s σ H x y v u Q I rx ry h
  obtain ⟨d, e, hd, he, sd, se, q⟩ := h
  obtain ⟨as, r1⟩ := Dp.reads I d x v hd rx
  obtain ⟨bs, r2⟩ := Dp.reads I e y u he ry
  have h1 := fine_iff.mp sd
  have h2 := fine_iff.mp se
  exact SeqAt.ne_plain r1 r2 h1.1 h2.1 (by omega) ⟨.bl _, H, I, rfl, q⟩
theorem hF_eq {Hd H : Hp} {σ : L2.St} {x y : D} {v u : V} {Q : VK} (s : Same Hd H) (r1 : RpT X.K X.w Hd H v x) (r2 : RpT X.K X.w Hd H u y) (h : OkG (rlD X.K X.w) B W Hd H σ Q (eqD x y)) : rEqP X.K false v u H Q := by
  unfold eqD at h
  split at h
  case isFalse => exact no_elim h
  case isTrue hz =>
    rw [Bool.and_eq_true] at hz
    exact ⟨x, y, r1.dp s hz.1, r2.dp s hz.2, hz.1, hz.2, h.ok (Step.refl s) (.bl _)⟩
theorem hF_ne {Hd H : Hp} {σ : L2.St} {x y : D} {v u : V} {Q : VK} (s : Same Hd H) (r1 : RpT X.K X.w Hd H v x) (r2 : RpT X.K X.w Hd H u y) (h : OkG (rlD X.K X.w) B W Hd H σ Q (neD x y)) : rEqP X.K true v u H Q := by
  unfold neD at h
  split at h
  case isFalse => exact no_elim h
  case isTrue hz =>
    rw [Bool.and_eq_true] at hz
    exact ⟨x, y, r1.dp s hz.1, r2.dp s hz.2, hz.1, hz.2, h.ok (Step.refl s) (.bl _)⟩
theorem de_eq (hu : X.A.units + 64 < cLine) (ha : DT X B W a f1) (hb : DT X B W b f2) : DE X B W (.Compare a [.Eq] [b] pos) (fBin eqD f1 f2) := de_cmp (op_eqP hu) hF_eq ha hb (nomark _)
theorem de_ne (hu : X.A.units + 64 < cLine) (ha : DT X B W a f1) (hb : DT X B W b f2) : DE X B W (.Compare a [.NotEq] [b] pos) (fBin neD f1 f2) := de_cmp (op_neP hu) hF_ne ha hb (nomark _)
theorem db_eq (hu : X.A.units + 64 < cLine) (ha : DT X B W a f1) (hb : DT X B W b f2) : DB X B W (.Compare a [.Eq] [b] pos) (fB (fBin eqD f1 f2)) := db_cmp (op_eqP hu) hF_eq ha hb (nomark _)
theorem db_ne (hu : X.A.units + 64 < cLine) (ha : DT X B W a f1) (hb : DT X B W b f2) : DB X B W (.Compare a [.NotEq] [b] pos) (fB (fBin neD f1 f2)) := db_cmp (op_neP hu) hF_ne ha hb (nomark _)

/-! is None -/
def isNone : D → Bool
  | .none => true
  | _ => false
def isN (x y : D) : R D := if isNone y then .ok (.bool (isNone x)) else .no
def notN (x y : D) : R D := if isNone y then .ok (.bool (!isNone x)) else .no
theorem isNone_v {K : PySem.W.Frag} {w : World} {Hd H : Hp} {v : V} {d : D} (r : RpT K w Hd H v d) : decide (v = .non) = isNone d := by
  rcases r with r | ⟨p, vs, ds', rfl, rfl, h, a⟩ | ⟨p, o, ks, kvs, rfl, rfl, h, n, i, a⟩
  · cases r <;> rfl
  · rfl
  · rfl
theorem hF_isN {Hd H : Hp} {σ : L2.St} {x y : D} {v u : V} {Q : VK} (s : Same Hd H) (r1 : RpT X.K X.w Hd H v x) (r2 : RpT X.K X.w Hd H u y) (h : OkG (rlD X.K X.w) B W Hd H σ Q (isN x y)) : u = .non ∧ Q (.bl (decide (v = .non))) H := by
  unfold isN at h
  split at h
  case isFalse => exact no_elim h
  case isTrue hz =>
    refine ⟨of_decide_eq_true ((isNone_v r2).trans hz), ?_⟩
    rw [isNone_v r1]
    exact h.ok (Step.refl s) (.bl _)
theorem hF_notN {Hd H : Hp} {σ : L2.St} {x y : D} {v u : V} {Q : VK} (s : Same Hd H) (r1 : RpT X.K X.w Hd H v x) (r2 : RpT X.K X.w Hd H u y) (h : OkG (rlD X.K X.w) B W Hd H σ Q (notN x y)) : u = .non ∧ Q (.bl (!decide (v = .non))) H := by
  unfold notN at h
  split at h
  case isFalse => exact no_elim h
  case isTrue hz =>
    refine ⟨of_decide_eq_true ((isNone_v r2).trans hz), ?_⟩
    rw [isNone_v r1]
    exact h.ok (Step.refl s) (.bl _)
theorem de_isN (ha : DT X B W a f1) (hb : DT X B W b f2) : DE X B W (.Compare a [.Is] [b] pos) (fBin isN f1 f2) := de_cmp op_isN hF_isN ha hb (nomark _)
theorem de_notN (ha : DT X B W a f1) (hb : DT X B W b f2) : DE X B W (.Compare a [.IsNot] [b] pos) (fBin notN f1 f2) := de_cmp op_notN hF_notN ha hb (nomark _)
theorem db_isN (ha : DT X B W a f1) (hb : DT X B W b f2) : DB X B W (.Compare a [.Is] [b] pos) (fB (fBin isN f1 f2)) := db_cmp op_isN hF_isN ha hb (nomark _)
theorem db_notN (ha : DT X B W a f1) (hb : DT X B W b f2) : DB X B W (.Compare a [.IsNot] [b] pos) (fB (fBin notN f1 f2)) := db_cmp op_notN hF_notN ha hb (nomark _)

/-! in: a list or a tuple of data; one sign in a text -/
def inB : D → D → R Bool
  | d, .list ds => if fine d && fine (.list ds) then .ok (ds.any fun z => PyData.eqv z d) else .no
  | d, .tuple ds => if fine d && fine (.tuple ds) then .ok (ds.any fun z => PyData.eqv z d) else .no
  | .str x, .str y => if x.cps.size = 1 then .ok (decide (x.cps.getD 0 0 ∈ y.cps.toList)) else .no
  | _, _ => .no
def inD (x y : D) : R D := (inB x y).map .bool
def ninD (x y : D) : R D := (inB x y).map fun b => .bool (!b)
theorem one_sign {x : Str} (h : x.cps.size = 1) : x = ⟨#[x.cps.getD 0 0]⟩ := by
  obtain ⟨cps⟩ := x
  have h' : cps.size = 1 := h
  show (⟨cps⟩ : Str) = ⟨#[cps.getD 0 0]⟩
  congr 1
  apply Array.ext
  · simpa using h'
  · intro i h1 h2
    have : i = 0 := by omega
    subst this
    simp [Array.getD, h1]
def rInL (K : PySem.W.Frag) (neg : Bool) : R2 := fun x y H Q => ∃ d ds, Dp K H x d ∧ (Dp K H y (.list ds) ∨ Dp K H y (.tuple ds)) ∧ fine d = true ∧ PyData.plainAll ds = true ∧ Q (.bl (if neg then !ds.any (fun z => PyData.eqv z d) else ds.any fun z => PyData.eqv z d)) H
def rInA (K : PySem.W.Frag) (neg : Bool) : R2 := fun x y H Q =>
  rInL K neg x y H Q ∨ (∃ (c : Nat) (z : Str), x = .str ⟨#[c]⟩ ∧ y = .str z ∧ Q (.bl (if neg then !decide (c ∈ z.cps.toList) else decide (c ∈ z.cps.toList))) H)
theorem op_inL (hu : X.A.units + 65 < cLine) : OpR X (compareOp .In) (rInL X.K false) := by
  intro pins s σ H x y v u Q I rx ry h
  obtain ⟨d, ds, hd, he, sd, se, q⟩ := h
  have h1 := fine_iff.mp sd
  obtain ⟨as, r1⟩ := Dp.reads I d x v hd rx
  rcases he with he | he
  · obtain ⟨bs, r2⟩ := Dp.reads I _ y u he ry
    exact SeqAt.in_list_data r2 r1 se h1.1 (by omega) ⟨.bl _, H, I, rfl, q⟩
  · obtain ⟨bs, r2⟩ := Dp.reads I _ y u he ry
    exact SeqAt.in_tuple_data r2 r1 se h1.1 (by omega) ⟨.bl _, H, I, rfl, q⟩
theorem op_ninL (hu : X.A.units + 65 < cLine) : OpR X (compareOp .NotIn) (rInL X.K true) := by
  intro pins s σ H x y v u Q I rx ry h
  obtain ⟨d, ds, hd, he, sd, se, q⟩ := h
  have h1 := fine_iff.mp sd
  obtain ⟨as, r1⟩ := Dp.reads I d x v hd rx
  rcases he with he | he
  · obtain ⟨bs, r2⟩ := Dp.reads I _ y u he ry
    exact SeqAt.notIn_list_data r2 r1 se h1.1 (by omega) ⟨.bl _, H, I, rfl, q⟩
  · obtain ⟨bs, r2⟩ := Dp.reads I _ y u he ry
    exact SeqAt.notIn_tuple_data r2 r1 se h1.1 (by omega) ⟨.bl _, H, I, rfl, q⟩
theorem op_inA (hu : X.A.units + 65 < cLine) : OpR X (compareOp .In) (rInA X.K false) := OpR.or (op_inL hu) op_in_sign
theorem op_ninA (hu : X.A.units + 65 < cLine) : OpR X (compareOp .NotIn) (rInA X.K true) := OpR.or (op_ninL hu) op_notIn_sign
theorem hF_in (neg : Bool) {Hd H : Hp} {σ : L2.St} {x y : D} {v u : V} {Q : VK} (s : Same Hd H) (r1 : RpT X.K X.w Hd H v x) (r2 : RpT X.K X.w Hd H u y)
    (h : OkG (rlD X.K X.w) B W Hd H σ Q ((inB x y).map fun b => .bool (if neg then !b else b))) : rInA X.K neg v u H Q := by
  cases e : inB x y with
  | no => rw [e] at h; exact no_elim h
  | ex z =>
    exfalso
    unfold inB at e
    split at e
    · split at e <;> cases e
    · split at e <;> cases e
    · split at e <;> cases e
    · cases e
  | ok k =>
    rw [e] at h
    have fin : Q (.bl (if neg then !k else k)) H := h.ok (Step.refl s) (.bl _)
    unfold inB at e
    split at e
    · split at e
      case isFalse => cases e
      case isTrue hz =>
        rw [Bool.and_eq_true] at hz
        cases e
        exact .inl ⟨_, _, r1.dp s hz.1, .inl (r2.dp s hz.2), hz.1, by simpa [PyData.plain] using (fine_iff.mp hz.2).1, fin⟩
    · split at e
      case isFalse => cases e
      case isTrue hz =>
        rw [Bool.and_eq_true] at hz
        cases e
        exact .inl ⟨_, _, r1.dp s hz.1, .inr (r2.dp s hz.2), hz.1, by simpa [PyData.plain] using (fine_iff.mp hz.2).1, fin⟩
    · split at e
      case isFalse => cases e
      case isTrue hz =>
        cases e
        obtain rfl := r1.str
        obtain rfl := r2.str
        exact .inr ⟨_, _, by rw [← one_sign hz], rfl, fin⟩
    · cases e
theorem de_in (hu : X.A.units + 65 < cLine) (ha : DT X B W a f1) (hb : DT X B W b f2) (hm : behindInMarks .In b = false := by with_unfolding_all rfl) : DE X B W (.Compare a [.In] [b] pos) (fBin inD f1 f2) := de_cmp (op_inA hu) (fun s r1 r2 h => hF_in false s r1 r2 h) ha hb hm
theorem de_nin (hu : X.A.units + 65 < cLine) (ha : DT X B W a f1) (hb : DT X B W b f2) (hm : behindInMarks .NotIn b = false := by with_unfolding_all rfl) : DE X B W (.Compare a [.NotIn] [b] pos) (fBin ninD f1 f2) := de_cmp (op_ninA hu) (fun s r1 r2 h => hF_in true s r1 r2 h) ha hb hm
theorem db_in (hu : X.A.units + 65 < cLine) (ha : DT X B W a f1) (hb : DT X B W b f2) (hm : behindInMarks .In b = false := by with_unfolding_all rfl) : DB X B W (.Compare a [.In] [b] pos) (fB (fBin inD f1 f2)) := db_cmp (op_inA hu) (fun s r1 r2 h => hF_in false s r1 r2 h) ha hb hm
theorem db_nin (hu : X.A.units + 65 < cLine) (ha : DT X B W a f1) (hb : DT X B W b f2) (hm : behindInMarks .NotIn b = false := by with_unfolding_all rfl) : DB X B W (.Compare a [.NotIn] [b] pos) (fB (fBin ninD f1 f2)) := db_cmp (op_ninA hu) (fun s r1 r2 h => hF_in true s r1 r2 h) ha hb hm

/-! low <= thing <= high -/
def fChain (F G : D → D → R D) (f1 f2 f3 : Sg → R D) : Sg → R D := fun g => (f1 g).bind fun x => (f2 g).bind fun y => (F x y).bind fun z => (asB z).bind fun k => if k then (f3 g).bind fun u => G y u else .ok (.bool false)
theorem imp_chain {p q : Int → Int → Bool} {σ : L2.St} {H : Hp} {Q : VK} (h : tG X.K X.w (rlD X.K X.w) B W (fChain (cmpI p) (cmpI q) f1 f2 f3) σ H Q) :
    tChain (rI0 fun i j => .bl (p i j)) (rI0 fun i j => .bl (q i j)) (tG X.K X.w (rlT X.K X.w) B W f1) (tG X.K X.w (rlT X.K X.w) B W f2) (tG X.K X.w (rlT X.K X.w) B W f3) σ H Q := by
  obtain ⟨g, Hd, rep, h⟩ := h
  refine seq rep h fun x v Hd1 H1 _ s1 r1 rep1 h1 => seq rep1 h1 fun y u Hd2 H2 _ s2 r2 rep2 h2 => ?_
  have r1 := RpT.step s2 r1
  unfold cmpI at h2
  split at h2
  · obtain rfl := r1.int
    obtain rfl := r2.int
    refine ⟨_, _, rfl, rfl, _, rfl, ?_⟩
    simp only [R.bind_ok, asB] at h2
    split at h2
    case isTrue hz =>
      rw [if_pos hz]
      exact seq rep2 h2 fun z t Hd3 H3 _ s3 r3 rep3 h3 => hF_I rep3.same (.inl (.int _)) r3 h3
    case isFalse hz =>
      rw [if_neg hz]
      exact h2.ok (Step.refl rep2.same) (.bl _)
  · exact no_elim h2
theorem de_chain2 (ha : DT X B W a f1) (hb : DT X B W b f2) (hc : DT X B W c f3) (hm : lastMarks [.LtE, .LtE] [b, c] = false := by with_unfolding_all rfl) : DE X B W (.Compare a [.LtE, .LtE] [b, c] pos) (fChain leD leD f1 f2 f3) :=
  PE.imp (pe_chain op_le op_le ha hb hc hm) fun _ _ _ h => imp_chain h

/-! ### and, or, not -/
def fAndV (f1 f2 : Sg → R D) : Sg → R D := fun g => (f1 g).bind fun x => (asB x).bind fun k => if k then f2 g else .ok (.bool false)
def fOrV (f1 f2 : Sg → R D) : Sg → R D := fun g => (f1 g).bind fun x => (asB x).bind fun k => if k then .ok (.bool true) else f2 g
def fNotV (f1 : Sg → R D) : Sg → R D := fun g => (f1 g).bind fun x => (asB x).bind fun k => .ok (.bool (!k))
def fAnd (t1 t2 : Sg → R Bool) : Sg → R Bool := fun g => (t1 g).bind fun k => if k then t2 g else .ok false
def fOr (t1 t2 : Sg → R Bool) : Sg → R Bool := fun g => (t1 g).bind fun k => if k then .ok true else t2 g
def fNot (t1 : Sg → R Bool) : Sg → R Bool := fun g => (t1 g).map (!·)
theorem seqB {β α : Type} {rl : Rl β α} {Hd H : Hp} {σ : L2.St} {g : Sg} {Q : β → Hp → Prop} {f1 : Sg → R D} {k : Bool → R α} {P : V → Hp → Prop} {K : PySem.W.Frag} {w : World} {B : Bx} {W : WX} (rep : Rep K w B Hd H σ g) (h : OkG rl B W Hd H σ Q ((f1 g).bind fun x => (asB x).bind k))
    (hk : ∀ b Hd' H', Step Hd H Hd' H' → Rep K w B Hd' H' σ g → OkG rl B W Hd' H' σ Q (k b) → P (.bl b) H') : tG K w (rlD K w) B W f1 σ H P := by
  refine seq rep h fun x v Hd1 H1 _ s1 r1 rep1 h1 => ?_
  unfold asB at h1
  split at h1
  · cases r1
    exact hk _ _ _ s1 rep1 h1
  · exact no_elim h1
theorem de_and (ha : DE X B W a f1) (hb : DE X B W (.BoolOp .And (b :: rest) pos) f2) : DE X B W (.BoolOp .And (a :: b :: rest) pos) (fAndV f1 f2) := PE.imp (pe_and ha hb) fun σ H Q ⟨g, Hd, rep, h⟩ =>
  seqB rep h fun k Hd1 H1 s1 rep1 h1 => ⟨k, rfl, by
    cases k with
    | true => rw [if_pos rfl]; exact ⟨g, Hd1, rep1, h1⟩
    | false => rw [if_neg Bool.false_ne_true]; exact h1.ok (Step.refl rep1.same) (.bl _)⟩
theorem de_or (ha : DE X B W a f1) (hb : DE X B W (.BoolOp .Or (b :: rest) pos) f2) : DE X B W (.BoolOp .Or (a :: b :: rest) pos) (fOrV f1 f2) := PE.imp (pe_or ha hb) fun σ H Q ⟨g, Hd, rep, h⟩ =>
  seqB rep h fun k Hd1 H1 s1 rep1 h1 => ⟨k, rfl, by
    cases k with
    | true => rw [if_pos rfl]; exact h1.ok (Step.refl rep1.same) (.bl _)
    | false => rw [if_neg Bool.false_ne_true]; exact ⟨g, Hd1, rep1, h1⟩⟩
theorem de_one {op} (ha : DE X B W a f1) : DE X B W (.BoolOp op [a] pos) f1 := pe_one ha
theorem de_not (ha : DE X B W a f1) : DE X B W (.UnaryOp .Not a pos) (fNotV f1) := PE.imp (pe_not ha) fun σ H Q ⟨g, Hd, rep, h⟩ =>
  seqB rep h fun k Hd1 H1 s1 rep1 h1 => ⟨k, rfl, h1.ok (Step.refl rep1.same) (.bl _)⟩
theorem dw_and (ha : DB X B W a t1) (hb : DW X B W (.BoolOp .And (b :: rest) pos) t2) : DW X B W (.BoolOp .And (a :: b :: rest) pos) (fAnd t1 t2) := PW.imp (pw_and ha hb) fun σ H Q ⟨g, Hd, rep, h⟩ =>
  seq rep h fun k v Hd1 H1 _ s1 r1 rep1 h1 => by
    cases (show v = k from r1)
    cases k with
    | true => rw [if_pos rfl]; exact ⟨g, Hd1, rep1, h1⟩
    | false => rw [if_neg Bool.false_ne_true]; exact h1.ok (Step.refl rep1.same) rfl
theorem dw_or (ha : DB X B W a t1) (hb : DW X B W (.BoolOp .Or (b :: rest) pos) t2) : DW X B W (.BoolOp .Or (a :: b :: rest) pos) (fOr t1 t2) := PW.imp (pw_or ha hb) fun σ H Q ⟨g, Hd, rep, h⟩ =>
  seq rep h fun k v Hd1 H1 _ s1 r1 rep1 h1 => by
    cases (show v = k from r1)
    cases k with
    | true => rw [if_pos rfl]; exact h1.ok (Step.refl rep1.same) rfl
    | false => rw [if_neg Bool.false_ne_true]; exact ⟨g, Hd1, rep1, h1⟩
theorem dw_and1 (ha : DB X B W a t1) : DW X B W (.BoolOp .And [a] pos) t1 := pw_and1 ha
theorem dw_or1 (ha : DB X B W a t1) : DW X B W (.BoolOp .Or [a] pos) t1 := pw_or1 ha
theorem db_w (h : DW X B W e t1) : DB X B W e t1 := PW.pt h
theorem db_not (ha : DB X B W a t1) : DB X B W (.UnaryOp .Not a pos) (fNot t1) := PT.imp (pt_not ha) fun σ H Q ⟨g, Hd, rep, h⟩ =>
  ⟨g, Hd, rep, OkG.map h fun k v Hd' H' t r q => by
    cases (show v = k from r)
    exact q.ok t rfl⟩

/-! truth -/
def truD : D → R Bool
  | .none => .ok false
  | .bool b => .ok b
  | .int i => .ok (i != 0)
  | .list ds => .ok (!ds.isEmpty)
  | .tuple ds => .ok (!ds.isEmpty)
  | _ => .no
def fTru (f : Sg → R D) : Sg → R Bool := fun g => (f g).bind truD
theorem isEmpty_len {α β : Type} {xs : List α} {ys : List β} (h : xs.length = ys.length) : xs.isEmpty = ys.isEmpty := by
  cases xs <;> cases ys <;> first | rfl | simp at h
theorem db_tru (ha : DT X B W a f1) (he : ∀ whole, isTrue a X.env whole = (do let v ← whole; standAt a.pos; holding [v] (truthy v)) := by intro _; rfl) : DB X B W a (fTru f1) := PT.imp (pt_truth ha he) fun σ H Q ⟨g, Hd, rep, h⟩ =>
  seq rep h fun x v Hd1 H1 _ s1 r1 rep1 h1 => by
    unfold truD at h1
    have r1 : RpT X.K X.w Hd1 H1 v x := r1
    split at h1
    · obtain rfl := r1.non
      exact ⟨false, rfl, h1.ok (Step.refl rep1.same) rfl⟩
    · obtain rfl := r1.bl
      exact ⟨_, rfl, h1.ok (Step.refl rep1.same) rfl⟩
    · obtain rfl := r1.int
      exact ⟨_, rfl, h1.ok (Step.refl rep1.same) rfl⟩
    · obtain ⟨p, vs, rfl, hp, ra⟩ := r1.list rep1.same
      exact ⟨!vs.isEmpty, .inl ⟨vs, .of hp, rfl⟩, h1.ok (Step.refl rep1.same) (by show (!vs.isEmpty) = _; rw [isEmpty_len ra.length])⟩
    · obtain ⟨p, vs, rfl, hp, ra⟩ := r1.tup rep1.same
      exact ⟨!vs.isEmpty, .inr (.inl ⟨vs, hp.sq, rfl⟩), h1.ok (Step.refl rep1.same) (by show (!vs.isEmpty) = _; rw [isEmpty_len ra.length])⟩
    · exact no_elim h1
end
end G
end

section
set_option Elab.async false
set_option linter.all false
set_option maxRecDepth 100000
set_option maxHeartbeats 4000000
/-! G4: subscripts, slices, displays, arguments, calls of built-ins. -/
namespace G
open PySem PySem.Spec PyProof.Rows L2
section
variable {X : Cx} {B : Bx} {W : WX} {e a b c : Expr} {es rest : List Expr} {pos p2 : Pos} {f f1 f2 f3 : Sg → R D} {t1 t2 : Sg → R Bool}

/-! ### subscripts -/
/-- the script, a list of ints: by itself in data -/
def scrD (ns : List Int) : D := .dict [(.none, .list (ns.map .int))]
def ixD : D → D → R D
  | .list ds, .int i => R.ofO (atI ds i)
  | .tuple ds, .int i => R.ofO (atI ds i)
  | .str x, .int i => if x.length ≤ big then (R.ofO (atI x.cps.toList i)).map fun c => .str ⟨#[c]⟩ else .no
  | .dict [(.none, .list ds)], .int i => R.ofO (atI ds i)
  | _, _ => .no
theorem at_all {K : PySem.W.Frag} {w : World} {H : Hp} {vs : List V} {ds : List D} {i : Int} {d : D} (r : RpAll K w H vs ds) (h : atI ds i = some d) : ∃ v, atI vs i = some v ∧ Rp K w H v d := by
  unfold atI at h ⊢
  rw [r.length]
  cases e : ixN ds.length i with
  | none => rw [e] at h; cases h
  | some j =>
    rw [e] at h
    obtain ⟨v, h1, h2⟩ := r.get (show ds[j]? = some d from h)
    exact ⟨v, h1, h2⟩
theorem de_ix (ha : DT X B W a f1) (hb : DT X B W b f2) (hs : PlainIx b := by exact fun _ _ => rfl) : DE X B W (.Subscript a b pos) (fBin ixD f1 f2) := PE.imp (pe_ix ix_seq ha hb hs) fun _ _ _ h => imp_bin (fun {Hd H σ x y v u Q} s r1 r2 h => by
  unfold ixD at h
  split at h
  · obtain ⟨p, vs, ev, hp, ra⟩ := r1.list s
    subst ev
    obtain rfl := r2.int
    rename_i ds i
    cases e : atI ds i with
    | none => rw [e] at h; exact no_elim h
    | some d =>
      rw [e] at h
      obtain ⟨v, h1, h2⟩ := at_all ra e
      exact .inl ⟨p, vs, i, v, rfl, rfl, .of hp, h1, h.ok (Step.refl s) h2⟩
  · obtain ⟨p, vs, ev, hp, ra⟩ := r1.tup s
    subst ev
    obtain rfl := r2.int
    rename_i ds i
    cases e : atI ds i with
    | none => rw [e] at h; exact no_elim h
    | some d =>
      rw [e] at h
      obtain ⟨v, h1, h2⟩ := at_all ra e
      exact .inr (.inl ⟨p, vs, i, v, rfl, rfl, hp.sq, h1, h.ok (Step.refl s) h2⟩)
  · split at h
    case isFalse => exact no_elim h
    case isTrue hz =>
      obtain rfl := r1.str
      obtain rfl := r2.int
      rename_i x i
      cases e : atI x.cps.toList i with
      | none => rw [e] at h; exact no_elim h
      | some c =>
        rw [e] at h
        exact .inr (.inr ⟨x, i, c, rfl, rfl, big_le hz, e, h.ok (Step.refl s) (.str _)⟩)
  · obtain rfl := r2.int
    rename_i ds i
    cases e : atI ds i with
    | none => rw [e] at h; exact no_elim h
    | some d =>
      rw [e] at h
      rcases r1 with r1 | ⟨_, _, _, _, e2, _⟩ | ⟨p, o, ks, kvs, rfl, e2, h1, h2, h3, h4⟩
      · generalize eq : [((.none : D), PyData.list ds)] = kv at r1
        cases r1 with
        | @scr a ns hs =>
          have e3 : ds = ns.map .int := by
            injection eq with e4 _
            injection e4 with _ e5
            injection e5
          subst e3
          obtain ⟨v, h1, h2⟩ := at_all (RpAll.of_ints (K := X.K) (w := X.w) (H := Hd) ns) e
          exact .inl ⟨a, _, i, v, rfl, rfl, Same.seq s hs, h1, h.ok (Step.refl s) h2⟩
        | loose h1 h2 =>
          injection eq with e4 _
          injection e4 with e5 _
          cases e5
        | dct h1 h2 h3 h4 =>
          subst eq
          cases h4 with
          | cons hk _ _ _ => cases hk
      · cases e2
      · cases e2
        cases h4 with
        | cons hk _ _ _ => cases hk
  · exact no_elim h) h

/-! ### slices -/
def cutL {α : Type} (xs : List α) (lo hi : Option Int) : List α := (xs.drop (HT.sIx xs.length 0 lo)).take (HT.sIx xs.length xs.length hi - HT.sIx xs.length 0 lo)
def rlI : Rl (Option Int) (Option Int) := ⟨fun _ _ _ b a => b = a, fun _ h => h⟩
abbrev DP (X : Cx) (B : Bx) (W : WX) (e : Option Expr) (f : Sg → R (Option Int)) : Prop := PO X e (tG X.K X.w rlI B W f)
def fNone : Sg → R (Option Int) := fun _ => .ok none
def fSome (f : Sg → R D) : Sg → R (Option Int) := fun g => (f g).bind fun
  | .int i => .ok (some i)
  | _ => .no
theorem PO.imp {eo : Option Expr} {t t' : TO} (h : PO X eo t) (i : ∀ σ H Q, t' σ H Q → t σ H Q) : PO X eo t' := by
  obtain ⟨h⟩ := h
  constructor
  intros
  exact h _ _ _ _ _ ‹_› (i _ _ _ ‹_›)
theorem dp_none : DP X B W none fNone := PO.imp po_none fun σ H Q ⟨g, Hd, rep, h⟩ => h.ok (Step.refl rep.same) rfl
theorem dp_some (ha : DT X B W a f1) : DP X B W (some a) (fSome f1) := PO.imp (po_some ha) fun σ H Q ⟨g, Hd, rep, h⟩ => seq rep h fun x v Hd1 H1 _ s1 r1 rep1 h1 => by
  have r1 : RpT X.K X.w Hd1 H1 v x := r1
  split at h1
  · obtain rfl := r1.int
    exact ⟨_, rfl, h1.ok (Step.refl rep1.same) rfl⟩
  · exact no_elim h1
def slD : D → Option Int → Option Int → R D
  | .list ds, lo, hi => .ok (.list (cutL ds lo hi))
  | .tuple ds, lo, hi => .ok (.tuple (cutL ds lo hi))
  | .str x, lo, hi => if x.length ≤ big then .ok (.str (cutS x lo hi)) else .no
  | _, _, _ => .no
def fSl (f : Sg → R D) (fl fh : Sg → R (Option Int)) : Sg → R D := fun g => (f g).bind fun x => (fl g).bind fun l => (fh g).bind fun h => slD x l h
theorem cut_all {K : PySem.W.Frag} {w : World} {H : Hp} {vs : List V} {ds : List D} (r : RpAll K w H vs ds) (lo hi : Option Int) : RpAll K w H (cutV vs lo hi) (cutL ds lo hi) := by
  unfold cutV cutL
  rw [r.length]
  exact (r.drop _).take _
theorem de_sl {lo hi : Option Expr} {fl fh : Sg → R (Option Int)} (ha : DT X B W a f1) (hl : DP X B W lo fl) (hh : DP X B W hi fh) : DE X B W (.Subscript a (.Slice lo hi none p2) pos) (fSl f1 fl fh) :=
  PE.imp (pe_slice (SlR.or sl_list (SlR.or sl_tupF sl_str)) ha hl hh) fun σ H Q ⟨g, Hd, rep, h⟩ => seq rep h fun x v Hd1 H1 _ s1 r1 rep1 h1 => seq rep1 h1 fun l l' Hd2 H2 _ s2 r2 rep2 h2 => seq rep2 h2 fun u u' Hd3 H3 _ s3 r3 rep3 h3 => by
    have r1 : RpT X.K X.w Hd1 H1 v x := r1
    have r1 := RpT.step s3 (RpT.step s2 r1)
    obtain rfl : l = l' := (show l' = l from r2).symm
    obtain rfl : u = u' := (show u' = u from r3).symm
    have s := rep3.same
    unfold slD at h3
    split at h3
    · obtain ⟨p, vs, ev, hp, ra⟩ := r1.list s
      subst ev
      refine .inl ⟨p, vs, rfl, .of hp, fun q hq => ?_⟩
      have t := Step.new (o := .lst (cutV vs l u)) s hq
      exact h3.ok t (.lst upd_same ((cut_all ra _ _).mono t.d))
    · obtain ⟨p, vs, ev, hp, ra⟩ := r1.tup s
      subst ev
      refine .inr (.inl ⟨p, vs, rfl, hp.sq, fun hw => ?_, fun _ q o hd hq => ?_⟩)
      · have e : ∀ ds : List D, vs.length = ds.length → cutL ds l u = ds := fun ds hl => by
          unfold cutL
          rw [← hl, hw.1, hw.2]
          simp [hl]
        rw [e _ ra.length] at h3
        exact h3.ok (Step.refl s) r1.tupR
      · have t := Step.new (o := .frz o (.tup (cutV vs l u))) s hq
        exact h3.ok t (.tup ⟨o, upd_same, hd⟩ ((cut_all ra _ _).mono t.d))
    · split at h3
      case isFalse => exact no_elim h3
      case isTrue hz =>
        obtain rfl := r1.str
        exact .inr (.inr ⟨_, rfl, big_le hz, h3.ok (Step.refl s) (.str _)⟩)
    · exact no_elim h3

/-! ### arguments, displays -/
def fNil : Sg → R (List D) := fun _ => .ok []
def fCons (f : Sg → R D) (fs : Sg → R (List D)) : Sg → R (List D) := fun g => (f g).bind fun x => (fs g).bind fun xs => .ok (x :: xs)
theorem da_nil : DA X B W [] fNil := PA.imp pa_nil fun σ H Q ⟨g, Hd, rep, h⟩ => h.ok (Step.refl rep.same) .nil
theorem da_cons {fs : Sg → R (List D)} (ha : DE X B W e f) (hr : DA X B W es fs) (hs : starEach (e :: es) X.env = (false, eval e X.env) :: starEach es X.env := by rfl) : DA X B W (e :: es) (fCons f fs) :=
  PA.imp (pa_cons ha hr hs) fun σ H Q ⟨g, Hd, rep, h⟩ => seq rep h fun x v Hd1 H1 _ s1 r1 rep1 h1 => seq rep1 h1 fun xs vs Hd2 H2 _ s2 r2 rep2 h2 => h2.ok (Step.refl rep2.same) (.cons (Rp.mono s2.d r1) r2)
def fTup (fs : Sg → R (List D)) : Sg → R D := fun g => (fs g).bind fun xs => if xs.length ≤ big then .ok (.tuple xs) else .no
def fLst (fs : Sg → R (List D)) : Sg → R (List D) := fun g => (fs g).bind fun xs => if xs.length ≤ big then .ok xs else .no
theorem de_tup {x1} {fs : Sg → R (List D)} (h : DA X B W es fs) : DE X B W (.Tuple es x1 pos) (fTup fs) := PE.imp (pe_tupF h) fun σ H Q ⟨g, Hd, rep, h⟩ => seq rep h fun xs vs Hd1 H1 _ s1 r1 rep1 h1 => by
  have r1 : RpAll X.K X.w Hd1 vs xs := r1
  split at h1
  case isFalse => exact no_elim h1
  case isTrue hz =>
    refine ⟨by rw [r1.length]; exact big_le hz, fun p o hd hp => ?_⟩
    have t := Step.new (o := .frz o (.tup vs)) rep1.same hp
    exact h1.ok t (.tup ⟨o, upd_same, hd⟩ (r1.mono t.d))
theorem do_lst {fs : Sg → R (List D)} (h : DA X B W es fs) : DO X B W (.List es pos) (fLst fs) := PE.imp (pe_lst h) fun σ H Q ⟨g, Hd, rep, h⟩ => seq rep h fun xs vs Hd1 H1 _ s1 r1 rep1 h1 => by
  have r1 : RpAll X.K X.w Hd1 vs xs := r1
  split at h1
  case isFalse => exact no_elim h1
  case isTrue hz =>
    refine ⟨by rw [r1.length]; exact big_le hz, fun p hp => ?_⟩
    have t := Step.own (o := .lst vs) rep1.same hp
    exact h1.ok t ⟨p, vs, rfl, hp, rep1.same.free hp, upd_same, r1⟩
theorem de_neg (ha : DT X B W a f1) : DE X B W (.UnaryOp .USub a pos) (fun g => (f1 g).bind fun
    | .int i => .ok (.int (-i))
    | _ => .no) := PE.imp (pe_un un_neg ha) fun σ H Q ⟨g, Hd, rep, h⟩ => seq rep h fun x v Hd1 H1 _ s1 r1 rep1 h1 => by
  have r1 : RpT X.K X.w Hd1 H1 v x := r1
  split at h1
  · obtain rfl := r1.int
    exact ⟨_, rfl, h1.ok (Step.refl rep1.same) (.int _)⟩
  · exact no_elim h1

/-! ### calls of built-ins -/
def fUn {α : Type} (F : D → R α) (f : Sg → R D) : Sg → R α := fun g => (f g).bind F
section
variable {x : Str} {p : Pos} {id T : String} {r : List V → Hp → VK → Prop} {α : Type} {rl : Rl V α}
theorem imp_c1 {F : D → R α} (hF : ∀ {Hd H σ x v} {Q : VK}, Same Hd H → RpT X.K X.w Hd H v x → OkG rl B W Hd H σ Q (F x) → r [v] H Q) {σ : L2.St} {H : Hp} {Q : VK} (h : tG X.K X.w rl B W (fUn F f1) σ H Q) :
    tCB r (tCons (tG X.K X.w (rlT X.K X.w) B W f1) tNil) σ H Q := by
  obtain ⟨g, Hd, rep, h⟩ := h
  exact seq rep h fun x v Hd1 H1 _ s1 r1 rep1 h1 => hF rep1.same r1 h1
theorem dr_callB1 {F : D → R α} (hc : CallR X (.builtin id) r) (hF : ∀ {Hd H σ x v} {Q : VK}, Same Hd H → RpT X.K X.w Hd H v x → OkG rl B W Hd H σ Q (F x) → r [v] H Q) (hg : Gl X x) (hm : X.mg x = none) (hv : bootBuiltins x = some (.builtin id)) (ha : DT X B W a f1)
    (hn : x ≠ "__name__" := by decide) (hdb : (x == ("__debug__" : Str)) = false := by decide) (he : starEach [a] X.env = (false, eval a X.env) :: starEach [] X.env := by rfl) (hpl : (backTo pos (starEach [] X.env)).any (·.1) = false := by rfl) :
    PE X (.Call (.Name x p) [a] [] pos) (tG X.K X.w rl B W (fUn F f1)) := PE.imp (pe_callB hc hg hm hv (pa_cons ha pa_nil he) hn hdb he hpl) fun _ _ _ h => imp_c1 hF h
theorem dr_callT1 {F : D → R α} (hc : CallR X (.type T) r) (hF : ∀ {Hd H σ x v} {Q : VK}, Same Hd H → RpT X.K X.w Hd H v x → OkG rl B W Hd H σ Q (F x) → r [v] H Q) (hg : Gl X x) (hm : X.mg x = none) (hv : bootBuiltins x = some (.type T)) (ha : DT X B W a f1)
    (hn : x ≠ "__name__" := by decide) (hdb : (x == ("__debug__" : Str)) = false := by decide) (he : starEach [a] X.env = (false, eval a X.env) :: starEach [] X.env := by rfl) (hpl : (backTo pos (starEach [] X.env)).any (·.1) = false := by rfl) :
    PE X (.Call (.Name x p) [a] [] pos) (tG X.K X.w rl B W (fUn F f1)) := PE.imp (pe_callTy hc hg hm hv (pa_cons ha pa_nil he) hn hdb he hpl) fun _ _ _ h => imp_c1 hF h
end
section
variable {p : Pos}
theorem CallR.or' {f : Value} {r r' : List V → Hp → VK → Prop} (h : CallR X f r) (h' : CallR X f r') : CallR X f (fun xs H Q => r xs H Q ∨ r' xs H Q) := fun pins s σ H xs us Q I rv q => by
  rcases q with q | q
  · exact h pins s σ H xs us Q I rv q
  · exact h' pins s σ H xs us Q I rv q
/-- len of a text, a list, a tuple, the script -/
def lenD : D → R D
  | .str x => if x.length ≤ big then .ok (.int x.length) else .no
  | .list ds => .ok (.int ds.length)
  | .tuple ds => .ok (.int ds.length)
  | .dict [(.none, .list ds)] => .ok (.int ds.length)
  | _ => .no
theorem rp_scr {K : PySem.W.Frag} {w : World} {Hd H : Hp} {v : V} {ds : List D} (r : RpT K w Hd H v (.dict [(.none, .list ds)])) : ∃ (a : Addr) (ns : List Int), v = .ref a ∧ ds = ns.map .int ∧ SqL K Hd a (ns.map V.int) := by
  rcases r with r | ⟨_, _, _, _, e2, _⟩ | ⟨p, o, ks, kvs, rfl, e2, h1, h2, h3, h4⟩
  · generalize eq : [((.none : D), PyData.list ds)] = kv at r
    cases r with
    | @scr a ns hs =>
      have e3 : ds = ns.map .int := by
        injection eq with e4 _
        injection e4 with _ e5
        injection e5
      exact ⟨a, ns, rfl, e3, hs⟩
    | loose h1 h2 =>
      injection eq with e4 _
      injection e4 with e5 _
      cases e5
    | dct h1 h2 h3 h4 =>
      subst eq
      cases h4 with
      | cons hk _ _ _ => cases hk
  · cases e2
  · cases e2
    cases h4 with
    | cons hk _ _ _ => cases hk
theorem de_len (hg : Gl X "len") (hm : X.mg "len" = none) (ha : DT X B W a f1) (he : starEach [a] X.env = (false, eval a X.env) :: starEach [] X.env := by rfl) (hpl : (backTo pos (starEach [] X.env)).any (·.1) = false := by rfl) :
    DE X B W (.Call (.Name "len" p) [a] [] pos) (fUn lenD f1) := dr_callB1 call_len (fun {Hd H σ x v Q} s r1 h => by
  unfold lenD at h
  split at h
  · split at h
    case isFalse => exact no_elim h
    case isTrue hz =>
      obtain rfl := r1.str
      exact ⟨_, _, rfl, ⟨big_le hz, rfl⟩, h.ok (Step.refl s) (.int _)⟩
  · obtain ⟨p, vs, rfl, hp, ra⟩ := r1.list s
    exact ⟨_, _, rfl, .inl ⟨vs, .of hp, ra.length.symm⟩, h.ok (Step.refl s) (.int _)⟩
  · obtain ⟨p, vs, rfl, hp, ra⟩ := r1.tup s
    exact ⟨_, _, rfl, .inr ⟨vs, hp.sq, ra.length.symm⟩, h.ok (Step.refl s) (.int _)⟩
  · obtain ⟨a, ns, rfl, rfl, hs⟩ := rp_scr r1
    exact ⟨_, _, rfl, .inl ⟨_, s.seq hs, by rw [List.length_map, List.length_map]⟩, h.ok (Step.refl s) (.int _)⟩
  · exact no_elim h) hg hm PySem.boot_len ha (he := he) (hpl := hpl)
def tupleD : D → R D
  | .list ds => if ds.length ≤ big then .ok (.tuple ds) else .no
  | .tuple ds => .ok (.tuple ds)
  | _ => .no
theorem boot_tuple : bootBuiltins "tuple" = some (.type "tuple") := by decide +kernel
theorem boot_list : bootBuiltins "list" = some (.type "list") := by decide +kernel
theorem boot_str : bootBuiltins "str" = some (.type "str") := by decide +kernel
theorem boot_int : bootBuiltins "int" = some (.type "int") := by decide +kernel
theorem boot_bool : bootBuiltins "bool" = some (.type "bool") := by decide +kernel
theorem boot_isi : bootBuiltins "isinstance" = some (.builtin "isinstance") := by decide +kernel
theorem boot_sum : bootBuiltins "sum" = some (.builtin "sum") := by decide +kernel
theorem boot_min : bootBuiltins "min" = some (.builtin "min") := by decide +kernel
theorem boot_max : bootBuiltins "max" = some (.builtin "max") := by decide +kernel
theorem boot_sorted : bootBuiltins "sorted" = some (.builtin "sorted") := by decide +kernel
theorem de_tuple (hg : Gl X "tuple") (hm : X.mg "tuple" = none) (ha : DT X B W a f1) (he : starEach [a] X.env = (false, eval a X.env) :: starEach [] X.env := by rfl) (hpl : (backTo pos (starEach [] X.env)).any (·.1) = false := by rfl) :
    DE X B W (.Call (.Name "tuple" p) [a] [] pos) (fUn tupleD f1) := dr_callT1 call_tuple_ofF (fun {Hd H σ x v Q} s r1 h => by
  unfold tupleD at h
  split at h
  · split at h
    case isFalse => exact no_elim h
    case isTrue hz =>
      obtain ⟨p, vs, rfl, hp, ra⟩ := r1.list s
      refine ⟨p, vs, rfl, .inl ⟨.of hp, fun l o hd hl => ?_⟩⟩
      have t := Step.new (o := .frz o (.tup vs)) s hl
      exact h.ok t (.tup ⟨o, upd_same, hd⟩ (ra.mono t.d))
  · obtain ⟨p, vs, ev, hp, ra⟩ := r1.tup s
    subst ev
    exact ⟨p, vs, rfl, .inr ⟨hp.sq, h.ok (Step.refl s) r1.tupR⟩⟩
  · exact no_elim h) hg hm boot_tuple ha (he := he) (hpl := hpl)
def listD : D → R (List D)
  | .list ds => .ok ds
  | .tuple ds => .ok ds
  | _ => .no
theorem do_list (hg : Gl X "list") (hm : X.mg "list" = none) (ha : DT X B W a f1) (he : starEach [a] X.env = (false, eval a X.env) :: starEach [] X.env := by rfl) (hpl : (backTo pos (starEach [] X.env)).any (·.1) = false := by rfl) :
    DO X B W (.Call (.Name "list" p) [a] [] pos) (fUn listD f1) := dr_callT1 call_list_of (fun {Hd H σ x v Q} s r1 h => by
  unfold listD at h
  split at h
  · obtain ⟨p, vs, rfl, hp, ra⟩ := r1.list s
    refine ⟨p, vs, rfl, .inl (.of hp), fun l hl => ?_⟩
    exact h.ok (Step.own s hl) ⟨l, vs, rfl, hl, s.free hl, upd_same, ra⟩
  · obtain ⟨p, vs, rfl, hp, ra⟩ := r1.tup s
    refine ⟨p, vs, rfl, .inr hp.sq, fun l hl => ?_⟩
    exact h.ok (Step.own s hl) ⟨l, vs, rfl, hl, s.free hl, upd_same, ra⟩
  · exact no_elim h) hg hm boot_list ha (he := he) (hpl := hpl)
def strD : D → R D
  | .int i => if i.natAbs < 1000000 then .ok (.str (toString i)) else .no
  | _ => .no
theorem log_small {n : Nat} (h : n < 1000000) : n.log2 < 1920 := by
  rcases Nat.eq_zero_or_pos n with e | hp
  · subst e; decide
  · exact (Nat.log2_lt (by omega)).mpr (Nat.lt_of_lt_of_le h (by
      have : (1000000 : Nat) ≤ 2 ^ 20 := by decide
      exact Nat.le_trans this (Nat.pow_le_pow_right (by decide) (by decide))))
theorem de_strI (hg : Gl X "str") (hm : X.mg "str" = none) (ha : DT X B W a f1) (he : starEach [a] X.env = (false, eval a X.env) :: starEach [] X.env := by rfl) (hpl : (backTo pos (starEach [] X.env)).any (·.1) = false := by rfl) :
    DE X B W (.Call (.Name "str" p) [a] [] pos) (fUn strD f1) := dr_callT1 call_str_int (fun {Hd H σ x v Q} s r1 h => by
  unfold strD at h
  split at h
  · split at h
    case isFalse => exact no_elim h
    case isTrue hz =>
      obtain rfl := r1.int
      exact ⟨_, rfl, log_small hz, h.ok (Step.refl s) (.str _)⟩
  · exact no_elim h) hg hm boot_str ha (he := he) (hpl := hpl)
def intD : D → R D
  | .int i => .ok (.int i)
  | .bool b => .ok (.int (if b then 1 else 0))
  | _ => .no
theorem de_intB (hg : Gl X "int") (hm : X.mg "int" = none) (ha : DT X B W a f1) (he : starEach [a] X.env = (false, eval a X.env) :: starEach [] X.env := by rfl) (hpl : (backTo pos (starEach [] X.env)).any (·.1) = false := by rfl) :
    DE X B W (.Call (.Name "int" p) [a] [] pos) (fUn intD f1) := dr_callT1 call_int1 (fun {Hd H σ x v Q} s r1 h => by
  unfold intD at h
  split at h
  · obtain rfl := r1.int
    exact .inl ⟨_, rfl, h.ok (Step.refl s) (.int _)⟩
  · obtain rfl := r1.bl
    exact .inr ⟨_, rfl, h.ok (Step.refl s) (.int _)⟩
  · exact no_elim h) hg hm boot_int ha (he := he) (hpl := hpl)

/-! isinstance -/
def tyN : D → String
  | .none => "NoneType"
  | .bool _ => "bool"
  | .int _ => "int"
  | .str _ => "str"
  | .list _ => "list"
  | .tuple _ => "tuple"
  | .dict _ => "dict"
def isiD (T : String) (d : D) : Bool := tyN d == T || (T == "int" && tyN d == "bool")
def noDict : D → Bool
  | .dict _ => false
  | _ => true
def fIsi (T : String) (f : Sg → R D) : Sg → R D := fUn (fun d => if noDict d then .ok (.bool (isiD T d)) else .no) f
theorem tyx_of {K : PySem.W.Frag} {w : World} {Hd H : Hp} {v : V} {d : D} (s : Same Hd H) (r : RpT K w Hd H v d) (n : noDict d = true) : TyX K H v (.type (tyN d)) := by
  cases d with
  | none => obtain rfl := r.non; exact .base .non
  | bool b => obtain rfl := r.bl; exact .base (.bl b)
  | int i => obtain rfl := r.int; exact .base (.int i)
  | str x => obtain rfl := r.str; exact .base (.str x)
  | list ds => obtain ⟨p, vs, rfl, hp, _⟩ := r.list s; exact .base (.lst hp)
  | tuple ds => obtain ⟨p, vs, rfl, ⟨o, hp, _⟩, _⟩ := r.tup s; exact .fTuple hp
  | dict _ => cases n
theorem kit_int : ∀ T ∈ ["NoneType", "bool", "int", "str", "list", "tuple"], kitB T "int" = some (T == "int" || ("int" == "int" && T == "bool")) := by decide +kernel
theorem kit_bool : ∀ T ∈ ["NoneType", "bool", "int", "str", "list", "tuple"], kitB T "bool" = some (T == "bool" || ("bool" == "int" && T == "bool")) := by decide +kernel
theorem kit_tuple : ∀ T ∈ ["NoneType", "bool", "int", "str", "list", "tuple"], kitB T "tuple" = some (T == "tuple" || ("tuple" == "int" && T == "bool")) := by decide +kernel
theorem kit_list : ∀ T ∈ ["NoneType", "bool", "int", "str", "list", "tuple"], kitB T "list" = some (T == "list" || ("list" == "int" && T == "bool")) := by decide +kernel
theorem kit_str : ∀ T ∈ ["NoneType", "bool", "int", "str", "list", "tuple"], kitB T "str" = some (T == "str" || ("str" == "int" && T == "bool")) := by decide +kernel
theorem tyN_mem {d : D} (n : noDict d = true) : tyN d ∈ ["NoneType", "bool", "int", "str", "list", "tuple"] := by
  cases d <;> first | (simp [tyN]; done) | cases n
theorem de_isi {T : String} {x : Str} {px : Pos} (hk : ∀ N ∈ ["NoneType", "bool", "int", "str", "list", "tuple"], kitB N T = some (N == T || (T == "int" && N == "bool"))) (hb : bootBuiltins x = some (.type T)) (hg : Gl X "isinstance") (hm : X.mg "isinstance" = none) (hgx : Gl X x) (hmx : X.mg x = none) (ha : DT X B W a f1)
    (hn : x ≠ "__name__" := by decide) (hdb : (x == ("__debug__" : Str)) = false := by decide)
    (he : starEach [a, .Name x px] X.env = (false, eval a X.env) :: starEach [.Name x px] X.env := by rfl) (he2 : starEach [.Name x px] X.env = (false, eval (.Name x px) X.env) :: starEach [] X.env := by rfl) (hpl : (backTo pos (starEach [.Name x px] X.env)).any (·.1) = false := by rfl) :
    DE X B W (.Call (.Name "isinstance" p) [a, .Name x px] [] pos) (fIsi T f1) :=
  PE.imp (pe_callB call_isi hg hm boot_isi (pa_cons ha (pa_cons (pe_bltn (v := .ty T) hgx hmx hb rfl hn hdb) pa_nil he2) he) (he := he) (hpl := hpl)) fun σ H Q ⟨g, Hd, rep, h⟩ => seq rep h fun x v Hd1 H1 _ s1 r1 rep1 h1 => by
    split at h1
    case isFalse => exact no_elim h1
    case isTrue hz => exact ⟨v, _, _, _, _, rfl, .ty T, tyx_of rep1.same r1 hz, kit_ty (hk _ (tyN_mem hz)), h1.ok (Step.refl rep1.same) (.bl _)⟩
end
end
end G
end

section
set_option Elab.async false
set_option linter.all false
set_option maxRecDepth 100000
set_option maxHeartbeats 4000000
/-! G5: states turn; statements. -/
namespace G
open PySem PySem.Spec PyProof.Rows L2

section
variable {K : PySem.W.Frag} {w : World} {B : Bx} {Hd H Hd1 H1 : Hp} {σ : L2.St} {g : Sg}
theorem join_set_ne {σ : L2.St} {i j : Nat} {o : Option V} (h : j ≠ i) : ((σ.set i o)[j]?).join = (σ[j]?).join := by rw [List.getElem?_set_ne (Ne.symm h)]
theorem get_set {g : Sg} {i j : Nat} {s s' : Sl} (h : (g.set i s)[j]? = some s') : (j = i ∧ i < g.length ∧ s' = s) ∨ (j ≠ i ∧ g[j]? = some s') := by
  by_cases hj : j = i
  · subst hj
    by_cases hl : j < g.length
    · rw [List.getElem?_set_self hl] at h
      exact .inl ⟨rfl, hl, (Option.some.inj h).symm⟩
    · rw [List.getElem?_eq_none (by rw [List.length_set]; omega)] at h
      cases h
  · rw [List.getElem?_set_ne (Ne.symm hj)] at h
    exact .inr ⟨hj, h⟩
/-- a slot gets a datum -/
theorem Rep.dat (r : Rep K w B Hd H σ g) (i : Nat) {v : V} {d : D} (h : Rp K w Hd v d) : Rep K w B Hd H (σ.set i (some v)) (g.set i (.dat d)) := by
  obtain ⟨b, l, ow, n, hs⟩ := r
  refine ⟨b, by rw [List.length_set, List.length_set]; exact l, ow, fun j k sj sk hjk ej ek oj ok => ?_, fun j s e => ?_⟩
  · rcases get_set ej with ⟨_, _, rfl⟩ | ⟨_, ej⟩
    · cases oj
    · rcases get_set ek with ⟨_, _, rfl⟩ | ⟨_, ek⟩
      · cases ok
      · exact n j k sj sk hjk ej ek oj ok
  · rcases get_set e with ⟨rfl, hl, rfl⟩ | ⟨hj, e⟩
    · exact ⟨v, by rw [List.getElem?_set_self (by rw [l]; exact hl)]; rfl, h⟩
    · rw [join_set_ne hj]
      exact hs j s e
/-- a slot is forgotten -/
theorem Rep.un (r : Rep K w B Hd H σ g) (i : Nat) (o : Option V) : Rep K w B Hd H (σ.set i o) (g.set i .un) := by
  obtain ⟨b, l, ow, n, hs⟩ := r
  refine ⟨b, by rw [List.length_set, List.length_set]; exact l, ow, fun j k sj sk hjk ej ek oj ok => ?_, fun j s e => ?_⟩
  · rcases get_set ej with ⟨_, _, rfl⟩ | ⟨_, ej⟩
    · cases oj
    · rcases get_set ek with ⟨_, _, rfl⟩ | ⟨_, ek⟩
      · cases ok
      · exact n j k sj sk hjk ej ek oj ok
  · rcases get_set e with ⟨rfl, hl, rfl⟩ | ⟨hj, e⟩
    · trivial
    · rw [join_set_ne hj]
      exact hs j s e
/-- where the own objects lie: tracked, not in the unchanging part -/
theorem SlOk.there {B : Bx} {so : Option V} {p : Addr} {s : Sl} (h : SlOk K w B Hd H so p s) (o : s.own = true) : so = some (.ref p) ∧ B.H p = none ∧ Hd p = none ∧ ∃ u, H p = some u := by
  cases s with
  | un => cases o
  | dat d => cases o
  | lst ds => obtain ⟨e, b, n, vs, hp, _⟩ := h; exact ⟨e, b, n, _, hp⟩
  | dct kvs => obtain ⟨e, b, n, _, o, ks, hp, _⟩ := h; exact ⟨e, b, n, _, hp⟩
  | mem a kvs => obtain ⟨_, e, b, n, _, o, ks, hp, _⟩ := h; exact ⟨e, b, n, _, hp⟩
/-- a slot gets a new object of one's own -/
theorem Rep.own {p : Addr} (r : Rep K w B Hd1 H1 σ g) (h0 : ∀ (j : Nat) (s : Sl) (q : Addr) (u : HO), g[j]? = some s → s.own = true → σ[j]? = some (some (.ref q)) → H1 q = some u → q ≠ p) (i : Nat) {s : Sl} (so : s.own = true) (h : SlOk K w B Hd1 H1 (some (.ref p)) p s) :
    Rep K w B Hd1 H1 (σ.set i (some (.ref p))) (g.set i s) := by
  obtain ⟨b, l, ow, n, hs⟩ := r
  have far : ∀ j sj, j ≠ i → g[j]? = some sj → sj.own = true → ow j ≠ p := fun j sj hj ej oj => by
    obtain ⟨e, _, _, u, hu⟩ := (hs j sj ej).there oj
    exact h0 j sj _ u ej oj (join_get e) hu
  refine ⟨b, by rw [List.length_set, List.length_set]; exact l, fun j => if j = i then p else ow j, fun j k sj sk hjk ej ek oj ok => ?_, fun j s' e => ?_⟩
  · rcases get_set ej with ⟨rfl, _, rfl⟩ | ⟨hj, ej'⟩
    · rcases get_set ek with ⟨rfl, _, rfl⟩ | ⟨hk, ek'⟩
      · exact absurd rfl hjk
      · simp only [if_pos, if_neg hk]
        exact (far k sk hk ek' ok).symm
    · rcases get_set ek with ⟨rfl, _, rfl⟩ | ⟨hk, ek'⟩
      · simp only [if_pos, if_neg hj]
        exact far j sj hj ej' oj
      · simp only [if_neg hj, if_neg hk]
        exact n j k sj sk hjk ej' ek' oj ok
  · rcases get_set e with ⟨rfl, hl, rfl⟩ | ⟨hj, e⟩
    · simp only [if_pos]
      rw [List.getElem?_set_self (by rw [l]; exact hl)]
      exact h
    · simp only [if_neg hj]
      rw [join_set_ne hj]
      exact hs j s' e
/-- an own object turns -/
theorem Rep.turn (r : Rep K w B Hd H σ g) {i : Nat} {s s' : Sl} {p : Addr} {u : HO} (e : g[i]? = some s) (o : s.own = true) (ep : σ[i]? = some (some (.ref p))) (so : s'.own = true)
    (h : ∀ H', H' p = some u → B.H p = none → Hd p = none → SlOk K w B Hd H' (some (.ref p)) p s') : Rep K w B Hd (upd H p u) σ (g.set i s') := by
  obtain ⟨b, l, ow, n, hs⟩ := r
  obtain ⟨e1, e2, e3, u0, e4⟩ := (hs i s e).there o
  have ei : ow i = p := by
    have := (get_join ep).symm.trans e1
    injection this with this
    injection this with this
    exact this.symm
  rw [ei] at e2 e3 e4
  have far : ∀ j sj, j ≠ i → g[j]? = some sj → sj.own = true → ow j ≠ p := fun j sj hj ej oj => by
    rw [← ei]
    exact n j i sj s hj ej e oj o
  have keep : ∀ {Hx : Hp}, Hx p = none → Same Hx H → Same Hx (upd H p u) := fun {Hx} hn hsx q v hq => by
    rw [upd_ne (ne_of_none hq hn)]
    exact hsx _ _ hq
  refine ⟨⟨b.d, keep e2 b.h, keep e3 b.s, b.n⟩, by rw [List.length_set]; exact l, ow, fun j k sj sk hjk ej ek oj ok => ?_, fun j sj ej => ?_⟩
  · rcases get_set ej with ⟨rfl, _, rfl⟩ | ⟨hj, ej'⟩
    · rcases get_set ek with ⟨rfl, _, rfl⟩ | ⟨hk, ek'⟩
      · exact absurd rfl hjk
      · exact n j k s sk hjk e ek' o ok
    · rcases get_set ek with ⟨rfl, _, rfl⟩ | ⟨hk, ek'⟩
      · exact n j k sj s hjk ej' e oj o
      · exact n j k sj sk hjk ej' ek' oj ok
  · rcases get_set ej with ⟨rfl, hl, rfl⟩ | ⟨hj, ej'⟩
    · rw [ei, get_join ep]
      exact h _ upd_same e2 e3
    · have hh := hs j sj ej'
      cases sj with
      | un => trivial
      | dat d => exact hh
      | lst ds =>
        obtain ⟨a1, a2, a3, vs, a4, a5⟩ := hh
        exact ⟨a1, a2, a3, vs, by rw [upd_ne (far j _ hj ej' rfl)]; exact a4, a5⟩
      | dct kvs =>
        obtain ⟨a1, a2, a3, a6, ob, ks, a4, a5, a7⟩ := hh
        exact ⟨a1, a2, a3, a6, ob, ks, by rw [upd_ne (far j _ hj ej' rfl)]; exact a4, a5, a7⟩
      | mem a kvs =>
        obtain ⟨a0, a1, a2, a3, a6, ob, ks, a4, a5, a7⟩ := hh
        exact ⟨a0, a1, a2, a3, a6, ob, ks, by rw [upd_ne (far j _ hj ej' rfl)]; exact a4, a5, a7⟩
/-- an own object becomes a datum -/
def frz : Sl → Sl
  | .lst ds => .dat (.list ds)
  | .dct kvs => .dat (.dict kvs)
  | .mem _ kvs => .dat (.dict kvs)
  | s => s
def fzAt (i : Nat) (g : Sg) : Sg := match g[i]? with
  | some s => g.set i (frz s)
  | none => g
theorem Rep.freeze (r : Rep K w B Hd H σ g) (i : Nat) : ∃ Hd', Same Hd Hd' ∧ Rep K w B Hd' H σ (fzAt i g) := by
  unfold fzAt
  cases e : g[i]? with
  | none => exact ⟨Hd, .refl _, r⟩
  | some s =>
    show ∃ Hd', Same Hd Hd' ∧ Rep K w B Hd' H σ (g.set i (frz s))
    by_cases o : s.own = true
    · obtain ⟨b, l, ow, n, hs⟩ := id r
      obtain ⟨e1, e2, e3, u0, e4⟩ := (hs i s e).there o
      have m := same_upd (o := u0) e3
      have nn : ∀ j sj, j ≠ i → g[j]? = some sj → sj.own = true → upd Hd (ow i) u0 (ow j) = none := fun j sj hj ej oj => by
        rw [upd_ne (n j i sj s hj ej e oj o)]
        exact ((hs j sj ej).there oj).2.2.1
      refine ⟨upd Hd (ow i) u0, m, Step.freeze b e2 e3 e4, by rw [List.length_set]; exact l, ow, fun j k sj sk hjk ej ek oj ok => ?_, fun j sj ej => ?_⟩
      · rcases get_set ej with ⟨rfl, _, rfl⟩ | ⟨hj, ej'⟩
        · cases s <;> first | cases oj | cases o
        · rcases get_set ek with ⟨rfl, _, rfl⟩ | ⟨hk, ek'⟩
          · cases s <;> first | cases ok | cases o
          · exact n j k sj sk hjk ej' ek' oj ok
      · rcases get_set ej with ⟨rfl, hl, rfl⟩ | ⟨hj, ej'⟩
        · have hh := hs j s e
          cases s with
          | un => cases o
          | dat d => cases o
          | lst ds =>
            obtain ⟨a1, a2, a3, vs, a4, a5⟩ := hh
            rw [e4] at a4
            cases a4
            exact ⟨_, a1, .lst upd_same (a5.mono m)⟩
          | dct kvs =>
            obtain ⟨a1, a2, a3, a6, ob, ks, a4, a5, a7⟩ := hh
            rw [e4] at a4
            cases a4
            exact ⟨_, a1, .dct upd_same a6 a5 (a7.mono m)⟩
          | mem a kvs =>
            obtain ⟨a0, a1, a2, a3, a6, ob, ks, a4, a5, a7⟩ := hh
            rw [e4] at a4
            cases a4
            exact ⟨_, a1, .dct upd_same a6 a5 (a7.mono m)⟩
        · have hh := hs j sj ej'
          cases sj with
          | un => trivial
          | dat d =>
            obtain ⟨v, a1, a2⟩ := hh
            exact ⟨v, a1, a2.mono m⟩
          | lst ds =>
            obtain ⟨a1, a2, a3, vs, a4, a5⟩ := hh
            exact ⟨a1, a2, nn j _ hj ej' rfl, vs, a4, a5.mono m⟩
          | dct kvs =>
            obtain ⟨a1, a2, a3, a6, ob, ks, a4, a5, a7⟩ := hh
            exact ⟨a1, a2, nn j _ hj ej' rfl, a6, ob, ks, a4, a5, a7.mono m⟩
          | mem a kvs =>
            obtain ⟨a0, a1, a2, a3, a6, ob, ks, a4, a5, a7⟩ := hh
            exact ⟨a0, a1, a2, nn j _ hj ej' rfl, a6, ob, ks, a4, a5, a7.mono m⟩
    · have ef : frz s = s := by cases s <;> first | rfl | exact absurd rfl o
      rw [ef]
      have eg : g.set i s = g := by
        apply List.ext_getElem?
        intro j
        by_cases hj : j = i
        · subst hj
          obtain ⟨hl, eq⟩ := List.getElem?_eq_some_iff.mp e
          rw [List.getElem?_set_self hl, e]
        · rw [List.getElem?_set_ne (Ne.symm hj)]
      rw [eg]
      exact ⟨Hd, .refl _, r⟩
def gwipe (g : Sg) : List Nat → Sg
  | [] => g
  | v :: vs => (gwipe g vs).set v .un
theorem Rep.wipe (r : Rep K w B Hd H σ g) : ∀ vs : List Nat, Rep K w B Hd H (L2.wipe σ vs) (gwipe g vs)
  | [] => r
  | v :: vs => (Rep.wipe r vs).un v none
end

/-! ### what a statement comes to -/
inductive Out where
  | no | nx (g : Sg) | rt (d : D) | rl (ds : List D) | rd (kvs : List (D × D)) | bk (g : Sg) | ct (g : Sg) | ex (e : Exc) (g : Sg)
section
variable (K : PySem.W.Frag) (w : World) (B : Bx) (W : WX)
def OkO (Hd : Hp) (Dn : Ends) : Out → Prop
  | .no => False
  | .nx g => ∀ σ Hd' H', Same Hd Hd' → Rep K w B Hd' H' σ g → Dn.nx σ H'
  | .rt d => ∀ v Hd' H', Same Hd Hd' → Step B.Hd B.H Hd' H' → Rp K w Hd' v d → Dn.rt v H'
  | .rl ds => ∀ p vs Hd' H', Same Hd Hd' → Step B.Hd B.H Hd' H' → B.H p = none → Hd' p = none → H' p = some (.lst vs) → RpAll K w Hd' vs ds → Dn.rt (.ref p) H'
  | .rd kvs => ∀ p o ks Hd' H', Same Hd Hd' → Step B.Hd B.H Hd' H' → B.H p = none → Hd' p = none → H' p = some (dkO p o) → (p == sysModules) = false → DkIs w o ks → RpKvs K w Hd' ks kvs → Dn.rt (.ref p) H'
  | .bk g => ∀ σ Hd' H', Same Hd Hd' → Rep K w B Hd' H' σ g → Dn.bk σ H'
  | .ct g => ∀ σ Hd' H', Same Hd Hd' → Rep K w B Hd' H' σ g → Dn.ct σ H'
  | .ex e g => ∀ cls dd σ Hd' H', Same Hd Hd' → Rep K w B Hd' H' σ g → ExOk B H' e cls dd → W cls dd σ H'
def tS (f : Sg → Out) : TS := fun Dn σ H => ∃ g Hd, Rep K w B Hd H σ g ∧ OkO K w B W Hd Dn (f g)
end
abbrev DS (X : Cx) (B : Bx) (W : WX) (st : Stmt) (f : Sg → Out) : Prop := PS X st (tS X.K X.w B W f)
abbrev DSs (X : Cx) (B : Bx) (W : WX) (st : List Stmt) (f : Sg → Out) : Prop := PSs X st (tS X.K X.w B W f)
section
variable {K : PySem.W.Frag} {w : World} {B : Bx} {W : WX} {Hd Hd' : Hp} {Dn : Ends}
theorem OkO.mono (s : Same Hd Hd') {o : Out} (h : OkO K w B W Hd Dn o) : OkO K w B W Hd' Dn o := by
  cases o with
  | no => exact h
  | nx g => exact fun σ H1 H2 t => h σ H1 H2 (s.trans t)
  | rt d => exact fun v H1 H2 t => h v H1 H2 (s.trans t)
  | rl ds => exact fun p vs H1 H2 t => h p vs H1 H2 (s.trans t)
  | rd kvs => exact fun p o ks H1 H2 t => h p o ks H1 H2 (s.trans t)
  | bk g => exact fun σ H1 H2 t => h σ H1 H2 (s.trans t)
  | ct g => exact fun σ H1 H2 t => h σ H1 H2 (s.trans t)
  | ex e g => exact fun c d σ H1 H2 t => h c d σ H1 H2 (s.trans t)
end
section
variable {X : Cx} {B : Bx} {W : WX} {e a b c : Expr} {es rest : List Expr} {st : Stmt} {sts : List Stmt} {pos pos' p2 : Pos} {f f1 f2 f3 : Sg → R D} {t1 t2 : Sg → R Bool} {u u1 u2 : Sg → Out}
theorem PS.imp {t t' : TS} (h : PS X st t) (i : ∀ Dn σ H, t' Dn σ H → t Dn σ H) : PS X st t' := ⟨fun pins s σ H Dn I hw => h.run pins s σ H Dn I (i Dn σ H hw)⟩
theorem PSs.imp {t t' : TS} (h : PSs X sts t) (i : ∀ Dn σ H, t' Dn σ H → t Dn σ H) : PSs X sts t' := ⟨fun pins s σ H Dn I hw => h.run pins s σ H Dn I (i Dn σ H hw)⟩
def oNo : Sg → Out := fun _ => .no
def oNx : Sg → Out := fun g => .nx g
def oSeq (u1 u2 : Sg → Out) : Sg → Out := fun g => match u1 g with
  | .nx g' => u2 g'
  | o => o
/-- code that is never come to -/
theorem ds_never : DS X B W st oNo := PS.imp ps_never fun _ _ _ ⟨_, _, _, h⟩ => h
theorem dss_never : DSs X B W sts oNo := PSs.imp pss_never fun _ _ _ ⟨_, _, _, h⟩ => h
theorem dss_nil : DSs X B W [] oNx := PSs.imp pss_nil fun Dn σ H ⟨g, Hd, rep, h⟩ => h σ Hd H (.refl _) rep
theorem dss_cons (h1 : DS X B W st u1) (h2 : DSs X B W sts u2) : DSs X B W (st :: sts) (oSeq u1 u2) := PSs.imp (pss_cons h1 h2) fun Dn σ H ⟨g, Hd, rep, h⟩ => ⟨g, Hd, rep, by
  unfold oSeq at h
  cases e : u1 g with
  | nx g' => rw [e] at h; exact fun σ' Hd' H' s r => ⟨g', Hd', r, OkO.mono s h⟩
  | no => rw [e] at h; exact h
  | rt d => rw [e] at h; exact h
  | rl ds => rw [e] at h; exact h
  | rd kvs => rw [e] at h; exact h
  | bk g' => rw [e] at h; exact h
  | ct g' => rw [e] at h; exact h
  | ex x g' => rw [e] at h; exact h⟩
theorem dss_one (h1 : DS X B W st u1) : DSs X B W [st] u1 := pss_one h1
/-- slots are frozen ahead of a statement -/
def oFz (i : Nat) (u : Sg → Out) : Sg → Out := fun g => u (fzAt i g)
theorem ds_fz (i : Nat) (h : DS X B W st u) : DS X B W st (oFz i u) := PS.imp h fun Dn σ H ⟨g, Hd, rep, h⟩ => by
  obtain ⟨Hd', s, rep'⟩ := rep.freeze i
  exact ⟨_, Hd', rep', OkO.mono s h⟩
theorem ds_pass : DS X B W (.Pass pos) oNx := PS.imp ps_pass fun Dn σ H ⟨g, Hd, rep, h⟩ => h σ Hd H (.refl _) rep
theorem ds_break : DS X B W (.Break pos) (fun g => .bk g) := PS.imp ps_break fun Dn σ H ⟨g, Hd, rep, h⟩ => h σ Hd H (.refl _) rep
theorem ds_continue : DS X B W (.Continue pos) (fun g => .ct g) := PS.imp ps_continue fun Dn σ H ⟨g, Hd, rep, h⟩ => h σ Hd H (.refl _) rep
/-- an evaluation, then a statement's end -/
def oE {α : Type} (f : Sg → R α) (k : Sg → α → Out) : Sg → Out := fun g => match f g with
  | .ok a => k g a
  | .no => .no
  | .ex e => .ex e g
theorem okE {α β : Type} {rl : Rl β α} {K : PySem.W.Frag} {w : World} {Hd H : Hp} {σ : L2.St} {g : Sg} {f : Sg → R α} {k : Sg → α → Out} {Dn : Ends} {P : β → Hp → Prop} (rep : Rep K w B Hd H σ g) (h : OkO K w B W Hd Dn (oE f k g))
    (hk : ∀ a v Hd' H', Step Hd H Hd' H' → rl.r H Hd' H' v a → Rep K w B Hd' H' σ g → OkO K w B W Hd' Dn (k g a) → P v H') : tG K w rl B W f σ H P := by
  refine ⟨g, Hd, rep, ?_⟩
  unfold oE at h
  cases e : f g with
  | no => rw [e] at h; exact h
  | ok a =>
    rw [e] at h
    exact fun v Hd' H' t r => hk a v Hd' H' t r (rep.step t) (OkO.mono t.d h)
  | ex x =>
    rw [e] at h
    exact fun cls dd Hd' H' t x => h cls dd σ Hd' H' t.d (rep.step t) x
/-- name = e -/
theorem ds_set {i : Nat} {x : Str} (hN : X.N.Nodup) (hi : X.N[i]? = some x) (hx : Loc X.env.scope x) (he : DE X B W e f) (hs : swapsWith e (some (.Name x pos')) pos.line X.env = pure false := by rfl)
    (hf : X.fn x = true ∨ X.env.scope.names.lookup x = some .local := by first | exact .inl rfl | exact .inr rfl | assumption) : DS X B W (.Assign [.Name x pos'] e pos) (oE f fun g d => .nx (g.set i (.dat d))) :=
  PS.imp (ps_set hN hi hx he hs hf) fun Dn σ H ⟨g, Hd, rep, h⟩ => okE rep h fun d v Hd1 H1 t r rep1 h1 => h1 _ Hd1 H1 (.refl _) (rep1.dat i r)
/-- name = a new list -/
theorem Rep.newL {K : PySem.W.Frag} {w : World} {Hd H Hd1 H1 : Hp} {σ : L2.St} {g : Sg} {v : V} {ds : List D} (rep : Rep K w B Hd H σ g) (t : Step Hd H Hd1 H1) (rep1 : Rep K w B Hd1 H1 σ g) (r : (rlO K w).r H Hd1 H1 v ds) (i : Nat) : Rep K w B Hd1 H1 (σ.set i (some v)) (g.set i (.lst ds)) := by
  obtain ⟨p, vs, rfl, n0, n, hp, r⟩ := r
  refine rep1.own (fun j s q u ej oj eq hu z => ?_) i rfl ⟨rfl, rep.base.h.free n0, n, vs, hp, r⟩
  obtain ⟨b, l, ow, _, hs⟩ := rep
  obtain ⟨e1, _, _, u', hu'⟩ := (hs j s ej).there oj
  have : q = ow j := by
    have := (get_join eq).symm.trans e1
    injection this with this
    injection this
  rw [← this, z, n0] at hu'
  cases hu'
theorem ds_setO {fo : Sg → R (List D)} {i : Nat} {x : Str} (hN : X.N.Nodup) (hi : X.N[i]? = some x) (hx : Loc X.env.scope x) (he : DO X B W e fo) (hs : swapsWith e (some (.Name x pos')) pos.line X.env = pure false := by rfl)
    (hf : X.fn x = true ∨ X.env.scope.names.lookup x = some .local := by first | exact .inl rfl | exact .inr rfl | assumption) : DS X B W (.Assign [.Name x pos'] e pos) (oE fo fun g ds => .nx (g.set i (.lst ds))) :=
  PS.imp (ps_set hN hi hx he hs hf) fun Dn σ H ⟨g, Hd, rep, h⟩ => okE rep h fun d v Hd1 H1 t r rep1 h1 => h1 _ Hd1 H1 (.refl _) (rep.newL t rep1 r i)
/-- return e -/
theorem ds_ret (he : DE X B W e f) : DS X B W (.Return (some e) pos) (oE f fun _ d => .rt d) :=
  PS.imp (ps_ret he) fun Dn σ H ⟨g, Hd, rep, h⟩ => okE rep h fun d v Hd1 H1 t r rep1 h1 => h1 v Hd1 H1 (.refl _) rep1.base r
/-- return of a new list -/
theorem ds_retO {fo : Sg → R (List D)} (he : DO X B W e fo) : DS X B W (.Return (some e) pos) (oE fo fun _ ds => .rl ds) :=
  PS.imp (ps_ret he) fun Dn σ H ⟨g, Hd, rep, h⟩ => okE rep h fun d v Hd1 H1 t ⟨p, vs, ev, n0, n, hp, r⟩ rep1 h1 => by
    subst ev
    exact h1 p vs Hd1 H1 (.refl _) rep1.base (rep.base.h.free n0) n hp r
/-- return of a name, whatever it holds -/
def oRetV (i : Nat) : Sg → Out := fun g => match g[i]? with
  | some (.dat d) => .rt d
  | some (.lst ds) => .rl ds
  | some (.dct kvs) => .rd kvs
  | _ => .no
theorem ds_retV {i : Nat} (h : PE X e (tVar i)) : DS X B W (.Return (some e) pos) (oRetV i) := PS.imp (ps_ret h) fun Dn σ H ⟨g, Hd, rep, q⟩ => by
  obtain ⟨b, l, ow, n, hs⟩ := id rep
  unfold oRetV at q
  cases eg : g[i]? with
  | none => rw [eg] at q; exact q.elim
  | some s =>
    rw [eg] at q
    cases s with
    | un => exact q.elim
    | dat d =>
      obtain ⟨v, e1, r⟩ := hs i _ eg
      exact ⟨v, join_get e1, q v Hd H (.refl _) b r⟩
    | lst ds =>
      obtain ⟨e1, e2, e3, vs, h1, r⟩ := hs i _ eg
      exact ⟨_, join_get e1, q _ vs Hd H (.refl _) b e2 e3 h1 r⟩
    | dct kvs =>
      obtain ⟨e1, e2, e3, z, o, ks, h1, i1, r⟩ := hs i _ eg
      exact ⟨_, join_get e1, q _ o ks Hd H (.refl _) b e2 e3 h1 z i1 r⟩
    | mem a kvs => exact q.elim
theorem ds_retN : DS X B W (.Return none pos) (fun _ => .rt .none) := PS.imp ps_retN fun Dn σ H ⟨g, Hd, rep, h⟩ => h .non Hd H (.refl _) rep.base .non
/-- an expression's value is dropped -/
theorem ds_expr (he : DE X B W e f) (hs : swapsWith e none pos.line X.env = pure false := by rfl) : DS X B W (.Expr e pos) (oE f fun g _ => .nx g) :=
  PS.imp (ps_expr he hs) fun Dn σ H ⟨g, Hd, rep, h⟩ => okE rep h fun d v Hd1 H1 t r rep1 h1 => h1 σ Hd1 H1 (.refl _) rep1
def oIf (t : Sg → R Bool) (u1 u2 : Sg → Out) : Sg → Out := oE t fun g b => if b then u1 g else u2 g
theorem ds_if {sa sb : List Stmt} (hc : DB X B W c t1) (ha : DSs X B W sa u1) (hb : DSs X B W sb u2) : DS X B W (.If c sa sb pos) (oIf t1 u1 u2) :=
  PS.imp (ps_if hc ha hb) fun Dn σ H ⟨g, Hd, rep, h⟩ => okE rep h fun d v Hd1 H1 t r rep1 h1 => by
    cases (show v = d from r)
    cases d with
    | true => exact ⟨g, Hd1, rep1, h1⟩
    | false => exact ⟨g, Hd1, rep1, h1⟩

/-! ### own lists turn -/
theorem own_at {K : PySem.W.Frag} {w : World} {Hd H : Hp} {σ : L2.St} {g : Sg} {i : Nat} {ds : List D} (rep : Rep K w B Hd H σ g) (e : g[i]? = some (.lst ds)) : ∃ p vs, σ[i]? = some (some (.ref p)) ∧ B.H p = none ∧ Hd p = none ∧ H p = some (.lst vs) ∧ RpAll K w Hd vs ds := by
  obtain ⟨b, l, ow, n, hs⟩ := rep
  obtain ⟨e1, e2, e3, vs, h1, r⟩ := hs i _ e
  exact ⟨_, vs, join_get e1, e2, e3, h1, r⟩
/-- what a list of one's own becomes -/
def oOwn {α : Type} (i : Nat) (f : Sg → R α) (F : List D → α → R (List D)) : Sg → Out := fun g => match g[i]? with
  | some (.lst ds) => oE f (fun g a => match F ds a with
    | .ok ds' => .nx (g.set i (.lst ds'))
    | _ => .no) g
  | _ => .no
theorem ok_own {α β : Type} {rl : Rl β α} {K : PySem.W.Frag} {w : World} {Hd H : Hp} {σ : L2.St} {g : Sg} {i : Nat} {f : Sg → R α} {F : List D → α → R (List D)} {Dn : Ends} (rep : Rep K w B Hd H σ g) (h : OkO K w B W Hd Dn (oOwn i f F g)) :
    ∃ p vs ds, σ[i]? = some (some (.ref p)) ∧ H p = some (.lst vs) ∧ g[i]? = some (.lst ds) ∧ RpAll K w Hd vs ds ∧ ∀ P : β → Hp → Prop, (∀ a v Hd' H' ds', Step Hd H Hd' H' → rl.r H Hd' H' v a → H' p = some (.lst vs) → RpAll K w Hd' vs ds → Rep K w B Hd' H' σ g → F ds a = .ok ds' →
      (∀ vs', RpAll K w Hd' vs' ds' → Dn.nx σ (upd H' p (.lst vs'))) → P v H') → tG K w rl B W f σ H P := by
  unfold oOwn at h
  cases e : g[i]? with
  | none => rw [e] at h; exact h.elim
  | some s =>
    rw [e] at h
    cases s with
    | un => exact h.elim
    | dat d => exact h.elim
    | dct kvs => exact h.elim
    | mem a kvs => exact h.elim
    | lst ds =>
      obtain ⟨p, vs, ep, b0, n0, hp, r⟩ := own_at rep e
      refine ⟨p, vs, ds, ep, hp, rfl, r, fun P hP => okE rep h fun a v Hd1 H1 t r1 rep1 h1 => ?_⟩
      cases eF : F ds a with
      | no => rw [eF] at h1; exact h1.elim
      | ex x => rw [eF] at h1; exact h1.elim
      | ok ds' =>
        rw [eF] at h1
        refine hP a v Hd1 H1 ds' t r1 (t.h _ _ hp) (r.mono t.d) rep1 eF fun vs' r' => h1 σ Hd1 _ (.refl _) ?_
        exact rep1.turn e rfl ep rfl fun H' h' b1 n1 => ⟨rfl, b1, n1, vs', h', r'⟩
def appF : List D → D → R (List D) := fun ds d => if ds.length < big then .ok (ds ++ [d]) else .no
theorem ds_append {i : Nat} {apos cpos : Pos} (hv : PE X a (tVar i)) (he : DE X B W e f) (hs : swapsWith (.Call (.Attribute a "append" apos) [e] [] cpos) none pos.line X.env = pure false := by rfl)
    (hst : starEach [e] X.env = (false, eval e X.env) :: starEach [] X.env := by rfl)
    (hb : PE X (.Call (.Attribute a "append" apos) [e] [] cpos) (tBM X.K "list" rAppend (tVar i) (tCons (tG X.K X.w (rlD X.K X.w) B W f) tNil))) :
    DS X B W (.Expr (.Call (.Attribute a "append" apos) [e] [] cpos) pos) (oOwn i f appF) :=
  PS.imp (ps_expr hb hs) fun Dn σ H ⟨g, Hd, rep, h⟩ => by
    obtain ⟨p, vs, ds, ep, hp, eg, r, fin⟩ := ok_own rep h
    refine ⟨_, ep, .inl ⟨rfl, _, .of hp⟩, fin _ fun d v Hd1 H1 ds' t r1 hp1 r2 rep1 eF k => ?_⟩
    unfold appF at eF
    split at eF
    case isFalse => cases eF
    case isTrue hz =>
      cases eF
      exact ⟨p, vs, v, rfl, rfl, hp1, by rw [r2.length]; exact big_lt hz, k _ (r2.append (.cons r1 .nil))⟩
end
end G
end

section
set_option Elab.async false
set_option linter.all false
set_option maxRecDepth 100000
set_option maxHeartbeats 4000000
/-! GE: enumerate of a tuple, walked. -/
namespace PySem
open Sem (wp)
open AutoSeq1 (wpAny_loadPart')
theorem meets_enumerate_newT (l : Addr) (items : Array Value) (n : Nat) (dct : Option Addr) (sl : Array (Option Value)) :
    Meets (Builtin.«enumerate.__new__» ⟨[.type "enumerate", .ref l], []⟩) (fun _ R s => s.heap.get? l = some { cls := .type "tuple", dict := dct, data := .seq items n, slots := sl } ∧
      R (.ok (.ret (.ref (s.heap.push { cls := .type "tuple_iterator", data := .fields #[.ref l, .int 0 0] }).objs.size)))
        { s with heap := (s.heap.push { cls := .type "tuple_iterator", data := .fields #[.ref l, .int 0 0] }).push { cls := .type "enumerate", data := .fields #[.none, .bool false, .ref s.heap.objs.size, rawInt 0, .none, .none] } }) :=
  .of_wp fun prog w A R s h => by
    obtain ⟨hp, g, d, tk, os⟩ := s; obtain ⟨hl, h⟩ := h
    have hsub := sub_enumerate
    have hL : Heap.IsTuple (Shared.heap ⟨hp, g, d, tk, os⟩) l items := ⟨_, hl, rfl, n, rfl⟩
    wp_walk using wpAny_loadPart' hl
    refine wpAny_stack_any fun st => wpAny_pure ?_
    split
    · rename_i c _ _ _ _ _
      cases (c == Value.type "enumerate")
      · wp_walk using wpAny_loadPart' hl, wpAny_pyIter_tuple hL
        exact ⟨_, rfl, h⟩
      · wp_walk using wpAny_loadPart' hl, wpAny_pyIter_tuple hL
        exact ⟨_, rfl, h⟩
    · wp_walk using wpAny_loadPart' hl, wpAny_pyIter_tuple hL
      exact ⟨_, rfl, h⟩
theorem call_enumerate_tupleG {prog : Program} {w : World} {A : Around} {E : Value → Shared → Prop} {s : Shared} {l : Addr} {items : Array Value} {Q : Value → Shared → Prop} (hL : s.heap.IsTuple l items)
    (h : ∀ h', IsEnum h' (s.heap.objs.size + 1) s.heap.objs.size 0 .none → h'.IsTupleIter s.heap.objs.size l 0 → h'.objs.size = s.heap.objs.size + 2 →
      (∀ b o, s.heap.get? b = some o → h'.get? b = some o) → Q (.ref (s.heap.objs.size + 1)) { s with heap := h' }) :
    wpAny (model prog w) A (call (.type "enumerate") [.ref l]) Q E s := by
  obtain ⟨⟨c, dct, dt, sl⟩, hl, hc, n, hd⟩ := hL
  replace hc : c = .type "tuple" := hc
  replace hd : dt = .seq items n := hd
  subst hc hd
  refine callType_new F.called_enumerate (by decide) (F.typeCall_enumerate_1 _) (F.newCall_enumerate_1 _) (fun obj => F.args_object_init_2 obj _) F.entry_enumerate_new
    (meets_enumerate_newT l items n dct sl) ⟨hl, ?_⟩
  have hz : (s.heap.push { cls := .type "tuple_iterator", data := .fields #[.ref l, .int 0 0] }).objs.size = s.heap.objs.size + 1 := Heap.size_push ..
  show _ ∧ _
  rw [hz]
  have he : IsEnum ((s.heap.push { cls := .type "tuple_iterator", data := .fields #[.ref l, .int 0 0] }).push
      { cls := .type "enumerate", data := .fields #[.none, .bool false, .ref s.heap.objs.size, rawInt 0, .none, .none] }) (s.heap.objs.size + 1) s.heap.objs.size 0 .none := by
    have := Heap.get?_push_size (s.heap.push { cls := .type "tuple_iterator", data := .fields #[.ref l, .int 0 0] })
      (o := { cls := .type "enumerate", data := .fields #[.none, .bool false, .ref s.heap.objs.size, rawInt 0, .none, .none] }) rfl
    rw [hz] at this; exact this
  refine ⟨⟨_, he, rfl⟩, h _ he ⟨_, Heap.get?_push_of_some _ (Heap.get?_push_size _ rfl), rfl, rfl⟩ (by rw [Heap.size_push, hz]) fun b o x => Heap.get?_push_of_some _ (Heap.get?_push_of_some _ x)⟩
end PySem
namespace L2
open PySem PySem.Spec PyProof.Rows
/-- the tuple at a, by its places -/
def IteT (a : Addr) : It :=
  ⟨fun i H => ∃ xs x, Rd H a (.tup xs) ∧ xs[i]? = some x, fun i H v H' => ∃ T x, v = .ref T ∧ H T = none ∧ H' = upd H T (.tup [.int (i : Nat), x]) ∧ ∀ xs, Rd H a (.tup xs) → xs[i]? = some x, fun i H => ∃ xs, Rd H a (.tup xs) ∧ xs.length = i⟩
theorem turn_enumT {P : Program} {w : World} {K : PySem.W.Frag} {elts : List Expr} {kk : Nat} {tpos : Pos} (a e it : Addr) : Turn P w K (.Tuple elts kk tpos) (IteT a) [e, it] e (fun i h => (∃ old, IsEnum h e it (i : Nat) old) ∧ h.IsTupleIter it a i ∧ e ≠ it) where
  mem := by simp
  obj := fun i h st b hb => by
    obtain ⟨⟨old, he⟩, ⟨o, ho, _, hd⟩, _⟩ := st
    have e' : b = e ∨ b = it := by simpa using hb
    rcases e' with z | z
    · rw [z]; exact ⟨_, he, fun v q => nomatch q⟩
    · rw [z]; exact ⟨o, ho, fun v q => by rw [hd] at q; cases q⟩
  keep := fun i h h' st k => let ⟨⟨old, he⟩, hi, hne⟩ := st; ⟨⟨old, k e (by simp) _ he⟩, hi.at fun o q => k it (by simp) o q, hne⟩
  item := by
    intro X hP hw hK hc i pins s σ H E I hf st hg
    subst hP hw hK
    obtain ⟨⟨old, he⟩, hit, hne⟩ := st
    obtain ⟨xs, x, hq, hx⟩ := hg
    obtain ⟨its, rv, p, hz⟩ := I.tuple (.inl hq)
    obtain ⟨u, hu, ru⟩ := rv.get hx
    have hel : e < s.heap.objs.size := Heap.lt_size he
    have hil : it < s.heap.objs.size := by obtain ⟨_, q, _⟩ := hit; exact Heap.lt_size q
    have hae : a ≠ e := fun z => by
      have := (hf e (by simp)).1
      rw [← z] at this
      rcases hq with q | ⟨_, q⟩ <;> (rw [q] at this; cases this)
    have hai : a ≠ it := fun z => by
      have := (hf it (by simp)).1
      rw [← z] at this
      rcases hq with q | ⟨_, q⟩ <;> (rw [q] at this; cases this)
    have hlt : i < its.toArray.size := by
      have := (List.getElem?_eq_some_iff.mp hu).1
      simpa using this
    refine wpAny_pyNext_enum_itemD (Draws.tuple (A := X.A.in1) (prog := X.prog) (w := X.w) (show X.A.in1.handled = none from I.ok.hd hc) it a hai its.toArray) he ⟨hit, p⟩ hlt hne (by simp [hne, Ne.symm hae]) fun y h' tk hy ho hst hT hsz hk => ?_
    have ey : y = u := by
      have h1 : its.toArray[i]? = some u := by simpa using hu
      rw [h1] at hy
      exact (Option.some.inj hy).symm
    subst ey
    refine ⟨_, rfl, wpAny_letOwnedTupleGo_enum (s := { s with heap := h', toks := tk + 1 }) ho fun h'' he' sb => ?_⟩
    have hT2 : h''.get? s.heap.objs.size = some { cls := .type "tuple", data := .seq #[.int i tk, y] } := (sb.2 _ (Nat.ne_of_gt hel)).trans hT
    have new : ObjOk X.prog X.w (upd H s.heap.objs.size (.tup [.int (i : Nat), x])) h'' s.heap.objs.size (.tup [.int (i : Nat), x]) :=
      ⟨by show 2 ≤ sizeLine; decide, [.int i tk, y], .cons ⟨_, rfl⟩ (.cons ru .nil), ⟨_, hT2, rfl, _, rfl⟩⟩
    have I1 : Inv X pins σ (upd H s.heap.objs.size (.tup [.int (i : Nat), x])) { s with heap := h'', toks := tk + 1 } :=
      I.turnedNew (ch := [e, it]) (fun b ob hb q => (sb.2 b (fun z => hb (by simp [z]))).trans (hk b ob (fun z => hb (by simp [z])) (fun z => hb (by simp [z])) q)) hf (Nat.le_refl _) new
    refine ⟨.ref s.heap.objs.size, _, I1, rfl, ⟨_, x, rfl, I.hok.fresh (Nat.le_refl _), rfl, fun ys hy => ?_⟩, ⟨⟨y, ?_⟩, hst.1.at fun o q => (sb.2 it (Ne.symm hne)).trans q, hne⟩, fun b hb => ?_⟩
    · rw [I.tuple_inj (.inl hy) (.inl hq)]
      exact hx
    · have e1 : ((i + 1 : Nat) : Int) = (i : Int) + 1 := by omega
      rw [e1]; exact he'
    · have hb' : b < s.heap.objs.size := by
        have e' : b = e ∨ b = it := by simpa using hb
        rcases e' with z | z
        · rw [z]; exact hel
        · rw [z]; exact hil
      rw [upd_ne (Nat.ne_of_lt hb')]
      exact (hf b hb).1
  done := by
    intro X hP hw hK hc i pins s σ H E I hf st hg
    subst hP hw hK
    obtain ⟨⟨old, he⟩, hit, hne⟩ := st
    obtain ⟨xs, hq, hx⟩ := hg
    obtain ⟨its, rv, p, hz⟩ := I.tuple (.inl hq)
    obtain ⟨f0, f1, f2, f3, f4, f5⟩ := hf it (by simp)
    have hl := rv.length
    have hai : a ≠ it := fun z => by
      rw [← z] at f0
      rcases hq with q | ⟨_, q⟩ <;> (rw [q] at f0; cases f0)
    have hn : its.toArray.size = i := by simp; omega
    subst hn
    exact wpAny_pyNext_enum_endD (Draws.tuple (A := X.A.in1) (prog := X.prog) (w := X.w) (show X.A.in1.handled = none from I.ok.hd hc) it a hai its.toArray) he ⟨hit, p⟩ fun h' eb => ⟨rfl, I.turned (t' := s.toks) (fun b o hb q => eb b o hb q) f0 f1 f3 f4 f5⟩
  self := fun A i s Q E st h => let ⟨⟨_, he⟩, _⟩ := st; wpAny_pyIter_enum he h
def iEnumA (K : PySem.W.Frag) (ta : TA) : TI := fun σ H R => ta σ H fun vs H1 => ∃ a xs, vs = [.ref a] ∧ ((SqL K H1 a xs ∧ R (Ite K a) H1) ∨ (Rd H1 a (.tup xs) ∧ R (IteT a) H1))
theorem pi_enumA {X : Cx} {e : Expr} {ta : TA} {p pos tpos : Pos} {elts : List Expr} {kk : Nat} (hg : Gl X "enumerate") (hm : X.mg "enumerate" = none) (ha : PA X [e] ta) (hs : starEach [e] X.env = [(false, eval e X.env)] := by rfl) :
    PI X (.Tuple elts kk tpos) (.Call (.Name "enumerate" p) [e] [] pos) (iEnumA X.K ta) := by
  refine ⟨fun pins s σ H R I h => ?_⟩
  refine Call_ (ld_blt I hg hm boot_enumerate (PyProof.Rows.callWith_type1 (thn (ha.run pos pins s σ H _ I h) fun us s1 ⟨vs, H1, I1, r1, q1⟩ => ?_) hs rfl))
  obtain ⟨a, xs, ex, q⟩ := q1
  subst ex
  cases r1 with
  | cons r rr =>
    cases rr
    cases r
    have fin : ∀ b, b = s1.heap.objs.size + 1 ∨ b = s1.heap.objs.size → FpOk X pins H1 b := fun b e' => by
      have hle : s1.heap.objs.size ≤ b := by
        rcases e' with z | z
        · rw [z]; exact Nat.le_add_right _ _
        · rw [z]; exact Nat.le_refl _
      exact I1.fpOk hle (I1.hok.fresh hle)
    rcases q with ⟨hq, q⟩ | ⟨hq, q⟩
    · obtain ⟨its, rv, p', hz⟩ := I1.list hq
      refine call_enumerate_list p'.isList fun h' he hit hsz hk => wpAny_pyIter_enum he ?_
      have I2 : Inv X pins σ H1 { s1 with heap := h' } := I1.kept (t' := s1.toks) hk
      exact ⟨s1.heap.objs.size + 1, [s1.heap.objs.size + 1, s1.heap.objs.size], _, _, H1, rfl, I2, turn_enum a (s1.heap.objs.size + 1) s1.heap.objs.size, ⟨⟨.none, he⟩, hit, Nat.succ_ne_self _⟩, fun b hb => fin b (by simpa using hb), q⟩
    · obtain ⟨its, rv, p', hz⟩ := I1.tuple (.inl hq)
      refine call_enumerate_tupleG p' fun h' he hit hsz hk => wpAny_pyIter_enum he ?_
      have I2 : Inv X pins σ H1 { s1 with heap := h' } := I1.kept (t' := s1.toks) hk
      exact ⟨s1.heap.objs.size + 1, [s1.heap.objs.size + 1, s1.heap.objs.size], _, _, H1, rfl, I2, turn_enumT a (s1.heap.objs.size + 1) s1.heap.objs.size, ⟨⟨.none, he⟩, hit, Nat.succ_ne_self _⟩, fun b hb => fin b (by simpa using hb), q⟩
end L2
end

section
set_option Elab.async false
set_option linter.all false
set_option maxRecDepth 100000
set_option maxHeartbeats 4000000
/-! G6: targets, what is walked, for, while, comprehensions. -/
namespace G
open PySem PySem.Spec PyProof.Rows L2

/-! ### targets -/
abbrev Tg := D → Sg → Option Sg
section
variable (K : PySem.W.Frag) (w : World) (B : Bx)
def tGt (ixs : List Nat) (t : Tg) : TG := fun v σ H Q => ∃ d g Hd, Rep K w B Hd H σ g ∧ Rp K w Hd v d ∧ match t d g with
  | some g' => ∀ σ', Rep K w B Hd H σ' g' → σ'.length = σ.length → (∀ j, j ∉ ixs → σ'[j]? = σ[j]?) → Q σ' H
  | none => False
end
abbrev DG (X : Cx) (B : Bx) (e : Expr) (ixs : List Nat) (t : Tg) : Prop := PG X e (tGt X.K X.w B ixs t)
section
variable {X : Cx} {B : Bx} {W : WX} {e a b c tg iter : Expr} {es rest : List Expr} {st : Stmt} {sts : List Stmt} {pos pos' p p2 tpos : Pos} {f f1 f2 f3 : Sg → R D} {t1 t2 : Sg → R Bool} {u u1 u2 : Sg → Out}
theorem PG.imp {t t' : TG} (h : PG X e t) (i : ∀ v σ H Q, t' v σ H Q → t v σ H Q) : PG X e t' := ⟨fun pins s σ H v u Q I r hw => h.run pins s σ H v u Q I r (i v σ H Q hw)⟩
def gN (i : Nat) : Tg := fun d g => some (g.set i (.dat d))
theorem dg_name {i : Nat} {x : Str} (hN : X.N.Nodup) (hi : X.N[i]? = some x) (hx : Loc X.env.scope x) (hf : X.fn x = true ∨ X.env.scope.names.lookup x = some .local := by first | exact .inl rfl | exact .inr rfl | assumption) : DG X B (.Name x pos) [i] (gN i) :=
  PG.imp (pg_name hN hi hx hf) fun v σ H Q ⟨d, g, Hd, rep, r, q⟩ => q _ (rep.dat i r) (by rw [List.length_set]) fun j hj => List.getElem?_set_ne (fun z => hj (by simp [z]))
/-- several targets -/
abbrev Tgs := List D → Sg → Option Sg
def tGts (K : PySem.W.Frag) (w : World) (B : Bx) (ixs : List Nat) (t : Tgs) : TGs := fun vs σ H Q => ∃ ds g Hd, Rep K w B Hd H σ g ∧ RpAll K w Hd vs ds ∧ match t ds g with
  | some g' => ∀ σ', Rep K w B Hd H σ' g' → σ'.length = σ.length → (∀ j, j ∉ ixs → σ'[j]? = σ[j]?) → Q σ' H
  | none => False
abbrev DGs (X : Cx) (B : Bx) (es : List Expr) (ixs : List Nat) (t : Tgs) : Prop := PGs X es (tGts X.K X.w B ixs t)
theorem PGs.imp {t t' : TGs} (h : PGs X es t) (i : ∀ v σ H Q, t' v σ H Q → t v σ H Q) : PGs X es t' := ⟨fun pins s σ H v u Q I r hw => h.run pins s σ H v u Q I r (i v σ H Q hw)⟩
def gs0 : Tgs := fun ds g => match ds with
  | [] => some g
  | _ => none
def gsC (t : Tg) (u : Tgs) : Tgs := fun ds g => match ds with
  | d :: r => (t d g).bind fun g' => u r g'
  | [] => none
theorem dgs_nil : DGs X B [] [] gs0 := PGs.imp pgs_nil fun vs σ H Q ⟨ds, g, Hd, rep, r, q⟩ => by
  cases r with
  | nil => exact ⟨rfl, q σ rep rfl fun _ _ => rfl⟩
  | cons _ _ => exact q.elim
theorem dgs_cons {ix ixs : List Nat} {t : Tg} {u : Tgs} (h1 : DG X B e ix t) (h2 : DGs X B es ixs u) (hs : (assignEach (e :: es) X.env).map (·.2) = assign e X.env :: (assignEach es X.env).map (·.2) := by rfl) : DGs X B (e :: es) (ix ++ ixs) (gsC t u) :=
  PGs.imp (pgs_cons h1 h2 hs) fun vs σ H Q ⟨ds, g, Hd, rep, r, q⟩ => by
    cases r with
    | nil => exact q.elim
    | @cons v vs d ds r rs =>
      refine ⟨v, vs, rfl, d, g, Hd, rep, r, ?_⟩
      have q : match (t d g).bind fun g' => u ds g' with
          | some g' => ∀ σ', Rep X.K X.w B Hd H σ' g' → σ'.length = σ.length → (∀ j, j ∉ ix ++ ixs → σ'[j]? = σ[j]?) → Q σ' H
          | none => False := q
      cases e1 : t d g with
      | none => rw [e1] at q; exact q.elim
      | some g1 =>
        rw [e1] at q
        refine fun σ1 rep1 l1 k1 => ⟨ds, g1, Hd, rep1, rs, ?_⟩
        have q : match u ds g1 with
          | some g' => ∀ σ', Rep X.K X.w B Hd H σ' g' → σ'.length = σ.length → (∀ j, j ∉ ix ++ ixs → σ'[j]? = σ[j]?) → Q σ' H
          | none => False := q
        cases e2 : u ds g1 with
        | none => rw [e2] at q; exact q.elim
        | some g2 =>
          rw [e2] at q
          exact fun σ2 rep2 l2 k2 => q σ2 rep2 (l2.trans l1) fun j hj => (k2 j fun z => hj (List.mem_append_right _ z)).trans (k1 j fun z => hj (List.mem_append_left _ z))
def gT (n : Nat) (t : Tgs) : Tg := fun d g => match d with
  | .tuple ds => if ds.length = n then t ds g else none
  | .dict [(.bool true, .tuple ds)] => if ds.length = n then t ds g else none
  | _ => none
theorem dg_tup {k : Nat} {ixs : List Nat} {t : Tgs} {n : Nat} (hc : X.calm = true) (h : DGs X B es ixs t) (hn : (assignEach es X.env).length = n := by rfl) (hst : (assignEach es X.env).findIdx? (·.1) = none := by rfl) : DG X B (.Tuple es k pos) ixs (gT n t) :=
  PG.imp (pg_tup hc h hn hst) fun v σ H Q ⟨d, g, Hd, rep, r, q⟩ => by
    unfold gT at q
    cases r with
    | tup hp ra =>
      simp only at q
      split at q
      · rename_i g' e1
        split at e1
        case isFalse => cases e1
        case isTrue hz => exact ⟨_, _, rfl, (hp.same rep.same).sq, by rw [ra.length]; exact hz, _, g, Hd, rep, ra, by rw [e1]; exact q⟩
      · exact q.elim
    | loose hp ra =>
      simp only at q
      split at q
      · rename_i g' e1
        split at e1
        case isFalse => cases e1
        case isTrue hz => exact ⟨_, _, rfl, .of (rep.same _ _ hp), by rw [ra.length]; exact hz, _, g, Hd, rep, ra, by rw [e1]; exact q⟩
      · exact q.elim
    | non => exact q.elim
    | bl _ => exact q.elim
    | int _ => exact q.elim
    | str _ => exact q.elim
    | lst _ _ => exact q.elim
    | scr _ => exact q.elim
    | dct _ _ _ hk =>
      split at q
      · rename_i g' e1
        split at e1
        · rename_i e2
          cases e2
        · rename_i e2
          cases e2
          cases hk with
          | cons k1 _ _ _ => cases k1
        · cases e1
      · exact q.elim
/-- targets = value -/
theorem ds_asg {ixs : List Nat} {t : Tg} (he : DE X B W e f) (hg : DG X B tg ixs t)
    (hps : PS X (.Assign [tg] e pos) (tAsg (tG X.K X.w (rlD X.K X.w) B W f) (tGt X.K X.w B ixs t))) : DS X B W (.Assign [tg] e pos) (oE f fun g d => match t d g with
      | some g' => .nx g'
      | none => .no) :=
  PS.imp hps fun Dn σ H ⟨g, Hd, rep, h⟩ => okE rep h fun d v Hd1 H1 st r rep1 h1 => ⟨d, g, Hd1, rep1, r, by
    cases e1 : t d g with
    | none => rw [e1] at h1; exact h1.elim
    | some g' =>
      rw [e1] at h1
      exact fun σ' rep' _ _ => h1 σ' Hd1 H1 (.refl _) rep'⟩

/-! ### what is walked -/
structure ItOk (K : PySem.W.Frag) (w : World) (Hd : Hp) (J : It) (ds : List D) : Prop where
  goes : ∀ i H, i < ds.length → Same Hd H → J.go i H
  stops : ∀ H, Same Hd H → J.stop ds.length H
  yld : ∀ i H x H', i < ds.length → J.yld i H x H' → ∀ Hd1, Same Hd Hd1 → Same Hd1 H → ∃ d Hd2, ds[i]? = some d ∧ Step Hd1 H Hd2 H' ∧ Rp K w Hd2 x d
theorem ItOk.mono {K : PySem.W.Frag} {w : World} {Hd Hd' : Hp} {J : It} {ds : List D} (s : Same Hd Hd') (h : ItOk K w Hd J ds) : ItOk K w Hd' J ds :=
  ⟨fun i H hi t => h.goes i H hi (s.trans t), fun H t => h.stops H (s.trans t), fun i H x H' hi y Hd1 t => h.yld i H x H' hi y Hd1 (s.trans t)⟩
def rlJ (K : PySem.W.Frag) (w : World) : Rl It (List D) := ⟨fun _ Hd' _ J ds => ItOk K w Hd' J ds, fun _ h => h⟩
abbrev DI (X : Cx) (B : Bx) (W : WX) (tg iter : Expr) (src : Sg → R (List D)) : Prop := PI X tg iter (tG X.K X.w (rlJ X.K X.w) B W src)
theorem PI.imp {t t' : TI} (h : PI X tg e t) (i : ∀ σ H Q, t' σ H Q → t σ H Q) : PI X tg e t' := ⟨fun pins s σ H R I hw => h.run pins s σ H R I (i σ H R hw)⟩
theorem PI.or {t t' : TI} (h : PI X tg e t) (h' : PI X tg e t') : PI X tg e (fun σ H R => t σ H R ∨ t' σ H R) := ⟨fun pins s σ H R I hw => by
  rcases hw with hw | hw
  · exact h.run pins s σ H R I hw
  · exact h'.run pins s σ H R I hw⟩
theorem it_list {K : PySem.W.Frag} {w : World} {Hd : Hp} {a : Addr} {vs : List V} {ds : List D} (h : Hd a = some (.lst vs)) (r : RpAll K w Hd vs ds) : ItOk K w Hd (Itl K a) ds where
  goes := fun i H hi s => by
    obtain ⟨v, hv, _⟩ := r.get (List.getElem?_eq_getElem hi)
    exact ⟨vs, v, .of (s _ _ h), hv⟩
  stops := fun H s => ⟨vs, .of (s _ _ h), by rw [r.length]; exact Nat.le_refl _⟩
  yld := fun i H x H' hi y Hd1 t s => by
    obtain ⟨rfl, q⟩ := y
    have hx := q vs (.of (s _ _ (t _ _ h)))
    obtain ⟨d, hd, rd⟩ := r.get' hx
    exact ⟨d, Hd1, hd, Step.refl s, rd.mono t⟩
theorem it_tup {K : PySem.W.Frag} {w : World} {Hd : Hp} {a : Addr} {vs : List V} {ds : List D} (h : Fz Hd a vs) (r : RpAll K w Hd vs ds) : ItOk K w Hd (Itt K a) ds where
  goes := fun i H hi s => by
    obtain ⟨v, hv, _⟩ := r.get (List.getElem?_eq_getElem hi)
    exact ⟨vs, v, (h.same s).sq, hv⟩
  stops := fun H s => ⟨vs, (h.same s).sq, by rw [r.length]; exact Nat.le_refl _⟩
  yld := fun i H x H' hi y Hd1 t s => by
    obtain ⟨rfl, q⟩ := y
    have hx := q vs ((h.same t).same s).sq
    obtain ⟨d, hd, rd⟩ := r.get' hx
    exact ⟨d, Hd1, hd, Step.refl s, rd.mono t⟩
def signs (x : Str) : List D := x.cps.toList.map fun c => .str ⟨#[c]⟩
theorem it_str {K : PySem.W.Frag} {w : World} {Hd : Hp} {x : Str} : ItOk K w Hd (Its x) (signs x) where
  goes := fun i H hi s => by
    have : i < x.cps.size := by simpa [signs] using hi
    exact this
  stops := fun H s => by
    show x.cps.size ≤ _
    simp [signs]
  yld := fun i H v H' hi y Hd1 t s => by
    obtain ⟨rfl, c, hc, rfl⟩ := y
    refine ⟨.str ⟨#[c]⟩, Hd1, ?_, Step.refl s, .str _⟩
    unfold signs
    rw [List.getElem?_map, Array.getElem?_toList, hc]
    rfl
theorem it_range {K : PySem.W.Frag} {w : World} {Hd : Hp} {lo : Int} {n : Nat} : ItOk K w Hd (Itr lo n) ((List.range n).map fun i => .int (lo + (i : Nat))) where
  goes := fun i H hi s => by
    have : i < n := by simpa using hi
    exact this
  stops := fun H s => by
    show n ≤ _
    simp
  yld := fun i H v H' hi y Hd1 t s => by
    obtain ⟨rfl, rfl⟩ := y
    have hn : i < n := by simpa using hi
    exact ⟨.int (lo + (i : Nat)), Hd1, by rw [List.getElem?_map, List.getElem?_range hn]; rfl, Step.refl s, .int _⟩
/-- a pair that is made on the way: it is taken apart at once -/
def pairD (x y : D) : D := .dict [(.bool true, .tuple [x, y])]
theorem yld_pair {K : PySem.W.Frag} {w : World} {Hd1 H H' : Hp} {v x y : V} {dx dy : D} {T : Addr} (s : Same Hd1 H) (n : H T = none) (ev : v = .ref T) (eH : H' = upd H T (.tup [x, y])) (rx : Rp K w Hd1 x dx) (ry : Rp K w Hd1 y dy) :
    ∃ Hd2, Step Hd1 H Hd2 H' ∧ Rp K w Hd2 v (pairD dx dy) := by
  subst ev
  subst eH
  have t := Step.new (o := .tup [x, y]) s n
  exact ⟨_, t, .loose upd_same (.cons (rx.mono t.d) (.cons (ry.mono t.d) .nil))⟩
def enumD (ds : List D) : List D := ds.mapIdx fun i d => pairD (.int (i : Nat)) d
theorem it_enum {K : PySem.W.Frag} {w : World} {Hd : Hp} {a : Addr} {vs : List V} {ds : List D} (h : Hd a = some (.lst vs)) (r : RpAll K w Hd vs ds) : ItOk K w Hd (Ite K a) (enumD ds) where
  goes := fun i H hi s => by
    have hi : i < ds.length := by simpa [enumD] using hi
    obtain ⟨v, hv, _⟩ := r.get (List.getElem?_eq_getElem hi)
    exact ⟨vs, v, .of (s _ _ h), hv⟩
  stops := fun H s => ⟨vs, .of (s _ _ h), by rw [r.length]; simp [enumD]⟩
  yld := fun i H v H' hi y Hd1 t s => by
    obtain ⟨T, x, e1, e2, e3, q⟩ := y
    have hx := q vs (.of (s _ _ (t _ _ h)))
    obtain ⟨d, hd, rd⟩ := r.get' hx
    obtain ⟨Hd2, st, rp⟩ := yld_pair (K := K) (w := w) s e2 e1 e3 (.int (i : Nat)) (rd.mono t)
    exact ⟨_, Hd2, by simp [enumD, hd], st, rp⟩
theorem it_enumT {K : PySem.W.Frag} {w : World} {Hd : Hp} {a : Addr} {vs : List V} {ds : List D} (h : Fz Hd a vs) (r : RpAll K w Hd vs ds) : ItOk K w Hd (IteT a) (enumD ds) where
  goes := fun i H hi s => by
    have hi : i < ds.length := by simpa [enumD] using hi
    obtain ⟨v, hv, _⟩ := r.get (List.getElem?_eq_getElem hi)
    exact ⟨vs, v, (h.same s).rd, hv⟩
  stops := fun H s => ⟨vs, (h.same s).rd, by rw [r.length]; simp [enumD]⟩
  yld := fun i H v H' hi y Hd1 t s => by
    obtain ⟨T, x, e1, e2, e3, q⟩ := y
    have hx := q vs ((h.same t).same s).rd
    obtain ⟨d, hd, rd⟩ := r.get' hx
    obtain ⟨Hd2, st, rp⟩ := yld_pair (K := K) (w := w) s e2 e1 e3 (.int (i : Nat)) (rd.mono t)
    exact ⟨_, Hd2, by simp [enumD, hd], st, rp⟩
def zipD (xs ys : List D) : List D := List.zipWith pairD xs ys
theorem it_zipT {K : PySem.W.Frag} {w : World} {Hd : Hp} {a b : Addr} {vs us : List V} {ds es : List D} (h : Fz Hd a vs) (h' : Fz Hd b us) (r : RpAll K w Hd vs ds) (r' : RpAll K w Hd us es) : ItOk K w Hd (RZ.ItzT K a b) (zipD ds es) where
  goes := fun i H hi s => by
    have hi : i < ds.length ∧ i < es.length := by simpa [zipD, Nat.lt_min] using hi
    obtain ⟨v, hv, _⟩ := r.get (List.getElem?_eq_getElem hi.1)
    obtain ⟨u, hu, _⟩ := r'.get (List.getElem?_eq_getElem hi.2)
    exact ⟨vs, us, v, u, (h.same s).sq, (h'.same s).sq, hv, hu⟩
  stops := fun H s => ⟨vs, us, (h.same s).sq, (h'.same s).sq, by
    rw [r.length, r'.length]
    simp only [zipD, List.length_zipWith]
    omega⟩
  yld := fun i H v H' hi y Hd1 t s => by
    obtain ⟨T, x, z, e1, e2, e3, q, q'⟩ := y
    have hx := q vs ((h.same t).same s).sq
    have hz := q' us ((h'.same t).same s).sq
    obtain ⟨d, hd, rd⟩ := r.get' hx
    obtain ⟨d', hd', rd'⟩ := r'.get' hz
    obtain ⟨Hd2, st, rp⟩ := yld_pair (K := K) (w := w) s e2 e1 e3 (rd.mono t) (rd'.mono t)
    exact ⟨_, Hd2, by simp [zipD, List.getElem?_zipWith, hd, hd'], st, rp⟩
/-- over a list, a tuple, a text -/
def itD : D → R (List D)
  | .list ds => .ok ds
  | .tuple ds => .ok ds
  | .str x => .ok (signs x)
  | _ => .no
theorem di_any (ha : DE X B W a f) : DI X B W tg a (fUn itD f) := PI.imp (PI.or (pi_list ha) (PI.or (pi_tup ha) (pi_str ha))) fun σ H Q ⟨g, Hd, rep, h⟩ => by
  unfold fUn at h
  cases e : f g with
  | no => rw [e] at h; exact no_elim h
  | ex x => rw [e] at h; exact .inl ⟨g, Hd, rep, by rw [e]; exact h⟩
  | ok d =>
    cases d with
    | list ds =>
      refine .inl (seq (k := itD) rep h fun d v Hd1 H1 e1 s1 r1 rep1 h1 => ?_)
      rw [e] at e1
      cases e1
      cases r1 with
      | lst hp ra => exact ⟨_, rfl, ⟨_, .of (rep1.same _ _ hp)⟩, h1.ok (Step.refl rep1.same) (it_list hp ra)⟩
    | tuple ds =>
      refine .inr (.inl (seq (k := itD) rep h fun d v Hd1 H1 e1 s1 r1 rep1 h1 => ?_))
      rw [e] at e1
      cases e1
      cases r1 with
      | tup hp ra => exact ⟨_, rfl, ⟨_, (hp.same rep1.same).sq⟩, h1.ok (Step.refl rep1.same) (it_tup hp ra)⟩
    | str x =>
      refine .inr (.inr (seq (k := itD) rep h fun d v Hd1 H1 e1 s1 r1 rep1 h1 => ?_))
      rw [e] at e1
      cases e1
      cases r1
      exact ⟨_, rfl, h1.ok (Step.refl rep1.same) it_str⟩
    | none => rw [e] at h; exact no_elim h
    | bool _ => rw [e] at h; exact no_elim h
    | int _ => rw [e] at h; exact no_elim h
    | dict _ => rw [e] at h; exact no_elim h
/-- range -/
def rangeD (lo hi : Int) : List D := (List.range (hi - lo).toNat).map fun i => .int (lo + (i : Nat))
def rng1 : D → R (List D)
  | .int j => if -1000000 < j ∧ j < 1000000 then .ok (rangeD 0 j) else .no
  | _ => .no
theorem di_range1 (hg : Gl X "range") (hm : X.mg "range" = none) (ha : DT X B W a f) (hs0 : starEach [a] X.env = (false, eval a X.env) :: starEach [] X.env := by rfl) (hs : starEach [a] X.env = [(false, eval a X.env)] := by rfl) : DI X B W tg (.Call (.Name "range" p) [a] [] pos) (fUn rng1 f) :=
  PI.imp (pi_range1 hg hm (pa_cons ha pa_nil hs0) hs) fun σ H Q ⟨g, Hd, rep, h⟩ => seq rep h fun d v Hd1 H1 e1 s1 r1 rep1 h1 => by
    unfold rng1 at h1
    have r1 : RpT X.K X.w Hd1 H1 v d := r1
    split at h1
    · split at h1
      case isFalse => exact no_elim h1
      case isTrue hz =>
        obtain rfl := r1.int
        unfold rangeD at h1
        rw [Int.sub_zero] at h1
        exact ⟨_, rfl, by omega, by omega, h1.ok (Step.refl rep1.same) it_range⟩
    · exact no_elim h1
def rng2 : D → D → R (List D)
  | .int i, .int j => if (-1000000 < i ∧ i < 1000000) ∧ (-1000000 < j ∧ j < 1000000) then .ok (rangeD i j) else .no
  | _, _ => .no
def fRng2 (f1 f2 : Sg → R D) : Sg → R (List D) := fun g => (f1 g).bind fun x => (f2 g).bind fun y => rng2 x y
theorem di_range2 (hg : Gl X "range") (hm : X.mg "range" = none) (ha : DT X B W a f1) (hb : DT X B W b f2) (h1 : starEach [a, b] X.env = (false, eval a X.env) :: starEach [b] X.env := by rfl) (h2 : starEach [b] X.env = (false, eval b X.env) :: starEach [] X.env := by rfl)
    (hs : starEach [a, b] X.env = [(false, eval a X.env), (false, eval b X.env)] := by rfl) (hs2 : starEach [b] X.env = [(false, eval b X.env)] := by rfl) : DI X B W tg (.Call (.Name "range" p) [a, b] [] pos) (fRng2 f1 f2) :=
  PI.imp (pi_range2 hg hm (pa_cons ha (pa_cons hb pa_nil h2) h1) hs hs2) fun σ H Q ⟨g, Hd, rep, h⟩ => seq rep h fun d v Hd1 H1 e1 s1 r1 rep1 h1 => seq rep1 h1 fun d2 v2 Hd2 H2 e2 s2 r2 rep2 h2 => by
    unfold rng2 at h2
    have r1 : RpT X.K X.w Hd1 H1 v d := r1
    have r1 := RpT.step s2 r1
    have r2 : RpT X.K X.w Hd2 H2 v2 d2 := r2
    split at h2
    · split at h2
      case isFalse => exact no_elim h2
      case isTrue hz =>
        obtain rfl := r1.int
        obtain rfl := r2.int
        exact ⟨_, _, rfl, ⟨by omega, by omega, by omega, by omega⟩, h2.ok (Step.refl rep2.same) it_range⟩
    · exact no_elim h2
/-- enumerate -/
def enD : D → R (List D)
  | .list ds => .ok (enumD ds)
  | .tuple ds => .ok (enumD ds)
  | _ => .no
theorem di_enum {elts : List Expr} {kk : Nat} (hg : Gl X "enumerate") (hm : X.mg "enumerate" = none) (ha : DE X B W a f) (hs0 : starEach [a] X.env = (false, eval a X.env) :: starEach [] X.env := by rfl) (hs : starEach [a] X.env = [(false, eval a X.env)] := by rfl) :
    DI X B W (.Tuple elts kk tpos) (.Call (.Name "enumerate" p) [a] [] pos) (fUn enD f) := PI.imp (pi_enumA hg hm (pa_cons ha pa_nil hs0) hs) fun σ H Q ⟨g, Hd, rep, h⟩ => seq rep h fun d v Hd1 H1 e1 s1 r1 rep1 h1 => by
  unfold enD at h1
  split at h1
  · cases r1 with
    | lst hp ra => exact ⟨_, _, rfl, .inl ⟨.of (rep1.same _ _ hp), h1.ok (Step.refl rep1.same) (it_enum hp ra)⟩⟩
  · cases r1 with
    | tup hp ra => exact ⟨_, _, rfl, .inr ⟨(hp.same rep1.same).rd, h1.ok (Step.refl rep1.same) (it_enumT hp ra)⟩⟩
  · exact no_elim h1
/-- zip of two tuples -/
def zpD : D → D → R (List D)
  | .tuple xs, .tuple ys => .ok (zipD xs ys)
  | _, _ => .no
def fZip (f1 f2 : Sg → R D) : Sg → R (List D) := fun g => (f1 g).bind fun x => (f2 g).bind fun y => zpD x y
theorem di_zip {elts : List Expr} {kk : Nat} (ha : DE X B W a f1) (hb : DE X B W b f2)
    (hz : PI X (.Tuple elts kk tpos) iter (RZ.iZipA X.K (tCons (tG X.K X.w (rlD X.K X.w) B W f1) (tCons (tG X.K X.w (rlD X.K X.w) B W f2) tNil)))) :
    DI X B W (.Tuple elts kk tpos) iter (fZip f1 f2) := PI.imp hz fun σ H Q ⟨g, Hd, rep, h⟩ => seq rep h fun d v Hd1 H1 e1 s1 r1 rep1 h1 => seq rep1 h1 fun d2 v2 Hd2 H2 e2 s2 r2 rep2 h2 => by
  unfold zpD at h2
  have r1 : Rp X.K X.w Hd1 v d := r1
  have r1 := r1.mono s2.d
  split at h2
  · cases r1 with
    | tup hp ra =>
      cases r2 with
      | tup hq rb => exact ⟨_, _, _, _, rfl, .inr ⟨(hp.same rep2.same).sq, (hq.same rep2.same).sq, h2.ok (Step.refl rep2.same) (it_zipT hp hq ra rb)⟩⟩
  · exact no_elim h2

/-! ### for -/
def loopD (t : Tg) (body : Sg → Out) : List D → Sg → Out
  | [], g => .nx g
  | d :: ds, g => match t d g with
    | none => .no
    | some g1 => match body g1 with
      | .nx g2 => loopD t body ds g2
      | .ct g2 => loopD t body ds g2
      | .bk g2 => .nx g2
      | o => o
def oFor (src : Sg → R (List D)) (t : Tg) (body : Sg → Out) : Sg → Out := oE src fun g ds => loopD t body ds g
theorem ds_for {iter : Expr} {body : List Stmt} {src : Sg → R (List D)} {ixs : List Nat} {t : Tg} (hp : PassesOwn (model X.prog X.w) X.A X.env X.xe) (hc : X.calm = true) (hi : DI X B W tg iter src) (hg : DG X B tg ixs t) (hb : DSs X B W body u)
    (hs : ∀ x, foldedSetIterable iter X.env x = pure x := by intro _; rfl) : DS X B W (.For tg iter body [] pos) (oFor src t u) :=
  PS.imp (ps_for hp hc hi hg hb hs) fun Dn σ H ⟨g, Hd, rep, h⟩ => okE rep h fun ds J Hd1 H1 st ok rep1 h1 => by
    have ok : ItOk X.K X.w Hd1 J ds := ok
    have wk : Walk J ds.length (fun H => Same Hd1 H) (fun i H x H' => J.yld i H x H') := ⟨fun i H hi s => ok.goes i H hi s, fun H s => ok.stops H s, fun _ _ _ _ _ _ y => y⟩
    refine for_it wk (fun i σ H => ∃ g Hd2, Same Hd1 Hd2 ∧ Rep X.K X.w B Hd2 H σ g ∧ OkO X.K X.w B W Hd2 Dn (loopD t u (ds.drop i) g)) ⟨g, Hd1, .refl _, rep1, by rw [List.drop_zero]; exact h1⟩ (fun i σ H _ ⟨g, Hd2, s, r, _⟩ => s.trans r.same) (fun i x σ H H' hi ⟨g, Hd2, s, r, o⟩ y => ?_) fun σ H ⟨g, Hd2, s, r, o⟩ => ?_
    · obtain ⟨d, Hd3, hd, st2, rd⟩ := ok.yld i H x H' hi y Hd2 s r.same
      have r3 := r.step st2
      have o3 := OkO.mono st2.d o
      have ed : ds.drop i = d :: ds.drop (i + 1) := by
        obtain ⟨hl, e⟩ := List.getElem?_eq_some_iff.mp hd
        rw [List.drop_eq_getElem_cons hl, e]
      rw [ed] at o3
      refine ⟨d, g, Hd3, r3, rd, ?_⟩
      show match t d g with
        | some g' => _
        | none => False
      unfold loopD at o3
      cases e1 : t d g with
      | none => rw [e1] at o3; exact o3.elim
      | some g1 =>
        rw [e1] at o3
        refine fun σ' r4 _ _ => ⟨g1, Hd3, r4, ?_⟩
        simp only at o3
        have s3 := s.trans st2.d
        cases e2 : u g1 with
        | no => rw [e2] at o3; exact o3
        | nx g2 => rw [e2] at o3; exact fun σ5 Hd5 H5 s5 r5 => ⟨g2, Hd5, s3.trans s5, r5, OkO.mono s5 o3⟩
        | ct g2 => rw [e2] at o3; exact fun σ5 Hd5 H5 s5 r5 => ⟨g2, Hd5, s3.trans s5, r5, OkO.mono s5 o3⟩
        | bk g2 => rw [e2] at o3; exact o3
        | rt d => rw [e2] at o3; exact o3
        | rl ds => rw [e2] at o3; exact o3
        | rd kvs => rw [e2] at o3; exact o3
        | ex e g => rw [e2] at o3; exact o3
    · rw [List.drop_length] at o
      exact o σ Hd2 H (.refl _) r

/-! ### while -/
def whileD (c : Sg → R Bool) (body : Sg → Out) : Nat → Sg → Out
  | 0, _ => .no
  | n + 1, g => match c g with
    | .no => .no
    | .ex e => .ex e g
    | .ok false => .nx g
    | .ok true => match body g with
      | .nx g2 => whileD c body n g2
      | .ct g2 => whileD c body n g2
      | .bk g2 => .nx g2
      | o => o
theorem ds_while {body : List Stmt} (n : Nat) (hp : PassesOwn (model X.prog X.w) X.A X.env X.xe) (hc : DB X B W c t1) (hb : DSs X B W body u) : DS X B W (.While c body [] pos) (whileD t1 u n) :=
  PS.imp (ps_while hp hc hb) fun Dn σ H ⟨g, Hd, rep, h⟩ => ⟨fun m σ H => ∃ g Hd, Rep X.K X.w B Hd H σ g ∧ OkO X.K X.w B W Hd Dn (whileD t1 u m g), ⟨n, g, Hd, rep, h⟩, fun m σ H ⟨g, Hd, rep, h⟩ => by
    cases m with
    | zero => exact h.elim
    | succ m =>
      unfold whileD at h
      refine ⟨g, Hd, rep, ?_⟩
      cases e : t1 g with
      | no => rw [e] at h; exact h.elim
      | ex x => rw [e] at h; exact fun cls dd Hd' H' t x => h cls dd σ Hd' H' t.d (rep.step t) x
      | ok k =>
        rw [e] at h
        intro v Hd1 H1 st r
        cases (show v = k from r)
        have rep1 := rep.step st
        have h := OkO.mono st.d h
        cases k with
        | false => exact h σ Hd1 H1 (.refl _) rep1
        | true =>
          refine ⟨fun σ' H' => ∃ g Hd, Rep X.K X.w B Hd H' σ' g ∧ OkO X.K X.w B W Hd Dn (whileD t1 u m g), fun σ' H' q => ⟨m, Nat.lt_succ_self m, q⟩, g, Hd1, rep1, ?_⟩
          simp only at h
          cases e2 : u g with
          | no => rw [e2] at h; exact h
          | nx g2 => rw [e2] at h; exact fun σ5 Hd5 H5 s5 r5 => ⟨g2, Hd5, r5, OkO.mono s5 h⟩
          | ct g2 => rw [e2] at h; exact fun σ5 Hd5 H5 s5 r5 => ⟨g2, Hd5, r5, OkO.mono s5 h⟩
          | bk g2 => rw [e2] at h; exact h
          | rt d => rw [e2] at h; exact h
          | rl ds => rw [e2] at h; exact h
          | rd kvs => rw [e2] at h; exact h
          | ex e g => rw [e2] at h; exact h⟩

/-! ### comprehensions -/
def compD (t : Tg) (tt : Sg → R Bool) (te : Sg → R D) (g0 : Sg) : List D → R (List D)
  | [] => .ok []
  | d :: ds => match t d g0 with
    | none => .no
    | some g1 => match tt g1 with
      | .ok true => match te g1 with
        | .ok y => (compD t tt te g0 ds).map (y :: ·)
        | _ => .no
      | .ok false => compD t tt te g0 ds
      | _ => .no
theorem compD_noex {t : Tg} {tt : Sg → R Bool} {te : Sg → R D} {g0 : Sg} : ∀ {ds : List D} {e : Exc}, compD t tt te g0 ds ≠ .ex e
  | [], _, h => nomatch h
  | d :: ds, e, h => by
    unfold compD at h
    split at h
    · cases h
    · split at h
      · split at h
        · cases e2 : compD t tt te g0 ds with
          | no => rw [e2] at h; cases h
          | ok _ => rw [e2] at h; cases h
          | ex x => exact compD_noex e2
        · cases h
      · exact compD_noex h
      · cases h
def fLc (ixs : List Nat) (src : Sg → R (List D)) (t : Tg) (tt : Sg → R Bool) (te : Sg → R D) : Sg → R (List D) := fun g => (src g).bind fun ds => if ds.length ≤ big then compD t tt te (gwipe g ixs) ds else .no
abbrev WF : WX := fun _ _ _ _ => False
def tYesD : Sg → R Bool := fun _ => .ok true
theorem wipe_eq {σ σ' : L2.St} (hl : σ'.length = σ.length) {vs : List Nat} (h : ∀ j, j ∉ vs → σ'[j]? = σ[j]?) : wipe σ' vs = wipe σ vs := by
  apply List.ext_getElem?
  intro j
  have key : ∀ (us : List Nat) (τ τ' : L2.St), τ'.length = τ.length → (wipe τ us)[j]? = (wipe τ' us)[j]? ∨ (j ∉ us ∧ (wipe τ us)[j]? = τ[j]? ∧ (wipe τ' us)[j]? = τ'[j]?) := by
    intro us
    induction us with
    | nil => intro τ τ' _; exact .inr ⟨by simp, rfl, rfl⟩
    | cons u us ih =>
      intro τ τ' hl
      unfold wipe
      by_cases hj : u = j
      · subst hj
        left
        by_cases hz : u < τ.length
        · rw [List.getElem?_set_self (by rw [wipe_length]; exact hz), List.getElem?_set_self (by rw [wipe_length, hl]; exact hz)]
        · rw [List.getElem?_eq_none (by rw [List.length_set, wipe_length]; omega), List.getElem?_eq_none (by rw [List.length_set, wipe_length]; omega)]
      · rw [List.getElem?_set_ne hj, List.getElem?_set_ne hj]
        rcases ih τ τ' hl with q | ⟨q1, q2, q3⟩
        · exact .inl q
        · exact .inr ⟨by simp only [List.mem_cons, not_or]; exact ⟨fun e => hj e.symm, q1⟩, q2, q3⟩
  rcases key vs σ σ' hl with q | ⟨q1, q2, q3⟩
  · exact q.symm
  · rw [q3, q2, h j q1]
theorem wipe_wipe {σ : L2.St} (vs : List Nat) : wipe (wipe σ vs) vs = wipe σ vs := wipe_eq (wipe_length σ vs) fun j hj => by
  have key : ∀ us : List Nat, j ∉ us → (wipe σ us)[j]? = σ[j]? := by
    intro us
    induction us with
    | nil => intro _; rfl
    | cons u us ih =>
      intro hu
      simp only [List.mem_cons, not_or] at hu
      unfold wipe
      rw [List.getElem?_set_ne (Ne.symm hu.1)]
      exact ih hu.2
  exact key vs hj
theorem imp_lc {ixs vs : List Nat} {src : Sg → R (List D)} {t : Tg} {tt : Sg → R Bool} {te : Sg → R D} (hix : ∀ i ∈ ixs, i ∈ vs) {K : PySem.W.Frag} {w : World} {σ : L2.St} {H : Hp} {Q : VK} (h : tG K w (rlO K w) B W (fLc vs src t tt te) σ H Q) :
    tLc (tG K w (rlJ K w) B W src) (tGt K w B ixs t) (tG K w rlB B WF tt) (tG K w (rlD K w) B WF te) vs σ H Q := by
  obtain ⟨g, Hd, rep, h⟩ := h
  refine seq rep h fun ds J Hd1 H1 e1 s1 ok rep1 h1 => ?_
  have ok : ItOk K w Hd1 J ds := ok
  split at h1
  case isFalse => exact no_elim h1
  case isTrue hz =>
    intro Dl hDl
    have wk : Walk J ds.length (fun H => Same Hd1 H) (fun i H x H' => J.yld i H x H') := ⟨fun i H hi s => ok.goes i H hi s, fun H s => ok.stops H s, fun _ _ _ _ _ _ y => y⟩
    cases ec : compD t tt te (gwipe g vs) ds with
    | no => rw [ec] at h1; exact no_elim h1
    | ex x => exact absurd ec compD_noex
    | ok total =>
      rw [ec] at h1
      refine lc_it wk (fun i H => ∃ Hd2 acc done rest, Step Hd1 H1 Hd2 H ∧ Hd2 Dl = none ∧ H Dl = some (.lst acc) ∧ RpAll K w Hd2 acc done ∧ done.length ≤ i ∧ compD t tt te (gwipe g vs) (ds.drop i) = .ok rest ∧ done ++ rest = total)
        ⟨Hd1, [], [], total, Step.own rep1.same hDl, rep1.same.free hDl, upd_same, .nil, Nat.le_refl _, by rw [List.drop_zero]; exact ec, rfl⟩ (fun i H _ ⟨Hd2, acc, done, rest, s, _⟩ => s.d.trans s.s) (fun i x H H' hi ⟨Hd2, acc, done, rest, s, n, hD, ra, ld, er, et⟩ y => ?_) fun H ⟨Hd2, acc, done, rest, s, n, hD, ra, ld, er, et⟩ => ?_
      · obtain ⟨d, Hd3, hd, st2, rd⟩ := ok.yld i H x H' hi y Hd2 s.d s.s
        have s3 := s.trans st2
        have n3 := st2.n _ _ hD n
        have rep2 : Rep K w B Hd3 H' (wipe σ vs) (gwipe g vs) := (rep1.step s3).wipe vs
        have ed : ds.drop i = d :: ds.drop (i + 1) := by
          obtain ⟨hl, e⟩ := List.getElem?_eq_some_iff.mp hd
          rw [List.drop_eq_getElem_cons hl, e]
        rw [ed] at er
        unfold compD at er
        refine ⟨d, gwipe g vs, Hd3, rep2, rd, ?_⟩
        cases e2 : t d (gwipe g vs) with
        | none => rw [e2] at er; cases er
        | some g1 =>
          rw [e2] at er
          simp only at er
          refine fun σ2 r2 l2 k2 => ⟨(wipe_eq l2 fun j hj => k2 j fun z => hj (hix j z)).trans (wipe_wipe vs), g1, Hd3, r2, ?_⟩
          have hDl' : H' Dl = some (.lst acc) := st2.h _ _ hD
          cases e3 : tt g1 with
          | no => rw [e3] at er; cases er
          | ex x => rw [e3] at er; cases er
          | ok k =>
            rw [e3] at er
            intro b Hd4 H4 st4 rb
            cases (show b = k from rb)
            have s4 := s3.trans st4
            have n4 := st4.n _ _ hDl' n3
            have hD4 := st4.h _ _ hDl'
            cases k with
            | false =>
              rw [if_neg Bool.false_ne_true]
              exact ⟨Hd4, acc, done, rest, s4, n4, hD4, ra.mono (st2.d.trans st4.d), by omega, er, et⟩
            | true =>
              rw [if_pos rfl]
              simp only at er
              refine ⟨g1, Hd4, r2.step st4, ?_⟩
              cases e4 : te g1 with
              | no => rw [e4] at er; cases er
              | ex x => rw [e4] at er; cases er
              | ok yd =>
                rw [e4] at er
                intro yv Hd5 H5 st5 ry
                simp only at er
                cases e5 : compD t tt te (gwipe g vs) (ds.drop (i + 1)) with
                | no => rw [e5] at er; cases er
                | ex x => rw [e5] at er; cases er
                | ok rest' =>
                  rw [e5] at er
                  have er : R.ok (yd :: rest') = R.ok rest := er
                  cases er
                  have s5 := s4.trans st5
                  have n5 := st5.n _ _ hD4 n4
                  have hD5 := st5.h _ _ hD4
                  have la : acc.length ≤ i := by rw [ra.length]; exact ld
                  refine ⟨acc, hD5, big_lt (by omega), Hd5, acc ++ [yv], done ++ [yd], rest', ⟨s5.d, fun b o hb => ?_, fun b o hb => ?_, s5.n⟩, n5, upd_same, (ra.mono ((st2.d.trans st4.d).trans st5.d)).append (.cons ry .nil), by rw [List.length_append]; simp; omega, rfl, by rw [List.append_assoc]; exact et⟩
                  · rw [upd_ne (ne_of_none hb hDl)]
                    exact s5.h _ _ hb
                  · rw [upd_ne (ne_of_none hb n5)]
                    exact s5.s _ _ hb
      · rw [List.drop_length] at er
        have er : R.ok [] = R.ok rest := er
        cases er
        rw [List.append_nil] at et
        subst et
        exact h1.ok s ⟨Dl, acc, rfl, hDl, n, hD, ra⟩
abbrev DTs (X : Cx) (B : Bx) (W : WX) (ifs : List Expr) (tt : Sg → R Bool) : Prop := PTs X ifs (tG X.K X.w rlB B W tt)
theorem dts_nil : DTs X B W [] tYesD := ⟨fun pins s σ H Q I ⟨g, Hd, rep, h⟩ => pts_nil.run pins s σ H Q I (h.ok (Step.refl rep.same) rfl)⟩
theorem dts_one {c : Expr} {tt : Sg → R Bool} (h : DB X B W c tt) : DTs X B W [c] tt := pts_one h
theorem do_lc {elt tg iter : Expr} {ifs : List Expr} {scope : Scope} {own : List (Str × Nat)} {pos : Pos} {src : Sg → R (List D)} {ixs : List Nat} {t : Tg} {tt : Sg → R Bool} {te : Sg → R D} (hc : X.calm = true) (hN : X.N.Nodup) (hi : DI X B W tg iter src) (ok : BlkOk X.N X.env.scope scope own)
    (hg : ∀ (s : Shared) (H : Hp) (C : Addr) (cl : List (Str × Addr)) (fp : List Addr), DG (X.blk s H scope (compEnvC scope cl C X.env) fp) B tg ixs t) (ht : ∀ (s : Shared) (H : Hp) (C : Addr) (cl : List (Str × Addr)) (fp : List Addr), DTs (X.blk s H scope (compEnvC scope cl C X.env) fp) B WF ifs tt)
    (he : ∀ (s : Shared) (H : Hp) (C : Addr) (cl : List (Str × Addr)) (fp : List Addr), DE (X.blk s H scope (compEnvC scope cl C X.env) fp) B WF elt te) (hix : ∀ i ∈ ixs, i ∈ own.map (·.2) := by decide) (hs : ∀ x, foldedSetIterable iter X.env x = pure x := by intro _; rfl) :
    DO X B W (.ListComp elt [⟨tg, iter, ifs, 0⟩] scope pos) (fLc (own.map (·.2)) src t tt te) := PE.imp (pe_lc hc hN hi ok hg ht he hs) fun _ _ _ h => imp_lc hix h
/-- name = [..], the name a local: a datum from now on -/
theorem ds_setLc {i : Nat} {y : Str} {py : Pos} {elt tg iter : Expr} {ifs : List Expr} {scope : Scope} {own : List (Str × Nat)} {pos spos : Pos} {src : Sg → R (List D)} {ixs : List Nat} {t : Tg} {tt : Sg → R Bool} {te : Sg → R D} (hc : X.calm = true) (hN : X.N.Nodup) (hy : X.N[i]? = some y) (hyl : X.env.scope.names.lookup y = some .local)
    (hsw : swapsWith (.ListComp elt [⟨tg, iter, ifs, 0⟩] scope pos) (some (.Name y py)) spos.line X.env = pure true) (hi : DI X B W tg iter src) (ok : BlkOk X.N X.env.scope scope own)
    (hg : ∀ (s : Shared) (H : Hp) (C : Addr) (cl : List (Str × Addr)) (fp : List Addr), DG (X.blk s H scope (compEnvC scope cl C X.env) fp) B tg ixs t) (ht : ∀ (s : Shared) (H : Hp) (C : Addr) (cl : List (Str × Addr)) (fp : List Addr), DTs (X.blk s H scope (compEnvC scope cl C X.env) fp) B WF ifs tt)
    (he : ∀ (s : Shared) (H : Hp) (C : Addr) (cl : List (Str × Addr)) (fp : List Addr), DE (X.blk s H scope (compEnvC scope cl C X.env) fp) B WF elt te) (hix : ∀ i ∈ ixs, i ∈ own.map (·.2) := by decide) (hs : ∀ x, foldedSetIterable iter X.env x = pure x := by intro _; rfl) :
    DS X B W (.Assign [.Name y py] (.ListComp elt [⟨tg, iter, ifs, 0⟩] scope pos) spos) (oE (fLc (own.map (·.2)) src t tt te) fun g ds => .nx (g.set i (.lst ds))) :=
  PS.imp (ps_setLc hc hN hy hyl hsw hi ok hg ht he hs) fun Dn σ H ⟨g, Hd, rep, h⟩ => imp_lc hix (okE rep h fun d v Hd1 H1 t r rep1 h1 => h1 _ Hd1 H1 (.refl _) (rep.newL t rep1 r i))
end
end G
end

section
set_option Elab.async false
set_option linter.all false
set_option maxRecDepth 100000
set_option maxHeartbeats 4000000
/-! G7: defs, calls of defs; more of lists. -/
namespace G
open PySem PySem.Spec PyProof.Rows L2

/-- what a def hands back: a datum, a new list, a new dict -/
inductive Ret where
  | dat (d : D) | own (ds : List D) | odc (kvs : List (D × D))
def Ret.d : Ret → D
  | .dat d => d
  | .own ds => .list ds
  | .odc kvs => .dict kvs
def outR : Out → R Ret
  | .nx _ => .ok (.dat .none)
  | .rt d => .ok (.dat d)
  | .rl ds => .ok (.own ds)
  | .rd kvs => .ok (.odc kvs)
  | .ex e _ => .ex e
  | _ => .no
def initS (n : Nat) (ds : List D) : Sg := ds.map .dat ++ List.replicate (n - ds.length) .un
/-- a def as a function on data: n parameters, m names, its body -/
def runF (n m : Nat) (u : Sg → Out) (ds : List D) : R Ret := if ds.length = n then outR (u (initS m ds)) else .no
abbrev Fn := List D → R Ret
section
variable (K : PySem.W.Frag) (w : World)
def OkF (cl : Nat → Addr) (Hd H : Hp) (Q : VK) (E : XK) : R Ret → Prop
  | .no => False
  | .ok (.dat d) => ∀ v Hd' H', Step Hd H Hd' H' → Rp K w Hd' v d → Q v H'
  | .ok (.own ds) => ∀ p vs Hd' H', Step Hd H Hd' H' → H p = none → Hd' p = none → H' p = some (.lst vs) → RpAll K w Hd' vs ds → Q (.ref p) H'
  | .ok (.odc kvs) => ∀ p o ks Hd' H', Step Hd H Hd' H' → H p = none → Hd' p = none → H' p = some (dkO p o) → (p == sysModules) = false → DkIs w o ks → RpKvs K w Hd' ks kvs → Q (.ref p) H'
  | .ex e => ∀ cls dd Hd' H', Step Hd H Hd' H' → ExOk ⟨cl, Hd, H⟩ H' e cls dd → E cls dd H'
def spF (cl : Nat → Addr) (n : Nat) (φ : Fn) : Sp := fun vs H Q E => ∃ ds Hd, Same Hd H ∧ RpAll K w Hd vs ds ∧ ds.length = n ∧ OkF K w cl Hd H Q E (φ ds)
end
theorem spF_len {K : PySem.W.Frag} {w : World} {cl : Nat → Addr} {n : Nat} {φ : Fn} {vs : List V} {H : Hp} {Q : VK} {E : XK} (h : spF K w cl n φ vs H Q E) : vs.length = n := by
  obtain ⟨ds, Hd, s, r, l, _⟩ := h
  rw [r.length, l]
theorem getElem?_initS {m : Nat} {ds : List D} {i : Nat} {s : Sl} (h : (initS m ds)[i]? = some s) : (∃ d, ds[i]? = some d ∧ s = .dat d) ∨ s = .un := by
  unfold initS at h
  by_cases hi : i < ds.length
  · rw [List.getElem?_append_left (by simpa using hi), List.getElem?_map] at h
    obtain ⟨d, h1, h2⟩ := Option.map_eq_some_iff.mp h
    exact .inl ⟨d, h1, h2.symm⟩
  · rw [List.getElem?_append_right (by simpa using Nat.le_of_not_lt hi)] at h
    exact .inr (List.eq_of_mem_replicate (List.mem_of_getElem? h))
section
variable {P : Program} {w : World} {K : PySem.W.Frag} {mg : Str → Option Value} {base : Heap}
/-- a def's body as a function: the def keeps the promise of that function -/
theorem mk_def {x qual : Str} {st : Stmt} {f : Addr} {fd : FuncData} {N ps : List Str} {k : Nat} {cl : Nat → Addr} {u : Sg → Out} (F : Fun K x qual st f fd) (S : FnScope N ps (defScope st))
    (hu : ∀ (cdv : Value) (A : Around) (outer : List Env) (s : Shared) (H Hd : Hp) (E : XK), Room k (A.deeper (envOfC qual (defScope st) s.heap.objs.size f cdv)) →
      DSs (cxOf (L2.CX P w) P w K mg base N qual (defScope st) f cdv A outer s H E) ⟨cl, Hd, H⟩ (fun c d _ H' => E c d H') (defBody st) u) :
    FnOk P w K mg base (L2.CX P w) (k + 1) f fd ps (spF K w cl ps.length (runF ps.length N.length u)) := by
  refine F.okX S (fun vs H Q E h => spF_len h) fun cdv A outer s H vs Q E hr h => ?_
  obtain ⟨ds, Hd, sm, r, l, q⟩ := h
  refine ⟨_, hu cdv A outer s H Hd E hr, initS N.length ds, Hd, ⟨Step.refl sm, ?_, fun _ => 0, fun i j si sj _ ei _ oi _ => ?_, fun i s' e => ?_⟩, ?_⟩
  · unfold L2.start initS
    rw [List.length_append, List.length_append, List.length_map, List.length_map, List.length_replicate, List.length_replicate, r.length]
  · rcases getElem?_initS ei with ⟨d, _, rfl⟩ | rfl <;> cases oi
  · rcases getElem?_initS e with ⟨d, hd, rfl⟩ | rfl
    · obtain ⟨v, hv, rv⟩ := r.get hd
      refine ⟨v, ?_, rv⟩
      unfold L2.start
      have hi : i < vs.length := (List.getElem?_eq_some_iff.mp hv).1
      rw [List.getElem?_append_left (by simpa using hi), List.getElem?_map, hv]
      rfl
    · trivial
  · unfold runF at q
    rw [if_pos l] at q
    show OkO K w ⟨cl, Hd, H⟩ _ Hd { nx := fun _ H' => Q .non H', rt := Q } (u (initS N.length ds))
    cases e : u (initS N.length ds) with
    | no => rw [e] at q; exact q
    | nx g => rw [e] at q; exact fun σ Hd' H' s r => q .non Hd' H' r.base .non
    | rt d => rw [e] at q; exact fun v Hd' H' s st r => q v Hd' H' st r
    | rl l => rw [e] at q; exact fun p vs Hd' H' s st b n h r => q p vs Hd' H' st b n h r
    | rd l => rw [e] at q; exact fun p o ks Hd' H' s st b n h z i r => q p o ks Hd' H' st b n h z i r
    | bk g => rw [e] at q; exact q.elim
    | ct g => rw [e] at q; exact q.elim
    | ex x g => rw [e] at q; exact fun cls dd σ Hd' H' s r x => q cls dd Hd' H' r.base x
/-- the same promise by an equal function -/
theorem FnOk.fn {f : Addr} {fd : FuncData} {ps : List Str} {k n : Nat} {cl : Nat → Addr} {φ ψ : Fn} {CX : CXT} (h : FnOk P w K mg base CX k f fd ps (spF K w cl n φ)) (e : ∀ ds, ds.length = n → ψ ds ≠ .no → φ ds = ψ ds) : FnOk P w K mg base CX k f fd ps (spF K w cl n ψ) :=
  h.imp fun vs H Q E ⟨ds, Hd, s, r, l, q⟩ => ⟨ds, Hd, s, r, l, by
    rw [e ds l (fun z => by rw [z] at q; exact q)]
    exact q⟩
end

/-! ### calls -/
section
variable {X : Cx} {B : Bx} {W : WX} {e a b c tg iter : Expr} {es rest : List Expr} {st : Stmt} {sts : List Stmt} {pos pos' p p2 tpos : Pos} {f f1 f2 f3 : Sg → R D} {t1 t2 : Sg → R Bool} {u u1 u2 : Sg → Out}
def fCall (φ : Fn) (fs : Sg → R (List D)) : Sg → R D := fun g => (fs g).bind fun ds => (φ ds).map Ret.d
def fCallO (φ : Fn) (fs : Sg → R (List D)) : Sg → R (List D) := fun g => (fs g).bind fun ds => (φ ds).bind fun
  | .own l => .ok l
  | _ => .no
theorem imp_call {K : PySem.W.Frag} {w : World} {n : Nat} {φ : Fn} {fs : Sg → R (List D)} {σ : L2.St} {H : Hp} {Q : VK} (hn : ∀ g ds, fs g = .ok ds → ds.length = n) (h : tG K w (rlD K w) B W (fCall φ fs) σ H Q) :
    tCallS (spF K w B.cl n φ) (WE W) (tG K w (rlA K w) B W fs) σ H Q := by
  obtain ⟨g, Hd, rep, h⟩ := h
  refine seq rep h fun ds vs Hd1 H1 e1 s1 r1 rep1 h1 => ⟨ds, Hd1, rep1.same, r1, hn g ds e1, ?_⟩
  cases e : φ ds with
  | no => rw [e] at h1; exact h1
  | ex x => rw [e] at h1; exact fun cls dd Hd' H' t x => h1 cls dd Hd' H' t x
  | ok r =>
    rw [e] at h1
    cases r with
    | dat d => exact fun v Hd' H' t r => h1 v Hd' H' t r
    | own l =>
      exact fun p vs Hd' H' t n0 n hp r => h1.ok (t.freeze n0 n hp) (.lst upd_same (r.mono (same_upd n)))
    | odc l =>
      exact fun p o ks Hd' H' t n0 n hp z i r => h1.ok (t.freeze n0 n hp) (.dct upd_same z i (r.mono (same_upd n)))
theorem imp_callO {K : PySem.W.Frag} {w : World} {n : Nat} {φ : Fn} {fs : Sg → R (List D)} {σ : L2.St} {H : Hp} {Q : VK} (hn : ∀ g ds, fs g = .ok ds → ds.length = n) (h : tG K w (rlO K w) B W (fCallO φ fs) σ H Q) :
    tCallS (spF K w B.cl n φ) (WE W) (tG K w (rlA K w) B W fs) σ H Q := by
  obtain ⟨g, Hd, rep, h⟩ := h
  refine seq rep h fun ds vs Hd1 H1 e1 s1 r1 rep1 h1 => ⟨ds, Hd1, rep1.same, r1, hn g ds e1, ?_⟩
  cases e : φ ds with
  | no => rw [e] at h1; exact h1
  | ex x => rw [e] at h1; exact fun cls dd Hd' H' t x => h1 cls dd Hd' H' t x
  | ok r =>
    rw [e] at h1
    cases r with
    | dat d => exact h1.elim
    | own l => exact fun p vs Hd' H' t n0 n hp r => h1.ok t ⟨p, vs, rfl, n0, n, hp, r⟩
    | odc l => exact h1.elim
/-- what is known of a def: where it stands, that it keeps its promise -/
structure Has (P : Program) (w : World) (K : PySem.W.Frag) (mg : Str → Option Value) (base : Heap) (cl : Nat → Addr) (k : Nat) (x : Str) (ps : List Str) (φ : Fn) : Prop where
  ex : ∃ f fd, mg x = some (.ref f) ∧ PySem.W.keepIn K (.ref f) = true ∧ Binds K fd ps [] ∧ FnOk P w K mg base (L2.CX P w) k f fd ps (spF K w cl ps.length φ)
def fsLen (n : Nat) (fs : Sg → R (List D)) : Prop := ∀ g ds, fs g = .ok ds → ds.length = n
theorem len0 : fsLen 0 fNil := fun g ds h => by cases h; rfl
theorem lenS {n : Nat} {f : Sg → R D} {fs : Sg → R (List D)} (h : fsLen n fs) : fsLen (n + 1) (fCons f fs) := fun g ds e => by
  unfold fCons at e
  cases e1 : f g with
  | no => rw [e1] at e; cases e
  | ex x => rw [e1] at e; cases e
  | ok d =>
    rw [e1] at e
    cases e2 : fs g with
    | no => rw [e2] at e; cases e
    | ex x => rw [e2] at e; cases e
    | ok r =>
      rw [e2] at e
      have : R.ok (d :: r) = R.ok ds := e
      cases this
      rw [List.length_cons, h g r e2]
theorem de_call {x : Str} {k j : Nat} {ps : List Str} {φ : Fn} {fs : Sg → R (List D)} (F : Has X.prog X.w X.K X.mg X.base B.cl k x ps φ) (hr : Room j X.A) (hkj : k ≤ j) (tk : Takes X W) (hg : Gl X x) (ha : DA X B W (e :: es) fs) (hl : fsLen ps.length fs)
    (hdb : (x == ("__debug__" : Str)) = false := by decide) (he : starEach (e :: es) X.env = (false, eval e X.env) :: starEach es X.env := by rfl) (hpl : (backTo pos (starEach es X.env)).any (·.1) = false := by rfl) :
    DE X B W (.Call (.Name x p) (e :: es) [] pos) (fCall φ fs) := by
  obtain ⟨f, fd, hm, hk, hb, hF⟩ := F.ex
  exact PE.imp (pe_callS hF (hr.mono hkj) hg hm hk hb (fun σ => passAt tk σ) ha hdb he hpl) fun _ _ _ h => imp_call hl h
theorem do_call {x : Str} {k j : Nat} {ps : List Str} {φ : Fn} {fs : Sg → R (List D)} (F : Has X.prog X.w X.K X.mg X.base B.cl k x ps φ) (hr : Room j X.A) (hkj : k ≤ j) (tk : Takes X W) (hg : Gl X x) (ha : DA X B W (e :: es) fs) (hl : fsLen ps.length fs)
    (hdb : (x == ("__debug__" : Str)) = false := by decide) (he : starEach (e :: es) X.env = (false, eval e X.env) :: starEach es X.env := by rfl) (hpl : (backTo pos (starEach es X.env)).any (·.1) = false := by rfl) :
    DO X B W (.Call (.Name x p) (e :: es) [] pos) (fCallO φ fs) := by
  obtain ⟨f, fd, hm, hk, hb, hF⟩ := F.ex
  exact PE.imp (pe_callS hF (hr.mono hkj) hg hm hk hb (fun σ => passAt tk σ) ha hdb he hpl) fun _ _ _ h => imp_callO hl h

/-! ### methods on own lists -/
def extF : List D → D → R (List D) := fun ds d => match d with
  | .list zs => if ds.length + zs.length ≤ big then .ok (ds ++ zs) else .no
  | _ => .no
theorem ds_extend {i : Nat} {apos cpos : Pos} (hs : swapsWith (.Call (.Attribute a "extend" apos) [e] [] cpos) none pos.line X.env = pure false := by rfl)
    (hb : PE X (.Call (.Attribute a "extend" apos) [e] [] cpos) (tBM X.K "list" rExtend (tVar i) (tCons (tG X.K X.w (rlD X.K X.w) B W f) tNil))) :
    DS X B W (.Expr (.Call (.Attribute a "extend" apos) [e] [] cpos) pos) (oOwn i f extF) :=
  PS.imp (ps_expr hb hs) fun Dn σ H ⟨g, Hd, rep, h⟩ => by
    obtain ⟨p, vs, ds, ep, hp, eg, r, fin⟩ := ok_own rep h
    refine ⟨_, ep, .inl ⟨rfl, _, .of hp⟩, fin _ fun d v Hd1 H1 ds' t r1 hp1 r2 rep1 eF k => ?_⟩
    unfold extF at eF
    split at eF
    · split at eF
      case isFalse => cases eF
      case isTrue hz =>
        cases eF
        cases r1 with
        | lst hq rq => exact ⟨p, _, vs, _, rfl, rfl, hp1, rep1.same _ _ hq, by rw [r2.length, rq.length]; exact big_le hz, k _ (r2.append rq)⟩
    · cases eF
/-- the first item that is equal -/
def remF : List D → D → R (List D) := fun ds d => if fine d && PyData.plainAll ds && decide (ds.length ≤ big) then match ds.findIdx? fun z => PyData.eqv z d with
  | some j => .ok (ds.eraseIdx j)
  | none => .no else .no
def rRemD (K : PySem.W.Frag) : V → List V → Hp → VK → Prop := fun x xs H Q => ∃ (l : Addr) (vs : List V) (y : V) (ds : List D) (d : D) (j : Nat), x = .ref l ∧ xs = [y] ∧ H l = some (.lst vs) ∧ DpAll K H vs ds ∧ Dp K H y d ∧ PyData.plainAll ds = true ∧ fine d = true ∧ (ds.findIdx? fun z => PyData.eqv z d) = some j ∧
  Q .non (upd H l (.lst (vs.eraseIdx j)))
theorem mt_removeD (hu : X.A.units + 65 < cLine) : MtM X "list.remove" (rRemD X.K) := by
  intro pins s σ H x xs v us Q I rx rxs h
  obtain ⟨l, vs, y, ds, d, j, rfl, rfl, hl, ha, hy, pl, fd, hj, q⟩ := h
  cases rx
  cases rxs with
  | cons ry rt =>
    rename_i uy ut
    cases rt
    obtain ⟨bs, r1⟩ := Dp.reads I d y uy hy ry
    obtain ⟨z, its, n, r, hl', e⟩ := I.lstM hl
    obtain ⟨as, r2⟩ := Dp.readsAll I ds vs its ha r
    have hd := fine_iff.mp fd
    refine SeqAt.remove_list_data (vs := its.toArray) ⟨_, e, rfl, n, rfl⟩ (by simpa using r2) r1 pl hd.1 (by omega) hj (by rw [List.size_toArray, ← hl']; exact z) ?_
    refine ⟨.non, _, I.lset (its' := its.eraseIdx j) hl e ?_ (r.eraseIdx j) ?_, rfl, q⟩
    · show its.toArray.eraseIdxIfInBounds j = (its.eraseIdx j).toArray
      rw [List.eraseIdxIfInBounds_toArray]
    · have := len_erase vs j
      omega
theorem ds_remove {i : Nat} {apos cpos : Pos} (hs : swapsWith (.Call (.Attribute a "remove" apos) [e] [] cpos) none pos.line X.env = pure false := by rfl)
    (hb : PE X (.Call (.Attribute a "remove" apos) [e] [] cpos) (tBM X.K "list" (rRemD X.K) (tVar i) (tCons (tG X.K X.w (rlD X.K X.w) B W f) tNil))) :
    DS X B W (.Expr (.Call (.Attribute a "remove" apos) [e] [] cpos) pos) (oOwn i f remF) :=
  PS.imp (ps_expr hb hs) fun Dn σ H ⟨g, Hd, rep, h⟩ => by
    obtain ⟨p, vs, ds, ep, hp, eg, r, fin⟩ := ok_own rep h
    refine ⟨_, ep, .inl ⟨rfl, _, .of hp⟩, fin _ fun d v Hd1 H1 ds' t r1 hp1 r2 rep1 eF k => ?_⟩
    unfold remF at eF
    split at eF
    case isFalse => cases eF
    case isTrue hz =>
      simp only [Bool.and_eq_true] at hz
      split at eF
      · rename_i j hj
        cases eF
        have r1 : Rp X.K X.w Hd1 v d := r1
        exact ⟨p, vs, v, ds, d, j, rfl, rfl, hp1, (r2.mono rep1.same).dp hz.1.2, (r1.mono rep1.same).dp (fine_iff.mp hz.1.1).1, hz.1.2, hz.1.1, hj, k _ (r2.erase j)⟩
      · cases eF
/-- own[i] = e -/
def setF (d : D) : List D → D → R (List D) := fun ds k => match k with
  | .int k => (match ixN ds.length k with
    | some j => .ok (ds.set j d)
    | none => .no)
  | _ => .no
def oStore (i : Nat) (fv fi : Sg → R D) : Sg → Out := oE fv fun g d => oOwn i fi (setF d) g
theorem ds_store {i : Nat} {o ix : Expr} {fv fi : Sg → R D} (hps : PS X (.Assign [.Subscript o ix p2] e pos) (tAsg (tG X.K X.w (rlD X.K X.w) B W fv) (gSub (tVar i) (tG X.K X.w (rlT X.K X.w) B W fi) rSetL))) :
    DS X B W (.Assign [.Subscript o ix p2] e pos) (oStore i fv fi) := PS.imp hps fun Dn σ H ⟨g, Hd, rep, h⟩ => okE rep h fun d v Hd1 H1 t r rep1 h1 => by
  have r : Rp X.K X.w Hd1 v d := r
  obtain ⟨p, vs, ds, ep, hp, eg, rr, fin⟩ := ok_own rep1 h1
  refine ⟨_, ep, fin _ fun k u Hd2 H2 ds' t2 r1 hp1 r2 rep2 eF kk => ?_⟩
  have r1 : RpT X.K X.w Hd2 H2 u k := r1
  unfold setF at eF
  split at eF
  · split at eF
    · rename_i j hj
      cases eF
      obtain rfl := r1.int
      exact ⟨p, vs, _, j, rfl, rfl, hp1, by rw [r2.length]; exact hj, kk _ (r2.set (r.mono t2.d) j)⟩
    · cases eF
  · cases eF
end
end G
end

section
set_option Elab.async false
set_option linter.all false
set_option maxRecDepth 100000
set_option maxHeartbeats 4000000
/-! G8: sum, min, max, sorted, sets, count. -/
namespace PySem
open PyProof.Rows
theorem sum_intTupG {prog : Program} {w : World} {A : Around} {E : Value → Shared → Prop} {s : Shared} {l : Addr} {items : Array Value} {ns : List Int} {Q : Value → Shared → Prop} (hh : A.handled = none) (hl : s.heap.IsTuple l items) (hi : IntsAre items.toList ns)
    (h : ∀ h' tk t', (∀ b o, s.heap.get? b = some o → h'.get? b = some o) → Q (.int ns.sum t') { s with heap := h', toks := tk }) :
    wpAny (model prog w) A (call (.builtin "sum") [.ref l]) Q E s := by
  have hlt : l < s.heap.objs.size := by obtain ⟨o, ho, _⟩ := hl; exact Heap.lt_size ho
  obtain ⟨xs, e⟩ := hi.allInts.items
  have hn : numsOf (intItems xs).toList = ns := by rw [← e]; exact hi.numsOf
  rw [nums_intItems] at hn
  have e' : items = intItems xs := by
    apply Array.toList_inj.mp
    rw [← e]
  subst e'
  refine call_sum_walkG (wpAny_pyIter_tuple hl ?_)
  refine ⟨_, _, _, _, _, _, numAt xs, rfl, Walks.tuple (A := A.in1) hh s.heap.objs.size l (Nat.ne_of_lt hlt) (intItems xs), ⟨⟨_, Heap.get?_push_size _ rfl, rfl, rfl⟩, hl.at fun o e => Heap.get?_push_of_some _ e⟩, fun b hb => ?_, (fun _ _ => intItems_at), fun h' tk t' hk => ?_⟩
  · rw [Heap.size_push]
    have : b = s.heap.objs.size ∨ b = l := by simpa using hb
    rcases this with z | z
    · rw [z]; exact Nat.lt_succ_self _
    · rw [z]; exact Nat.lt_succ_of_lt hlt
  · have := h h' tk t' fun b o eb => hk b o (fun z => by
      have : b = s.heap.objs.size := by simpa using z
      exact absurd (this ▸ Heap.lt_size eb) (Nat.lt_irrefl _)) (Heap.get?_push_of_some _ eb)
    rw [← hn] at this
    have e2 : preSum (numAt xs) (intItems xs).size = (xs.toList.map (·.1)).sum := by
      have e3 : (intItems xs).size = xs.size := by simp [intItems]
      rw [e3, preSum_eq, List.take_of_length_le (by simp)]
    rw [e2]
    exact this
end PySem
namespace G
open PySem PySem.Spec PyProof.Rows L2
section
variable {X : Cx} {B : Bx} {W : WX} {e a b c : Expr} {es rest : List Expr} {pos p p2 : Pos} {f f1 f2 f3 : Sg → R D}
/-! ### lists of ints -/
def intsOf : List D → Option (List Int)
  | [] => some []
  | .int i :: ds => (intsOf ds).map (i :: ·)
  | _ :: _ => none
theorem intsOf_eq : ∀ {ds : List D} {ns : List Int}, intsOf ds = some ns → ds = ns.map .int
  | [], _, h => by cases h; rfl
  | .int i :: ds, ns, h => by
    obtain ⟨ms, h1, rfl⟩ := Option.map_eq_some_iff.mp (show (intsOf ds).map (i :: ·) = some ns from h)
    rw [intsOf_eq h1]
    rfl
  | .none :: _, _, h => by cases h
  | .bool _ :: _, _, h => by cases h
  | .str _ :: _, _, h => by cases h
  | .list _ :: _, _, h => by cases h
  | .tuple _ :: _, _, h => by cases h
  | .dict _ :: _, _, h => by cases h
@[simp] theorem intsOf_map (ns : List Int) : intsOf (ns.map .int) = some ns := by
  induction ns with
  | nil => rfl
  | cons n ns ih => show (intsOf (ns.map .int)).map (n :: ·) = _; rw [ih]; rfl
def onInts {α : Type} (F : List Int → R α) : D → R α
  | .list ds => (R.ofO (intsOf ds)).bind F
  | .tuple ds => (R.ofO (intsOf ds)).bind F
  | _ => .no
def sumD : D → R D := onInts fun ns => .ok (.int ns.sum)
def rSumA (K : PySem.W.Frag) : List V → Hp → VK → Prop := fun vs H Q => ∃ (a : Addr) (ns : List Int), vs = [V.ref a] ∧ (SqL K H a (ns.map V.int) ∨ SqT K H a (ns.map V.int)) ∧ Q (.int ns.sum) H
theorem cr_sumA (hc : X.calm = true) : CallR X (.builtin "sum") (rSumA X.K) := by
  intro pins s σ H xs us Q I r h
  obtain ⟨a, ns, rfl, hs, q⟩ := h
  rcases hs with hs | hs
  · exact cr_sum hc pins s σ H _ us Q I r ⟨a, ns, rfl, hs, q⟩
  · rw [Vals.ref1 r]
    obtain ⟨its, rv, p, hz⟩ := I.tuple hs
    exact PySem.sum_intTupG (I.ok.hd hc) p (by simpa using intsAre_of rv) fun h' tk t' k => ⟨.int ns.sum, H, I.kept (t' := tk) k, ⟨_, rfl⟩, q⟩
theorem de_sum (hc : X.calm = true) (hg : Gl X "sum") (hm : X.mg "sum" = none) (ha : DT X B W a f1) (he : starEach [a] X.env = (false, eval a X.env) :: starEach [] X.env := by rfl) (hpl : (backTo pos (starEach [] X.env)).any (·.1) = false := by rfl) :
    DE X B W (.Call (.Name "sum" p) [a] [] pos) (fUn sumD f1) := dr_callB1 (cr_sumA hc) (fun {Hd H σ x v Q} s r1 h => by
  unfold sumD onInts at h
  split at h
  · rename_i ds
    cases e1 : intsOf ds with
    | none => rw [e1] at h; exact no_elim h
    | some ns =>
      rw [e1] at h
      have := intsOf_eq e1
      subst this
      obtain ⟨p, vs, ev, hp, ra⟩ := r1.list s
      have ei := ra.ints
      subst ei
      subst ev
      exact ⟨p, ns, rfl, .inl (.of hp), h.ok (Step.refl s) (.int _)⟩
  · rename_i ds
    cases e1 : intsOf ds with
    | none => rw [e1] at h; exact no_elim h
    | some ns =>
      rw [e1] at h
      have := intsOf_eq e1
      subst this
      obtain ⟨p, vs, ev, hp, ra⟩ := r1.tup s
      have ei := ra.ints
      subst ei
      subst ev
      exact ⟨p, ns, rfl, .inr hp.sq, h.ok (Step.refl s) (.int _)⟩
  · exact no_elim h) hg hm boot_sum ha (he := he) (hpl := hpl)
/-- min of two ints -/
def min2D : D → D → R D
  | .int i, .int j => .ok (.int (if j < i then j else i))
  | _, _ => .no
theorem de_min2 (hc : X.calm = true) (hg : Gl X "min") (hm : X.mg "min" = none) (ha : DT X B W a f1) (hb : DT X B W b f2) (he : starEach [a, b] X.env = (false, eval a X.env) :: starEach [b] X.env := by rfl) (he2 : starEach [b] X.env = (false, eval b X.env) :: starEach [] X.env := by rfl) (hpl : (backTo pos (starEach [b] X.env)).any (·.1) = false := by rfl) :
    DE X B W (.Call (.Name "min" p) [a, b] [] pos) (fBin min2D f1 f2) := PE.imp (pe_callB (call_min2 hc) hg hm boot_min (pa_cons ha (pa_cons hb pa_nil he2) he) (he := he) (hpl := hpl)) fun σ H Q ⟨g, Hd, rep, h⟩ =>
  seq rep h fun x v Hd1 H1 _ s1 r1 rep1 h1 => seq rep1 h1 fun y u Hd2 H2 _ s2 r2 rep2 h2 => by
    have r1 : RpT X.K X.w Hd1 H1 v x := r1
    have r1 := RpT.step s2 r1
    have r2 : RpT X.K X.w Hd2 H2 u y := r2
    unfold min2D at h2
    split at h2
    · obtain rfl := r1.int
      obtain rfl := r2.int
      exact ⟨_, _, rfl, h2.ok (Step.refl rep2.same) (.int _)⟩
    · exact no_elim h2

/-! ### the least, the greatest of data that are alike -/
mutual
def likeB : D → D → Bool
  | .none, .none => true
  | .bool _, .bool _ => true
  | .int _, .int _ => true
  | .str _, .str _ => true
  | .list xs, .list ys => likeAll xs ys
  | .tuple xs, .tuple ys => likeAll xs ys
  | _, _ => false
def likeAll : List D → List D → Bool
  | [], [] => true
  | x :: xs, y :: ys => likeB x y && likeAll xs ys
  | _, _ => false
end
mutual
theorem alike_of : ∀ (z x y : D), likeB x z = true → likeB y z = true → PySem.W.alike x y = true
  | .none, x, y, h1, h2 => by cases x <;> cases y <;> simp_all [likeB, PySem.W.alike]
  | .bool _, x, y, h1, h2 => by cases x <;> cases y <;> simp_all [likeB, PySem.W.alike]
  | .int _, x, y, h1, h2 => by cases x <;> cases y <;> simp_all [likeB, PySem.W.alike]
  | .str _, x, y, h1, h2 => by cases x <;> cases y <;> simp_all [likeB, PySem.W.alike]
  | .list zs, x, y, h1, h2 => by
    cases x with
    | list xs =>
      cases y with
      | list ys =>
        rw [PySem.W.alike]
        exact alikeAll_of zs xs ys (by simpa [likeB] using h1) (by simpa [likeB] using h2)
      | _ => simp [likeB] at h2
    | _ => simp [likeB] at h1
  | .tuple zs, x, y, h1, h2 => by
    cases x with
    | tuple xs =>
      cases y with
      | tuple ys =>
        rw [PySem.W.alike]
        exact alikeAll_of zs xs ys (by simpa [likeB] using h1) (by simpa [likeB] using h2)
      | _ => simp [likeB] at h2
    | _ => simp [likeB] at h1
  | .dict _, x, y, h1, h2 => by cases x <;> simp [likeB] at h1
theorem alikeAll_of : ∀ (zs xs ys : List D), likeAll xs zs = true → likeAll ys zs = true → PySem.W.alikeAll xs ys = true
  | [], xs, ys, h1, h2 => by
    cases xs with
    | nil => simp [PySem.W.alikeAll]
    | cons _ _ => simp [likeAll] at h1
  | z :: zs, xs, ys, h1, h2 => by
    cases xs with
    | nil => simp [PySem.W.alikeAll]
    | cons x xs =>
      cases ys with
      | nil => simp [PySem.W.alikeAll]
      | cons y ys =>
        simp only [likeAll, Bool.and_eq_true] at h1 h2
        simp only [PySem.W.alikeAll, Bool.and_eq_true]
        exact ⟨alike_of z x y h1.1 h2.1, alikeAll_of zs xs ys h1.2 h2.2⟩
end
mutual
theorem plain_of_like : ∀ (z x : D), likeB x z = true → x.plain = true
  | .none, x, h => by cases x <;> simp_all [likeB, PyData.plain]
  | .bool _, x, h => by cases x <;> simp_all [likeB, PyData.plain]
  | .int _, x, h => by cases x <;> simp_all [likeB, PyData.plain]
  | .str _, x, h => by cases x <;> simp_all [likeB, PyData.plain]
  | .list zs, x, h => by
    cases x with
    | list xs => rw [PyData.plain]; exact plainAll_of_like zs xs (by simpa [likeB] using h)
    | _ => simp [likeB] at h
  | .tuple zs, x, h => by
    cases x with
    | tuple xs => rw [PyData.plain]; exact plainAll_of_like zs xs (by simpa [likeB] using h)
    | _ => simp [likeB] at h
  | .dict _, x, h => by cases x <;> simp [likeB] at h
theorem plainAll_of_like : ∀ (zs xs : List D), likeAll xs zs = true → PyData.plainAll xs = true
  | [], xs, h => by
    cases xs with
    | nil => rfl
    | cons _ _ => simp [likeAll] at h
  | z :: zs, xs, h => by
    cases xs with
    | nil => rfl
    | cons x xs =>
      simp only [likeAll, Bool.and_eq_true] at h
      simp only [PyData.plainAll, Bool.and_eq_true]
      exact ⟨plain_of_like z x h.1, plainAll_of_like zs xs h.2⟩
end
/-- all alike the first, not too deep -/
def sameKind : List D → Bool
  | [] => true
  | z :: zs => (z :: zs).all (fun d => likeB d z && decide (d.depth ≤ 60)) && decide (zs.length < big)
theorem sameKind_mem {ds : List D} (h : sameKind ds = true) : ∃ z, ∀ d ∈ ds, likeB d z = true ∧ d.depth ≤ 60 := by
  cases ds with
  | nil => exact ⟨.none, fun _ h => nomatch h⟩
  | cons z zs =>
    unfold sameKind at h
    rw [Bool.and_eq_true, List.all_eq_true] at h
    exact ⟨z, fun d hd => by
      have := h.1 d hd
      rw [Bool.and_eq_true, decide_eq_true_iff] at this
      exact this⟩
theorem sameKind_plain {ds : List D} (h : sameKind ds = true) : PyData.plainAll ds = true := by
  obtain ⟨z, hz⟩ := sameKind_mem h
  clear h
  induction ds with
  | nil => rfl
  | cons d ds ih =>
    rw [PyData.plainAll, Bool.and_eq_true]
    exact ⟨plain_of_like z d (hz d List.mem_cons_self).1, ih fun e he => hz e (List.mem_cons_of_mem _ he)⟩
theorem sameKind_depth {ds : List D} (h : sameKind ds = true) : PyData.depthAll ds ≤ 60 := by
  obtain ⟨z, hz⟩ := sameKind_mem h
  clear h
  induction ds with
  | nil => exact Nat.zero_le _
  | cons d ds ih =>
    rw [PyData.depthAll]
    have := (hz d List.mem_cons_self).2
    have := ih fun e he => hz e (List.mem_cons_of_mem _ he)
    omega
theorem sameKind_alike {ds : List D} (h : sameKind ds = true) : ∀ d ∈ ds, ∀ e ∈ ds, PySem.W.alike d e = true := by
  obtain ⟨z, hz⟩ := sameKind_mem h
  exact fun d hd e he => alike_of z d e (hz d hd).1 (hz e he).1

theorem dpAll_of {K : PySem.W.Frag} {w : World} {H : Hp} {vs : List V} {ds : List D} (r : RpAll K w H vs ds) (h : sameKind ds = true) : DpAll K H vs ds := r.dp (sameKind_plain h)
theorem dpAll_at {K : PySem.W.Frag} {H : Hp} : ∀ {vs : List V} {ds : List D}, DpAll K H vs ds → vs.length = ds.length
  | _, _, .nil => rfl
  | _, _, .cons _ t => congrArg (· + 1) (dpAll_at t)
/-- min, max of a list or a tuple -/
def best (F : D → List D → D) : D → R D
  | .list (d :: ds) => if sameKind (d :: ds) && !isNone d then .ok (F d ds) else .no
  | .tuple (d :: ds) => if sameKind (d :: ds) && !isNone d then .ok (F d ds) else .no
  | _ => .no
def minA : D → R D := best PySem.W.minD
def maxA : D → R D := best PySem.W.maxD
theorem minD_mem (x : D) (xs : List D) : PySem.W.minD x xs ∈ x :: xs := by
  unfold PySem.W.minD
  induction xs generalizing x with
  | nil => simp
  | cons y ys ih =>
    rw [List.foldl_cons]
    have := ih (if PySem.W.dataLt y x = true then y else x)
    rcases List.mem_cons.mp this with e | e
    · rw [e]
      split <;> simp
    · simp [e]
theorem maxD_mem (x : D) (xs : List D) : PySem.W.maxD x xs ∈ x :: xs := by
  unfold PySem.W.maxD
  induction xs generalizing x with
  | nil => simp
  | cons y ys ih =>
    rw [List.foldl_cons]
    have := ih (if PySem.W.dataLt x y = true then y else x)
    rcases List.mem_cons.mp this with e | e
    · rw [e]
      split <;> simp
    · simp [e]
def rBest (K : PySem.W.Frag) (F : D → List D → D) : List V → Hp → VK → Prop := fun us H Q => ∃ (a : Addr) (vs : List V) (d : D) (ds : List D), us = [V.ref a] ∧ (SqL K H a vs ∨ SqT K H a vs) ∧ DpAll K H vs (d :: ds) ∧ sameKind (d :: ds) = true ∧ isNone d = false ∧
  ∀ (i : Nat) (v : V) (d' : D), vs[i]? = some v → (d :: ds)[i]? = some d' → d' = F d ds → Q v H
theorem alikeAll_mk {d : D} {ds : List D} (h : sameKind (d :: ds) = true) (n : isNone d = false) : PySem.W.AlikeAll (d :: ds) := by
  refine ⟨sameKind_alike h, fun x hx e => ?_⟩
  have := sameKind_alike h d List.mem_cons_self x hx
  rw [e] at this
  cases d <;> simp_all [PySem.W.alike, isNone]

theorem reads_at {h : Heap} : ∀ {us : List Value} {ds : List D} {as : List Addr} {i : Nat} {u : Value} {d : D}, ReadsAll h us ds as → us[i]? = some u → ds[i]? = some d → ∃ bs, Reads h u d bs
  | _, _, _, _, _, _, .nil, e, _ => by simp at e
  | _, _, _, 0, _, _, .cons r _, e1, e2 => by simp at e1 e2; subst e1; subst e2; exact ⟨_, r⟩
  | _, _, _, i + 1, _, _, .cons _ t, e1, e2 => reads_at (i := i) t (by simpa using e1) (by simpa using e2)
theorem best_fin {pins : List (Addr × Obj)} {σ : L2.St} {s : Shared} {H : Hp} {Q : VK} {F : D → List D → D} {vs : List V} {its : List Value} {d : D} {ds : List D} {as : List Addr} (I : Inv X pins σ H s) (rv : Vals vs its) (ra : ReadsAll s.heap its (d :: ds) as) (hk : sameKind (d :: ds) = true)
    (q : ∀ (i : Nat) (v : V) (d' : D), vs[i]? = some v → (d :: ds)[i]? = some d' → d' = F d ds → Q v H) (i : Nat) (v : Value) (h' : Heap) (tk : Nat) (bs : List Addr) (hv : its.toArray[i]? = some v) (hr : Reads h' v (F d ds) bs) (k : ∀ b o, s.heap.get? b = some o → h'.get? b = some o) :
    EP X pins σ Q v { s with heap := h', toks := tk } := by
  have hv' : its[i]? = some v := by simpa using hv
  have hi : i < its.length := (List.getElem?_eq_some_iff.mp hv').1
  have hi1 : i < vs.length := by rw [rv.length]; exact hi
  have hi2 : i < (d :: ds).length := by rw [← SeqAt.ReadsAll.length _ _ _ ra]; exact hi
  obtain ⟨u, hu, ru⟩ := rv.get (List.getElem?_eq_getElem hi1)
  rw [hv'] at hu
  cases hu
  obtain ⟨cs, hd⟩ := reads_at ra hv' (List.getElem?_eq_getElem hi2)
  have pl : ((d :: ds)[i]).plain = true := by
    obtain ⟨z, hz⟩ := sameKind_mem hk
    exact plain_of_like z _ (hz _ (List.getElem_mem hi2)).1
  have e := SeqAt.plain_unique _ _ _ _ _ pl (PyProof.Rows.Reads.keeps k hd) hr
  exact ⟨_, H, I.kept (t' := tk) k, ru, q i _ _ (List.getElem?_eq_getElem hi1) (List.getElem?_eq_getElem hi2) e⟩
theorem cr_min (hc : X.calm = true) (hu : X.A.units + 64 < cLine) : CallR X (.builtin "min") (rBest X.K PySem.W.minD) := by
  intro pins s σ H xs us Q I r h
  obtain ⟨a, vs, d, ds, rfl, hs, hd, hk, hn, q⟩ := h
  have dep := sameKind_depth hk
  have al := alikeAll_mk hk hn
  rw [Vals.ref1 r]
  rcases hs with hs | hs
  · obtain ⟨its, rv, p, hz⟩ := I.list hs
    obtain ⟨as, ra⟩ := Dp.readsAll I _ _ _ hd rv
    exact PySem.W.min_list_data (I.ok.hd hc) p.isList (by simpa using ra) al (by omega) fun i v h' tk bs hv hr k => best_fin I rv ra hk q i v h' tk bs hv hr k
  · obtain ⟨its, rv, p, hz⟩ := I.tuple hs
    obtain ⟨as, ra⟩ := Dp.readsAll I _ _ _ hd rv
    exact PySem.W.min_tuple_data (I.ok.hd hc) p (by simpa using ra) al (by omega) fun i v h' tk bs hv hr k => best_fin I rv ra hk q i v h' tk bs hv hr k
theorem cr_max (hc : X.calm = true) (hu : X.A.units + 64 < cLine) : CallR X (.builtin "max") (rBest X.K PySem.W.maxD) := by
  intro pins s σ H xs us Q I r h
  obtain ⟨a, vs, d, ds, rfl, hs, hd, hk, hn, q⟩ := h
  have dep := sameKind_depth hk
  have al := alikeAll_mk hk hn
  rw [Vals.ref1 r]
  rcases hs with hs | hs
  · obtain ⟨its, rv, p, hz⟩ := I.list hs
    obtain ⟨as, ra⟩ := Dp.readsAll I _ _ _ hd rv
    exact PySem.W.max_list_data (I.ok.hd hc) p.isList (by simpa using ra) al (by omega) fun i v h' tk bs hv hr k => best_fin I rv ra hk q i v h' tk bs hv hr k
  · obtain ⟨its, rv, p, hz⟩ := I.tuple hs
    obtain ⟨as, ra⟩ := Dp.readsAll I _ _ _ hd rv
    exact PySem.W.max_tuple_data (I.ok.hd hc) p (by simpa using ra) al (by omega) fun i v h' tk bs hv hr k => best_fin I rv ra hk q i v h' tk bs hv hr k
theorem hF_best {F : D → List D → D} {Hd H : Hp} {σ : L2.St} {x : D} {v : V} {Q : VK} (s : Same Hd H) (r1 : RpT X.K X.w Hd H v x) (h : OkG (rlD X.K X.w) B W Hd H σ Q (best F x)) : rBest X.K F [v] H Q := by
  unfold best at h
  split at h
  · rename_i d ds
    split at h
    case isFalse => exact no_elim h
    case isTrue hz =>
      rw [Bool.and_eq_true, Bool.not_eq_true'] at hz
      obtain ⟨p, vs, ev, hp, ra⟩ := r1.list s
      subst ev
      refine ⟨p, vs, d, ds, rfl, .inl (.of hp), dpAll_of (ra.mono s) hz.1, hz.1, hz.2, fun i u d' hu hd' e => ?_⟩
      obtain ⟨d2, h2, r2⟩ := ra.get' hu
      rw [hd'] at h2
      cases h2
      exact h.ok (Step.refl s) (e ▸ r2)
  · rename_i d ds
    split at h
    case isFalse => exact no_elim h
    case isTrue hz =>
      rw [Bool.and_eq_true, Bool.not_eq_true'] at hz
      obtain ⟨p, vs, ev, hp, ra⟩ := r1.tup s
      subst ev
      refine ⟨p, vs, d, ds, rfl, .inr hp.sq, dpAll_of (ra.mono s) hz.1, hz.1, hz.2, fun i u d' hu hd' e => ?_⟩
      obtain ⟨d2, h2, r2⟩ := ra.get' hu
      rw [hd'] at h2
      cases h2
      exact h.ok (Step.refl s) (e ▸ r2)
  · exact no_elim h
theorem de_min (hc : X.calm = true) (hu : X.A.units + 64 < cLine) (hg : Gl X "min") (hm : X.mg "min" = none) (ha : DT X B W a f1) (he : starEach [a] X.env = (false, eval a X.env) :: starEach [] X.env := by rfl) (hpl : (backTo pos (starEach [] X.env)).any (·.1) = false := by rfl) :
    DE X B W (.Call (.Name "min" p) [a] [] pos) (fUn minA f1) := dr_callB1 (cr_min hc hu) (fun s r1 h => hF_best s r1 h) hg hm boot_min ha (he := he) (hpl := hpl)
theorem de_max (hc : X.calm = true) (hu : X.A.units + 64 < cLine) (hg : Gl X "max") (hm : X.mg "max" = none) (ha : DT X B W a f1) (he : starEach [a] X.env = (false, eval a X.env) :: starEach [] X.env := by rfl) (hpl : (backTo pos (starEach [] X.env)).any (·.1) = false := by rfl) :
    DE X B W (.Call (.Name "max" p) [a] [] pos) (fUn maxA f1) := dr_callB1 (cr_max hc hu) (fun s r1 h => hF_best s r1 h) hg hm boot_max ha (he := he) (hpl := hpl)

/-! ### sorted(set(ints)) -/
def sortU (ns : List Int) : List Int := ns.foldr (fun n acc => (acc.filter (· < n)) ++ n :: (acc.filter (n < ·))) []
theorem sortU_mem (ns : List Int) (k : Int) : k ∈ sortU ns ↔ k ∈ ns := by
  induction ns with
  | nil => simp [sortU]
  | cons n ns ih =>
    show k ∈ ((sortU ns).filter (· < n)) ++ n :: ((sortU ns).filter (n < ·)) ↔ _
    simp only [List.mem_append, List.mem_filter, List.mem_cons, decide_eq_true_eq, ih]
    constructor
    · rintro (⟨h, _⟩ | h | ⟨h, _⟩)
      · exact .inr h
      · exact .inl h
      · exact .inr h
    · rintro (h | h)
      · exact .inr (.inl h)
      · rcases Int.lt_trichotomy k n with z | z | z
        · exact .inl ⟨h, z⟩
        · exact .inr (.inl z)
        · exact .inr (.inr ⟨h, z⟩)
theorem sortU_pw (ns : List Int) : (sortU ns).Pairwise (· < ·) := by
  induction ns with
  | nil => exact .nil
  | cons n ns ih =>
    show (((sortU ns).filter (· < n)) ++ n :: ((sortU ns).filter (n < ·))).Pairwise _
    rw [List.pairwise_append]
    refine ⟨ih.filter _, List.pairwise_cons.mpr ⟨fun k hk => ?_, ih.filter _⟩, fun a ha b hb => ?_⟩
    · simpa using (List.mem_filter.mp hk).2
    · have h1 : a < n := by simpa using (List.mem_filter.mp ha).2
      rcases List.mem_cons.mp hb with rfl | hb
      · exact h1
      · have h2 : n < b := by simpa using (List.mem_filter.mp hb).2
        omega
theorem pw_unique : ∀ {xs ys : List Int}, xs.Pairwise (· < ·) → ys.Pairwise (· < ·) → (∀ k, k ∈ xs ↔ k ∈ ys) → xs = ys
  | [], [], _, _, _ => rfl
  | [], y :: ys, _, _, h => by have := (h y).mpr List.mem_cons_self; simp at this
  | x :: xs, [], _, _, h => by have := (h x).mp List.mem_cons_self; simp at this
  | x :: xs, y :: ys, hx, hy, h => by
    obtain ⟨hx1, hx2⟩ := List.pairwise_cons.mp hx
    obtain ⟨hy1, hy2⟩ := List.pairwise_cons.mp hy
    have e : x = y := by
      rcases List.mem_cons.mp ((h x).mp List.mem_cons_self) with e | hm
      · exact e
      · rcases List.mem_cons.mp ((h y).mpr List.mem_cons_self) with e | hm'
        · exact e.symm
        · have := hx1 y hm'
          have := hy1 x hm
          omega
    subst e
    congr 1
    refine pw_unique hx2 hy2 fun k => ?_
    have hk := h k
    simp only [List.mem_cons] at hk
    constructor
    · intro hm
      have := hx1 k hm
      rcases hk.mp (.inr hm) with e | hm'
      · omega
      · exact hm'
    · intro hm
      have := hy1 k hm
      rcases hk.mpr (.inr hm) with e | hm'
      · omega
      · exact hm'
def rSetTup (K : PySem.W.Frag) (w : World) : List V → Hp → VK → Prop := fun xs H Q => ∃ (p : Addr) (ns : List Int), xs = [.ref p] ∧ SqT K H p (ns.map V.int) ∧ ns.length ≤ 1000 ∧ ∀ (a : Addr) (c : Nat), H a = none → c ≤ ns.length → Q (.ref a) (upd H a (SetO w a (fun j => decide (j ∈ ns)) c))
theorem cr_setTup (hc : X.calm = true) : CallR X (.type "set") (rSetTup X.K X.w) := by
  intro pins s σ H xs us Q I r h
  obtain ⟨p, ns, rfl, hs, hn, q⟩ := h
  rw [Vals.ref1 r]
  obtain ⟨its, rv, ht, hz⟩ := I.tuple hs
  refine call_set_tupI ns (I.ok.hd hc) ht (by simpa using intsAre_of rv) (by unfold scanBound; omega) fun h' tk c R hcn k => ?_
  exact ⟨.ref _, upd H s.heap.objs.size (SetO X.w s.heap.objs.size _ c), I.laid (t' := tk) k (Nat.le_refl _) (setO_new R), rfl, q _ c (I.hok.fresh (Nat.le_refl _)) hcn⟩
def ssD : D → R (List D) := fun
  | .tuple ds => (R.ofO (intsOf ds)).bind fun ns => if ns.length < 64 then .ok ((sortU ns).map .int) else .no
  | _ => .no
theorem boot_set : bootBuiltins "set" = some (.type "set") := by decide +kernel
theorem do_sortset (hc : X.calm = true) (hg : Gl X "sorted") (hm : X.mg "sorted" = none) (hg2 : Gl X "set") (hm2 : X.mg "set" = none) (ha : DT X B W a f1) (he : starEach [a] X.env = (false, eval a X.env) :: starEach [] X.env := by rfl) (hpl : (backTo p2 (starEach [] X.env)).any (·.1) = false := by rfl)
    {ps : Pos} (he2 : starEach [.Call (.Name "set" ps) [a] [] p2] X.env = (false, eval (.Call (.Name "set" ps) [a] [] p2) X.env) :: starEach [] X.env := by rfl) (hpl2 : (backTo pos (starEach [] X.env)).any (·.1) = false := by rfl) :
    DO X B W (.Call (.Name "sorted" p) [.Call (.Name "set" ps) [a] [] p2] [] pos) (fUn ssD f1) :=
  PE.imp (pe_callB (cr_sortedSet hc) hg hm boot_sorted (pa_cons (pe_callTy (cr_setTup hc) hg2 hm2 boot_set (pa_cons ha pa_nil he) (he := he) (hpl := hpl)) pa_nil he2) (he := he2) (hpl := hpl2)) fun σ H Q ⟨g, Hd, rep, h⟩ => seq rep h fun x v Hd1 H1 _ s1 r1 rep1 h1 => by
    have r1 : RpT X.K X.w Hd1 H1 v x := r1
    unfold ssD at h1
    split at h1
    · rename_i ds _ _
      cases e1 : intsOf ds with
      | none => rw [e1] at h1; exact no_elim h1
      | some ns =>
        rw [e1] at h1
        have h1 : OkG (rlO X.K X.w) B W Hd1 H1 σ Q (if ns.length < 64 then .ok ((sortU ns).map .int) else .no) := h1
        have := intsOf_eq e1
        subst this
        split at h1
        case isFalse => exact no_elim h1
        case isTrue hz =>
          obtain ⟨q, vs, ev, hp, ra⟩ := r1.tup rep1.same
          have ei := ra.ints
          subst ei
          subst ev
          refine ⟨q, ns, rfl, hp.sq, by omega, fun sa c hsa hcn => ⟨sa, _, c, rfl, upd_same, by omega, fun ms l pw mem len hl => ?_⟩⟩
          have em : ms = sortU ns := pw_unique pw (sortU_pw ns) fun k => by rw [mem, sortU_mem]; simp
          subst em
          have t := (Step.own (o := SetO X.w sa (fun j => decide (j ∈ ns)) c) rep1.same hsa)
          have t2 := t.trans (Step.own (o := .lst ((sortU ns).map V.int)) t.s hl)
          have hl1 : H1 l = none := by
            have := hl
            by_cases z : l = sa
            · rw [z, upd_same] at this
              cases this
            · rw [upd_ne z] at this
              exact this
          exact h1.ok t2 ⟨l, _, rfl, hl1, rep1.same.free hl1, upd_same, RpAll.of_ints _⟩
    · exact no_elim h1
end
end G
end

section
set_option Elab.async false
set_option linter.all false
set_option maxRecDepth 100000
set_option maxHeartbeats 4000000
/-! G9: methods of built-in types. -/
namespace G
open PySem PySem.Spec PyProof.Rows L2
/-- what a method's receiver is: as tyV, or a known tuple, or a dict whose object is known -/
def tyF (K : PySem.W.Frag) (T : String) (x : V) (H : Hp) : Prop := tyV K T x H ∨ (T = "tuple" ∧ ∃ p vs, x = .ref p ∧ Fz H p vs) ∨ (T = "dict" ∧ ∃ p o, x = .ref p ∧ H p = some (dkO p o) ∧ o.ExactDict)
section
variable {X : Cx} {B : Bx} {W : WX} {e a b c o : Expr} {es rest : List Expr} {pos p p2 apos cpos : Pos} {f f1 f2 f3 : Sg → R D}
theorem tyF_is {pins : List (Addr × Obj)} {σ : L2.St} {H : Hp} {s : Shared} {T : String} {x : V} {v : Value} (I : Inv X pins σ H s) (r : RelV x v) (ty : tyF X.K T x H) :
    s.TypeIs v T ∧ ∀ a, v = .ref a → ∃ ob, s.heap.get? a = some ob ∧ ob.dict = none := by
  rcases ty with ty | ⟨rfl, p, vs, rfl, h⟩ | ⟨rfl, p, o, rfl, h, ex⟩
  · exact tyV_is I r ty
  · cases r
    obtain ⟨ob, its, ho, hd, hc, _, _⟩ := h.obj I
    exact ⟨⟨ob, ho, hc⟩, fun a e => by cases e; exact ⟨ob, ho, hd⟩⟩
  · cases r
    have ho : s.heap.get? p = some o := (I.hok p _ h).1
    exact ⟨⟨o, ho, ex.1⟩, fun a e => by cases e; exact ⟨o, ho, ex.2.1⟩⟩
def tBF0 (K : PySem.W.Frag) (T : String) (r : V → List V → Hp → VK → Prop) (to : TE) : TE := fun σ H Q => to σ H fun x H1 => tyF K T x H1 ∧ r x [] H1 Q
def tBF (K : PySem.W.Frag) (T : String) (r : V → List V → Hp → VK → Prop) (to : TE) (t : TA) : TE := fun σ H Q => to σ H fun x H1 => tyF K T x H1 ∧ t σ H1 fun xs H2 => r x xs H2 Q
theorem pe_bf0 {to : TE} {name : Str} {T id : String} {r : V → List V → Hp → VK → Prop} (pa : PlainAttrs T) (slot : Slot T name id) (hty : typeOf (.builtin id) = pure (.type "method_descriptor")) (hm : MtR X id r) (ho : PE X o to)
    (hbase : attributeBase o name X.env (eval o X.env) = eval o X.env := by rfl) (hline : (apos.endLine == cpos.line) = true := by rfl) : PE X (.Call (.Attribute o name apos) [] [] cpos) (tBF0 X.K T r to) := by
  refine ⟨fun pins s σ H Q I h => ?_⟩
  refine wpAny_Call_method0_late hbase hline (thn (ho.run pins s σ H _ I h) fun v s1 ⟨x, H1, I1, r1, ty, q1⟩ => ?_)
  obtain ⟨h1, h2⟩ := tyF_is I1 r1 ty
  exact ⟨T, id, pa, slot, hty, h1, h2, Calls.callWith_builtin rfl (PySem.evalArgs_none (hm pins s1 σ H1 x [] v [] Q I1 r1 .nil q1))⟩
theorem pe_bf {to : TE} {t : TA} {name : Str} {T id : String} {r : V → List V → Hp → VK → Prop} (pa : PlainAttrs T) (slot : Slot T name id) (hty : typeOf (.builtin id) = pure (.type "method_descriptor")) (hm : MtR X id r) (ho : PE X o to) (ha : PA X (e :: es) t)
    (hbase : attributeBase o name X.env (eval o X.env) = eval o X.env := by rfl)
    (hfew : ((backTo cpos (starEach (e :: es) X.env)).all (fun x => !x.1) && (backToKw cpos (keywordEach [] X.env)).all (fun x => x.1.isSome)
      && decide ((e :: es).length + ([] : List Keyword).length + (if ([] : List Keyword).isEmpty then 0 else 1) < 30)) = true := by rfl)
    (hline : (apos.endLine == cpos.line) = true := by rfl) (hs : starEach (e :: es) X.env = (false, eval e X.env) :: starEach es X.env := by rfl) (hplain : (backTo cpos (starEach es X.env)).any (·.1) = false := by rfl) :
    PE X (.Call (.Attribute o name apos) (e :: es) [] cpos) (tBF X.K T r to t) := by
  refine ⟨fun pins s σ H Q I h => ?_⟩
  refine wpAny_Call_method_late hbase hfew hline rfl (thn (ho.run pins s σ H _ I h) fun v s1 ⟨x, H1, I1, r1, ty, q1⟩ => ?_)
  obtain ⟨h1, h2⟩ := tyF_is I1 r1 ty
  refine ⟨T, id, pa, slot, hty, h1, h2, ?_⟩
  have hA := ha.run cpos pins s1 σ H1 _ I1 q1
  rw [hs] at hA ⊢
  refine Calls.callWith_builtin (by show (false || (backTo cpos (starEach es X.env)).any (·.1)) = false; rw [hplain] <;> rfl) (Calls.evalArgs_plain ?_)
  exact thn hA fun us s2 ⟨vs, H2, I2, r2, q2⟩ => hm pins s2 σ H2 x vs v us Q I2 r1 r2 q2

/-! ### count -/
def cntD : D → D → R D
  | .tuple ds, d => if fine d && fine (.tuple ds) then .ok (.int (ds.countP fun z => PyData.eqv z d : Nat)) else .no
  | _, _ => .no
def cntL : D → D → R D
  | .list ds, d => if fine d && fine (.list ds) then .ok (.int (ds.countP fun z => PyData.eqv z d : Nat)) else .no
  | _, _ => .no
def rCnt (K : PySem.W.Frag) (tup : Bool) : V → List V → Hp → VK → Prop := fun x xs H Q => ∃ (a : Addr) (y : V) (vs : List V) (ds : List D) (d : D), x = .ref a ∧ xs = [y] ∧ (if tup then SqT K H a vs else SqL K H a vs) ∧ DpAll K H vs ds ∧ Dp K H y d ∧ PyData.plainAll ds = true ∧ fine d = true ∧ Q (.int (ds.countP fun z => PyData.eqv z d : Nat)) H
theorem mt_cntT (hu : X.A.units + 65 < cLine) : MtR X "tuple.count" (rCnt X.K true) := by
  intro pins s σ H x xs v us Q I rx rxs h
  obtain ⟨l, y, vs, ds, d, rfl, rfl, hl, ha, hy, pl, fd, q⟩ := h
  cases rx
  cases rxs with
  | cons ry rt =>
    rename_i uy ut
    cases rt
    obtain ⟨bs, r1⟩ := Dp.reads I d y uy hy ry
    obtain ⟨its, r, p, hz⟩ := I.tuple (show SqT X.K H l vs from hl)
    obtain ⟨as, r2⟩ := Dp.readsAll I ds vs its ha r
    have hd := fine_iff.mp fd
    exact SeqAt.count_tuple_data (vs := its.toArray) p (by simpa using r2) r1 pl hd.1 (by omega) ⟨.int _, H, I.tok _, ⟨_, rfl⟩, q⟩
theorem mt_cntL (hu : X.A.units + 65 < cLine) : MtR X "list.count" (rCnt X.K false) := by
  intro pins s σ H x xs v us Q I rx rxs h
  obtain ⟨l, y, vs, ds, d, rfl, rfl, hl, ha, hy, pl, fd, q⟩ := h
  cases rx
  cases rxs with
  | cons ry rt =>
    rename_i uy ut
    cases rt
    obtain ⟨bs, r1⟩ := Dp.reads I d y uy hy ry
    obtain ⟨its, r, p, hz⟩ := I.list (show SqL X.K H l vs from hl)
    obtain ⟨as, r2⟩ := Dp.readsAll I ds vs its ha r
    have hd := fine_iff.mp fd
    exact SeqAt.count_list_data (vs := its.toArray) p.isList (by simpa using r2) r1 pl hd.1 (by omega) ⟨.int _, H, I.tok _, ⟨_, rfl⟩, q⟩
/-- a receiver, then its kind -/
def asTup : D → R (List D)
  | .tuple ds => .ok ds
  | _ => .no
def asLst : D → R (List D)
  | .list ds => .ok ds
  | _ => .no
def fCntT (f1 f2 : Sg → R D) : Sg → R D := fun g => (f1 g).bind fun x => (asTup x).bind fun ds => (f2 g).bind fun d => if fine d && fine (.tuple ds) then .ok (.int (ds.countP fun z => PyData.eqv z d : Nat)) else .no
def fCntL (f1 f2 : Sg → R D) : Sg → R D := fun g => (f1 g).bind fun x => (asLst x).bind fun ds => (f2 g).bind fun d => if fine d && fine (.list ds) then .ok (.int (ds.countP fun z => PyData.eqv z d : Nat)) else .no
theorem imp_cntT {σ : L2.St} {H : Hp} {Q : VK} (h : tG X.K X.w (rlD X.K X.w) B W (fCntT f1 f2) σ H Q) : tBF X.K "tuple" (rCnt X.K true) (tG X.K X.w (rlT X.K X.w) B W f1) (tCons (tG X.K X.w (rlT X.K X.w) B W f2) tNil) σ H Q := by
  obtain ⟨g, Hd, rep, h⟩ := h
  refine seq rep h fun x v Hd1 H1 e1 s1 r1 rep1 h1 => ?_
  have r1 : RpT X.K X.w Hd1 H1 v x := r1
  unfold asTup at h1
  split at h1
  · rename_i ds _r0
    obtain ⟨p, vs, ev, hp, ra⟩ := r1.tup rep1.same
    subst ev
    refine ⟨.inr (.inl ⟨rfl, p, vs, rfl, hp⟩), seq rep1 h1 fun y u Hd2 H2 _ s2 r2 rep2 h2 => ?_⟩
    have r2 : RpT X.K X.w Hd2 H2 u y := r2
    split at h2
    case isFalse => exact no_elim h2
    case isTrue hz =>
      rw [Bool.and_eq_true] at hz
      have pl : PyData.plainAll ds = true := by simpa [PyData.plain] using (fine_iff.mp hz.2).1
      exact ⟨p, u, vs, _, y, rfl, rfl, by rw [if_pos rfl]; exact (hp.same s2.h).sq, ((ra.mono s2.d).mono rep2.same).dp pl, r2.dp rep2.same hz.1, pl, hz.1, h2.ok (Step.refl rep2.same) (.int _)⟩
  · exact no_elim h1
theorem de_cntT (hu : X.A.units + 65 < cLine) (ho : DT X B W o f1) (ha : DT X B W e f2) (hbase : attributeBase o "count" X.env (eval o X.env) = eval o X.env := by rfl)
    (hfew : ((backTo cpos (starEach [e] X.env)).all (fun x => !x.1) && (backToKw cpos (keywordEach [] X.env)).all (fun x => x.1.isSome) && decide ([e].length + ([] : List Keyword).length + (if ([] : List Keyword).isEmpty then 0 else 1) < 30)) = true := by rfl)
    (hline : (apos.endLine == cpos.line) = true := by rfl) (hs : starEach [e] X.env = (false, eval e X.env) :: starEach [] X.env := by rfl) (hplain : (backTo cpos (starEach [] X.env)).any (·.1) = false := by rfl) :
    DE X B W (.Call (.Attribute o "count" apos) [e] [] cpos) (fCntT f1 f2) := PE.imp (pe_bf PySem.F.plainAttrs_tuple PySem.F.slot_tuple_count PySem.F.type_tuple_count (mt_cntT hu) ho (pa_cons ha pa_nil hs) hbase hfew hline hs hplain) fun _ _ _ h => imp_cntT h
theorem imp_cntL {σ : L2.St} {H : Hp} {Q : VK} (h : tG X.K X.w (rlD X.K X.w) B W (fCntL f1 f2) σ H Q) : tBF X.K "list" (rCnt X.K false) (tG X.K X.w (rlT X.K X.w) B W f1) (tCons (tG X.K X.w (rlT X.K X.w) B W f2) tNil) σ H Q := by
  obtain ⟨g, Hd, rep, h⟩ := h
  refine seq rep h fun x v Hd1 H1 e1 s1 r1 rep1 h1 => ?_
  have r1 : RpT X.K X.w Hd1 H1 v x := r1
  unfold asLst at h1
  split at h1
  · rename_i ds _r0
    obtain ⟨p, vs, ev, hp, ra⟩ := r1.list rep1.same
    subst ev
    refine ⟨.inl (.inl ⟨rfl, vs, .of hp⟩), seq rep1 h1 fun y u Hd2 H2 _ s2 r2 rep2 h2 => ?_⟩
    have r2 : RpT X.K X.w Hd2 H2 u y := r2
    split at h2
    case isFalse => exact no_elim h2
    case isTrue hz =>
      rw [Bool.and_eq_true] at hz
      have pl : PyData.plainAll ds = true := by simpa [PyData.plain] using (fine_iff.mp hz.2).1
      exact ⟨p, u, vs, _, y, rfl, rfl, by rw [if_neg Bool.false_ne_true]; exact .of (s2.h _ _ hp), ((ra.mono s2.d).mono rep2.same).dp pl, r2.dp rep2.same hz.1, pl, hz.1, h2.ok (Step.refl rep2.same) (.int _)⟩
  · exact no_elim h1
theorem de_cntL (hu : X.A.units + 65 < cLine) (ho : DT X B W o f1) (ha : DT X B W e f2) (hbase : attributeBase o "count" X.env (eval o X.env) = eval o X.env := by rfl)
    (hfew : ((backTo cpos (starEach [e] X.env)).all (fun x => !x.1) && (backToKw cpos (keywordEach [] X.env)).all (fun x => x.1.isSome) && decide ([e].length + ([] : List Keyword).length + (if ([] : List Keyword).isEmpty then 0 else 1) < 30)) = true := by rfl)
    (hline : (apos.endLine == cpos.line) = true := by rfl) (hs : starEach [e] X.env = (false, eval e X.env) :: starEach [] X.env := by rfl) (hplain : (backTo cpos (starEach [] X.env)).any (·.1) = false := by rfl) :
    DE X B W (.Call (.Attribute o "count" apos) [e] [] cpos) (fCntL f1 f2) := PE.imp (pe_bf PySem.F.plainAttrs_list PySem.F.slot_list_count PySem.F.type_list_count (mt_cntL hu) ho (pa_cons ha pa_nil hs) hbase hfew hline hs hplain) fun _ _ _ h => imp_cntL h
end
end G
end

section
set_option Elab.async false
set_option linter.all false
set_option maxRecDepth 100000
set_option maxHeartbeats 4000000
/-! G10: short names for what the printer prints. -/
namespace G
open PySem PySem.Spec PyProof.Rows L2
section
variable {X : Cx} {B : Bx} {W : WX} {e a b c : Expr} {es rest : List Expr} {st : Stmt} {sts : List Stmt} {pos : Pos} {f f1 f2 f3 : Sg → R D} {t1 t2 : Sg → R Bool}
abbrev oSet (i : Nat) (f : Sg → R D) : Sg → Out := oE f fun g d => .nx (g.set i (.dat d))
abbrev oSetO (i : Nat) (f : Sg → R (List D)) : Sg → Out := oE f fun g ds => .nx (g.set i (.lst ds))
abbrev oRet (f : Sg → R D) : Sg → Out := oE f fun _ d => .rt d
abbrev oRetO (f : Sg → R (List D)) : Sg → Out := oE f fun _ ds => .rl ds
abbrev oAsg (f : Sg → R D) (t : Tg) : Sg → Out := oE f fun g d => match t d g with
      | some g' => .nx g'
      | none => .no
abbrev oEx (f : Sg → R D) : Sg → Out := oE f fun g _ => .nx g
abbrev oBk : Sg → Out := fun g => .bk g
abbrev oCt : Sg → Out := fun g => .ct g
abbrev oRetN : Sg → Out := fun _ => .rt .none
abbrev fL (f : Sg → R (List D)) : Sg → R D := fun g => (f g).map .list
def fNotT (f : Sg → R D) : Sg → R D := fun g => (f g).bind fun x => (truD x).bind fun k => .ok (.bool (!k))
theorem de_notT (ha : DT X B W a f1) : DE X B W (.UnaryOp .Not a pos) (fNotT f1) := PE.imp (pe_notT ha) fun σ H Q ⟨g, Hd, rep, h⟩ =>
  seq rep h fun x v Hd1 H1 _ s1 r1 rep1 h1 => by
    unfold truD at h1
    have r1 : RpT X.K X.w Hd1 H1 v x := r1
    split at h1
    · obtain rfl := r1.non
      exact ⟨false, rfl, h1.ok (Step.refl rep1.same) (.bl _)⟩
    · obtain rfl := r1.bl
      exact ⟨_, rfl, h1.ok (Step.refl rep1.same) (.bl _)⟩
    · obtain rfl := r1.int
      exact ⟨_, rfl, h1.ok (Step.refl rep1.same) (.bl _)⟩
    · obtain ⟨p, vs, rfl, hp, ra⟩ := r1.list rep1.same
      exact ⟨!vs.isEmpty, .inl ⟨vs, .of hp, rfl⟩, h1.ok (Step.refl rep1.same) (by rw [isEmpty_len ra.length]; exact .bl _)⟩
    · obtain ⟨p, vs, rfl, hp, ra⟩ := r1.tup rep1.same
      exact ⟨!vs.isEmpty, .inr (.inl ⟨vs, hp.sq, rfl⟩), h1.ok (Step.refl rep1.same) (by rw [isEmpty_len ra.length]; exact .bl _)⟩
    · exact no_elim h1
def negD : D → R D
  | .int i => .ok (.int (-i))
  | _ => .no
theorem de_negD (ha : DT X B W a f1) : DE X B W (.UnaryOp .USub a pos) (fUn negD f1) := PE.imp (pe_un un_neg ha) fun σ H Q ⟨g, Hd, rep, h⟩ => seq rep h fun x v Hd1 H1 _ s1 r1 rep1 h1 => by
  have r1 : RpT X.K X.w Hd1 H1 v x := r1
  unfold negD at h1
  split at h1
  · obtain rfl := r1.int
    exact ⟨_, rfl, h1.ok (Step.refl rep1.same) (.int _)⟩
  · exact no_elim h1
theorem di_zip2 {elts : List Expr} {kk : Nat} {p pos tpos : Pos} (hg : Gl X "zip") (hm : X.mg "zip" = none) (ha : DE X B W a f1) (hb : DE X B W b f2)
    (hs0 : starEach [b] X.env = (false, eval b X.env) :: starEach [] X.env := by rfl) (hs : starEach [a, b] X.env = (false, eval a X.env) :: starEach [b] X.env := by rfl) (hpl : (backTo pos (starEach [b] X.env)).any (·.1) = false := by rfl) :
    DI X B W (.Tuple elts kk tpos) (.Call (.Name "zip" p) [a, b] [] pos) (fZip f1 f2) := di_zip ha hb (RZ.pi_zipA hg hm (pa_cons ha (pa_cons hb pa_nil hs0) hs) hs hpl)
theorem law_end {K : PySem.W.Frag} {w : World} {cl : Nat → Addr} {φ : Fn} {H : Hp} {a : Addr} {ns : List Int} (hS : SqL K H a (ns.map V.int)) (h : φ [scrD ns] = .ok (.dat (.bool true))) : spF K w cl 1 φ [.ref a] H (fun v _ => v = .bl true) (fun _ _ _ => False) :=
  ⟨[scrD ns], H, .refl H, .cons (.scr hS) .nil, rfl, by
    rw [h]
    intro v Hd' H' t r
    cases r
    rfl⟩
/-- what the law's def promises: True -/
def spL (K : PySem.W.Frag) (φ : Fn) : Sp := fun vs H Q _ => ∃ (a : Addr) (ns : List Int), vs = [.ref a] ∧ SqL K H a (ns.map V.int) ∧ φ [scrD ns] = .ok (.dat (.bool true)) ∧ ∀ H', Q (.bl true) H'
theorem law_fn {P : Program} {w : World} {K : PySem.W.Frag} {mg : Str → Option Value} {base : Heap} {CX : CXT} {k : Nat} {f : Addr} {fd : FuncData} {ps : List Str} {cl : Nat → Addr} {φ : Fn} (h : FnOk P w K mg base CX k f fd ps (spF K w cl 1 φ)) : FnOk P w K mg base CX k f fd ps (spL K φ) :=
  h.imp fun vs H Q E ⟨a, ns, ev, hS, e, q⟩ => ⟨[scrD ns], H, .refl H, by rw [ev]; exact .cons (.scr hS) .nil, rfl, by
    rw [e]
    intro v Hd' H' t r
    cases r
    exact q H'⟩
theorem u65 {k : Nat} {A : Around} (r : Room k A) : A.units + 65 < cLine := by have := r.un; omega
/-- the builtins that no module names anew -/
structure Blt (mg : Str → Option Value) : Prop where
  ValueError : mg "ValueError" = none
  len : mg "len" = none
  tuple : mg "tuple" = none
  list : mg "list" = none
  isinstance : mg "isinstance" = none
  int : mg "int" = none
  bool : mg "bool" = none
  str : mg "str" = none
  range : mg "range" = none
  sum : mg "sum" = none
  min : mg "min" = none
  max : mg "max" = none
  sorted : mg "sorted" = none
  set : mg "set" = none
  enumerate : mg "enumerate" = none
  zip : mg "zip" = none
end
theorem cx_end {P : Program} {w : World} {H : Hp} {s : Shared} {e : Value} {s' : Shared} (h : L2.CX P w [] H s (fun _ _ _ => False) e s') : False := by
  obtain ⟨a, B, H', cls, d, _, _, _, _, _, _, _, z⟩ := h
  exact z
theorem has_mk {P : Program} {w : World} {K : PySem.W.Frag} {mg : Str → Option Value} {base : Heap} {cl : Nat → Addr} {k : Nat} {x : Str} {ps : List Str} {φ : Fn} {f : Addr} {fd : FuncData} (hm : mg x = some (.ref f)) (hk : PySem.W.keepIn K (.ref f) = true) (hb : Binds K fd ps []) (hF : FnOk P w K mg base (L2.CX P w) k f fd ps (spF K w cl ps.length φ)) : Has P w K mg base cl k x ps φ := ⟨f, fd, hm, hk, hb, hF⟩
end G
namespace G
open PySem PySem.Spec PyProof.Rows L2
section
variable {X : Cx} {B : Bx} {W : WX} {sts : List Stmt} {u : Sg → Out}
theorem Rep.forget {K : PySem.W.Frag} {w : World} {Hd H : Hp} {σ : L2.St} {g : Sg} (r : Rep K w B Hd H σ g) (i : Nat) : Rep K w B Hd H σ (g.set i .un) := by
  obtain ⟨b, l, ow, n, hs⟩ := r
  refine ⟨b, by rw [List.length_set]; exact l, ow, fun j k sj sk hjk ej ek oj ok => ?_, fun j s e => ?_⟩
  · rw [List.getElem?_set] at ej ek
    split at ej
    · split at ej
      · cases ej; cases oj
      · cases ej
    · split at ek
      · split at ek
        · cases ek; cases ok
        · cases ek
      · exact n j k sj sk hjk ej ek oj ok
  · rw [List.getElem?_set] at e
    split at e
    · split at e
      · cases e; trivial
      · cases e
    · exact hs j s e
theorem Rep.forgets {K : PySem.W.Frag} {w : World} {Hd H : Hp} {σ : L2.St} {g : Sg} (r : Rep K w B Hd H σ g) : ∀ vs : List Nat, Rep K w B Hd H σ (gwipe g vs)
  | [] => r
  | v :: vs => (Rep.forgets r vs).forget v
/-- slots that are not read any more -/
def oFg (vs : List Nat) (u : Sg → Out) : Sg → Out := fun g => u (gwipe g vs)
theorem dss_fg (vs : List Nat) (h : DSs X B W sts u) : DSs X B W sts (oFg vs u) := PSs.imp h fun Dn σ H ⟨g, Hd, rep, h⟩ => ⟨_, Hd, rep.forgets vs, h⟩
end
end G
end

section
set_option Elab.async false
set_option linter.all false
set_option maxRecDepth 100000
set_option maxHeartbeats 4000000
/-! G11: own exceptions: raise, try with a suite that says what was caught. -/
namespace G
open PySem PySem.Spec PyProof.Rows L2
/-- an own class over ValueError, without a word of its own -/
structure ClsF (K : PySem.W.Frag) (mg : Str → Option Value) (cl : Nat → Addr) (k : Nat) (x : Str) : Prop where
  gC : mg x = some (.ref (cl k))
  kC : PySem.W.keepIn K (.ref (cl k)) = true
  q : PySem.W.excIn K (cl k) [.type "ValueError", .type "Exception", .type "BaseException", .type "object"] "ValueError.__new__" = true
  eC : PySem.W.subIn K (.ref (cl k)) (.type "BaseException") = some true
  tC : PySem.W.typeIn K (.ref (cl k)) = some (.type "type")
section
variable {X : Cx} {B : Bx} {W : WX} {e a b c : Expr} {es rest : List Expr} {st : Stmt} {sts body suite : List Stmt} {pos pos' p p2 np : Pos} {x n m : Str} {u : Sg → Out}
abbrev oRs (k : Nat) : Sg → Out := fun g => .ex ⟨k, none⟩ g
theorem ds_raise {k j : Nat} (C : ClsF X.K X.mg B.cl k x) (hc : X.calm = true) (tk : Takes X W) (hg : Gl X x) (hdb : (x == ("__debug__" : Str)) = false := by decide) : DS X B W (.Raise (some (.Call (.Name x p) [.Constant (.str m) j p2] [] pos')) none pos) (oRs k) :=
  PS.imp (ps_raise hc tk (pmk_own PySem.F.excBase_ValueError C.q C.gC C.kC (raises_own C.eC C.tC) hg hdb)) fun Dn σ H ⟨g, Hd, rep, h⟩ => h _ none σ Hd H (.refl _) rep ⟨rfl, fun _ => rfl, fun i e => nomatch e⟩
/-- the caught one, asked what it is -/
def tFl (i : Nat) (a : Addr) (bs : List Bool) : TA := fun σ H Q => σ[i]? = some (some (.ref a)) ∧ Q (bs.map V.bl) H
theorem fl_nil {X : Cx} {i : Nat} {a : Addr} : PA X [] (tFl i a []) := PA.imp pa_nil fun σ H Q h => h.2
theorem fl_cons {X : Cx} {i : Nat} {a D : Addr} {oe : Obj} {pn : List (Addr × Obj)} {b : Bool} {bs : List Bool} {v : V} {cv : Value} (C : ExcC X.K D) (hz : Zc (.ref D) none oe) (hf : ∃ vs, oe.data = .fields vs) (hk : PySem.W.kitOne X.K (.ref D) cv = some b)
    (hcv : ∀ u, RelV v u → u = cv) (hi : PE (X.suite a ((a, oe) :: pn)) e (tVar i)) (hcl : PE (X.suite a ((a, oe) :: pn)) c (tC v)) (hg : Gl (X.suite a ((a, oe) :: pn)) "isinstance") (hm : X.mg "isinstance" = none) (hr : PA (X.suite a ((a, oe) :: pn)) es (tFl i a bs))
    (he : starEach [e, c] X.env = (false, eval e X.env) :: starEach [c] X.env := by rfl) (he2 : starEach [c] X.env = (false, eval c X.env) :: starEach [] X.env := by rfl) (hpl : (backTo pos (starEach [c] X.env)).any (·.1) = false := by rfl)
    (hs : starEach (.Call (.Name "isinstance" p) [e, c] [] pos :: es) X.env = (false, eval (.Call (.Name "isinstance" p) [e, c] [] pos) X.env) :: starEach es X.env := by rfl) :
    PA (X.suite a ((a, oe) :: pn)) (.Call (.Name "isinstance" p) [e, c] [] pos :: es) (tFl i a (b :: bs)) :=
  PA.imp (pa_cons (pe_callB (call_isE C hz hf) hg hm G.boot_isi (pa_cons hi (pa_cons hcl pa_nil he2) he) (he := he) (hpl := hpl)) hr hs) fun σ H Q h => by
    obtain ⟨h1, h2⟩ := h
    exact ⟨.ref a, h1, v, cv, b, rfl, hcv, hk, h1, h2⟩
theorem cls_own {C : Addr} : ∀ u, RelV (.ref C) u → u = .ref C := fun _ r => r
theorem cls_ty {T : String} : ∀ u, RelV (.ty T) u → u = .type T := fun _ r => r
/-- what a class caught by the clause gives -/
structure FlOk (X : Cx) (B : Bx) (c : Value) (i : Nat) (es : List Expr) (k : Nat) (bs : List Bool) : Prop where
  ex : PySem.W.exmOne X.K (.ref (B.cl k)) c = some true
  len : bs.length ≤ 30
  pa : ∀ (a : Addr) (oe : Obj) (pn : List (Addr × Obj)), Zc (.ref (B.cl k)) none oe → (∃ vs, oe.data = .fields vs) → PA (X.suite a ((a, oe) :: pn)) es (tFl i a bs)
def oTry (l : List (Nat × List Bool)) (u : Sg → Out) : Sg → Out := fun g => match u g with
  | .ex e g' => (match e.at_, l.lookup e.cls with
    | none, some bs => .rl (bs.map .bool)
    | _, _ => .no)
  | o => o
theorem RpAll.bls {K : PySem.W.Frag} {w : World} {H : Hp} : ∀ bs : List Bool, RpAll K w H (bs.map V.bl) (bs.map .bool)
  | [] => .nil
  | b :: bs => .cons (.bl b) (RpAll.bls bs)
theorem hl_nil {P : Nat → List Bool → Prop} : ∀ k bs, ([] : List (Nat × List Bool)).lookup k = some bs → P k bs := fun _ _ h => nomatch h
theorem hl_cons {P : Nat → List Bool → Prop} {k0 : Nat} {b0 : List Bool} {l : List (Nat × List Bool)} (h : P k0 b0) (hr : ∀ k bs, l.lookup k = some bs → P k bs) : ∀ k bs, ((k0, b0) :: l).lookup k = some bs → P k bs := fun k bs e => by
  rw [List.lookup_cons] at e
  split at e
  · rename_i z
    cases e
    rw [beq_iff_eq] at z
    subst z
    exact h
  · exact hr k bs e
theorem boot_ValueError : bootBuiltins "ValueError" = some (.type "ValueError") := by decide +kernel
theorem kit_own {K : PySem.W.Frag} {t : Value} {C : Addr} {b : Bool} (h : PySem.W.subIn K t (.ref C) = some b) (hd : PySem.W.hasDictIn K C = true) (ht : PySem.W.typeIn K (.ref C) = some (.type "type")) (hn : b = true ∨ (t == .ref C) = false) : PySem.W.kitOne K t (.ref C) = some b := by
  obtain ⟨cd, hc, _⟩ := PySem.W.any_some hd
  have e2 : ((PySem.W.clsIn K C).isSome && PySem.W.typeIn K (.ref C) == some (.type "type")) = true := by rw [hc, ht] <;> rfl
  have e3 : PySem.W.kitCls K t (.ref C) = some b := by
    show (if ((PySem.W.clsIn K C).isSome && PySem.W.typeIn K (.ref C) == some (.type "type")) = true then PySem.W.subIn K t (.ref C) else none) = some b
    rw [if_pos e2]
    exact h
  unfold PySem.W.kitOne
  rcases hn with rfl | hn
  · split
    · rfl
    · exact e3
  · rw [hn]; exact e3
theorem kit_ve {K : PySem.W.Frag} {C : Addr} (h : PySem.W.subIn K (.ref C) (.type "ValueError") = some true) : PySem.W.kitOne K (.ref C) (.type "ValueError") = some true := by
  have e3 : PySem.W.kitCls K (.ref C) (.type "ValueError") = some true := by
    show (if PySem.W.kitMeta "ValueError" = true then PySem.W.subIn K (.ref C) (.type "ValueError") else none) = some true
    rw [if_pos (by decide +kernel)]
    exact h
  unfold PySem.W.kitOne
  split
  · rfl
  · exact e3
theorem ds_tryIs {i : Nat} {es : List Expr} {l : List (Nat × List Bool)} {pr pl pt : Pos} {c : Value} (hs : X.stack = X.env :: X.outer) (hf : X.env.frame = some X.env.locals) (hN : X.N.Nodup) (hi : X.N[i]? = some n) (hln : X.env.kindOf n = some .local) (hc : Names X x c) (tk : Takes X W)
    (hb : ∀ (W' : WX) (pn : List (Addr × Obj)) (xe : Value → Shared → Prop), Takes (X.tr pn xe) W' → PassesOwn (model X.prog X.w) X.A X.env xe → DSs (X.tr pn xe) B W' body u)
    (hl : ∀ k bs, l.lookup k = some bs → FlOk X B c i es k bs) :
    DS X B W (.Try body [.ExceptHandler (some (.Name x np)) (some n) [.Return (some (.List es pl)) pr] pos'] [] [] pt) (oTry l u) := by
  refine PS.imp (ps_try_as (tb := fun W2 => tS X.K X.w B W2 u) (ts := fun a cls d Dn σ H => ∃ (k : Nat) (bs : List Bool) (σ0 : L2.St), σ = σ0.set i (some (.ref a)) ∧ cls = .ref (B.cl k) ∧ d = none ∧ l.lookup k = some bs ∧ bs.length ≤ sizeLine ∧ ∀ p, H p = none → Dn.rt (.ref p) (upd H p (.lst (bs.map V.bl)))) hs hf hN hi hln hc tk hb ?_) ?_
  · intro a oe cls d pn hz hv
    refine ⟨fun pins s σ H Dn I h => ?_⟩
    obtain ⟨k, bs, σ0, rfl, rfl, rfl, e, hbs, q⟩ := h
    have F := hl k bs e
    refine (pss_one (ps_ret (pe_lst (F.pa a oe pn hz hv)))).run pins s _ H Dn I ?_
    have hlen : i < (σ0.set i (some (V.ref a))).length := by
      rw [I.len]
      exact (List.getElem?_eq_some_iff.mp hi).1
    refine ⟨?_, by rw [List.length_map]; exact hbs, q⟩
    rw [List.getElem?_set_self (by simpa using hlen)]
  · intro Dn σ H ⟨g, Hd, rep, h⟩
    refine ⟨g, Hd, rep, ?_⟩
    unfold oTry at h
    cases e : u g with
    | no => rw [e] at h; exact h
    | nx g1 => rw [e] at h; exact h
    | rt d => rw [e] at h; exact h
    | rl d => rw [e] at h; exact h
    | rd d => rw [e] at h; exact h
    | bk g1 => rw [e] at h; exact h
    | ct g1 => rw [e] at h; exact h
    | ex x g1 =>
      rw [e] at h
      obtain ⟨k, at_⟩ := x
      cases at_ with
      | some i => exact h.elim
      | none =>
        dsimp only at h
        cases e2 : l.lookup k with
        | none => rw [e2] at h; exact h.elim
        | some bs =>
          rw [e2] at h
          intro cls dd σ' Hd' H' s rep' ex
          obtain ⟨ex1, ex2, _⟩ := ex
          have F := hl k bs e2
          subst ex1
          refine ⟨true, F.ex, fun _ a na => ⟨k, bs, σ', rfl, rfl, ex2 rfl, e2, ?_, fun p hp => ?_⟩, fun z => nomatch z⟩
          · exact Nat.le_trans F.len (by show 30 ≤ sizeLine; decide)
          · have st : Step Hd' H' Hd' (upd H' p (.lst (bs.map V.bl))) := Step.own rep'.same hp
            exact h p (bs.map V.bl) Hd' _ s (rep'.base.trans st) (rep'.base.h.free hp) (rep'.same.free hp) upd_same (RpAll.bls bs)
end
end G
end

section
set_option Elab.async false
set_option linter.all false
set_option maxRecDepth 100000
set_option maxHeartbeats 4000000
/-! G12: sorted of data. -/
namespace G
open PySem PySem.Spec PyProof.Rows L2
abbrev dLe (a b : D) : Bool := !PySem.W.dataLt b a
def insD (a : D) : List D → List D
  | [] => [a]
  | b :: l => if dLe a b then a :: b :: l else b :: insD a l
def srt : List D → List D
  | [] => []
  | a :: l => insD a (srt l)
theorem dataLe_id (a b : D) : PySem.W.dataLe false id a b = dLe a b := rfl
theorem insD_split (a : D) : ∀ (l1 l2 : List D), (∀ b ∈ l1, dLe a b = false) → (∀ b ∈ l2, dLe a b = true) → insD a (l1 ++ l2) = l1 ++ a :: l2
  | [], [], _, _ => rfl
  | [], b :: l2, _, h => by
    show (if dLe a b then _ else _) = _
    rw [if_pos (h b (List.mem_cons_self ..))]
    rfl
  | b :: l1, l2, h1, h2 => by
    show (if dLe a b = true then a :: b :: (l1 ++ l2) else b :: insD a (l1 ++ l2)) = _
    rw [if_neg (by rw [h1 b (List.mem_cons_self ..)]; exact Bool.false_ne_true), insD_split a l1 l2 (fun c hc => h1 c (List.mem_cons_of_mem _ hc)) h2]
    rfl
theorem srt_eq (l : List D) : l.mergeSort (PySem.W.dataLe false id) = srt l := by
  have T := PySem.W.sortLe_total (listOrd itemOrd) false (fun b : D => PySem.W.keyToks b)
  have tr : ∀ a b c : D, PySem.W.dataLe false id a b = true → PySem.W.dataLe false id b c = true → PySem.W.dataLe false id a c = true := T.trans
  have tot : ∀ a b : D, (PySem.W.dataLe false id a b || PySem.W.dataLe false id b a) = true := fun a b => by
    have := T.total a b
    exact (Bool.or_eq_true _ _).mpr this
  induction l with
  | nil => simp [srt]
  | cons a l ih =>
    obtain ⟨l1, l2, h1, h2, h3⟩ := List.mergeSort_cons tr tot a l
    rw [h1]
    show _ = insD a (srt l)
    rw [← ih, h2]
    refine (insD_split a l1 l2 (fun b hb => ?_) fun b hb => ?_).symm
    · have := h3 b hb
      rw [← dataLe_id]
      simpa using this
    · have hs := List.pairwise_mergeSort tr tot (a :: l)
      rw [h1] at hs
      exact (List.pairwise_cons.mp (List.pairwise_append.mp hs).2.1).1 b hb
def isTC : D → Bool
  | .tuple (_ :: _) => true
  | _ => false
def isTN : D → Bool
  | .tuple _ => true
  | .none => true
  | _ => false
def sortB (ds : List D) : Bool := ds.all isTC || ds.all fun d => !isTN d
theorem sortB_ok {ds : List D} (h : sortB ds = true) : PySem.W.Sortable ds := by
  unfold sortB at h
  rw [Bool.or_eq_true, List.all_eq_true, List.all_eq_true] at h
  rcases h with h | h
  · refine .inl fun d hd => ?_
    have := h d hd
    unfold isTC at this
    split at this
    · exact ⟨_, _, rfl⟩
    · cases this
  · refine .inr fun d hd => ?_
    have := h d hd
    rw [Bool.not_eq_true'] at this
    unfold isTN at this
    split at this
    · cases this
    · cases this
    · rename_i h1 h2
      exact ⟨fun z => h2 z, fun xs z => h1 xs z⟩
def srtD : D → R (List D)
  | .list ds => if sameKind ds && sortB ds && decide (ds.length ≤ big) then .ok (srt ds) else .no
  | _ => .no
def rSortDa (K : PySem.W.Frag) : List V → Hp → VK → Prop := fun us H Q => ∃ (a : Addr) (vs : List V) (ds : List D), us = [V.ref a] ∧ SqL K H a vs ∧ DpAll K H vs ds ∧ sameKind ds = true ∧ sortB ds = true ∧
  ∀ (prs : List (V × D)) (p : Addr), prs = (vs.zip ds).mergeSort (PySem.W.dataLe false Prod.snd) → H p = none → Q (.ref p) (upd H p (.lst (prs.map Prod.fst)))
section
variable {X : Cx} {B : Bx} {W : WX} {e a b c : Expr} {pos p p2 : Pos} {f f1 : Sg → R D}
theorem depth_le_all {d : D} : ∀ {ds : List D}, d ∈ ds → d.depth ≤ PyData.depthAll ds
  | x :: xs, h => by
    simp only [PyData.depthAll]
    rcases List.mem_cons.mp h with h | h
    · subst h; omega
    · have := depth_le_all h; omega
theorem each_zip {R : Value → V → Prop} : ∀ {vs : List V} {ds : List D} {its : List Value}, vs.length = ds.length → Vals vs its → PySem.W.EachIs (fun u (q : V × D) => RelV q.1 u) its (vs.zip ds)
  | [], [], _, _, .nil => .nil
  | v :: vs, d :: ds, _, h, .cons r rs => .cons r (each_zip (R := R) (by simpa using h) rs)
theorem each_fst : ∀ {its : List Value} {prs : List (V × D)}, PySem.W.EachIs (fun u (q : V × D) => RelV q.1 u) its prs → Vals (prs.map Prod.fst) its
  | _, _, .nil => .nil
  | _, _, .cons h t => .cons h (each_fst t)
theorem cr_sortDa (hu : X.A.units + 64 < cLine) : CallR X (.builtin "sorted") (rSortDa X.K) := by
  intro pins s σ H xs us Q I r h
  obtain ⟨a, vs, ds, rfl, hs, hd, hk, hb, q⟩ := h
  have dep := sameKind_depth hk
  rw [Vals.ref1 r]
  obtain ⟨its, rv, hl, hz⟩ := I.list hs
  obtain ⟨as, ra⟩ := Dp.readsAll I _ _ _ hd rv
  have ln : vs.length = ds.length := by rw [rv.length]; exact SeqAt.ReadsAll.length _ _ _ ra
  have es : (vs.zip ds).map Prod.snd = ds := List.map_snd_zip (by omega)
  have hlz : (vs.zip ds).length = its.length := by rw [List.length_zip, ← rv.length]; omega
  refine PySem.W.sorted_data (β := V × D) (R := fun u q => RelV q.1 u) (enc := Prod.snd) (bs := vs.zip ds) hl.isList (each_zip (R := fun _ _ => True) ln rv) (PySem.W.readsAll_each Prod.snd (by rw [es]; exact ra)) ?_ ?_ (by rw [hlz, ← rv.length]; exact hz) (fun q hq => ?_) fun out ho eo => ?_
  · rw [es]
    exact fun d h1 d' h2 => sameKind_alike hk d h1 d' h2
  · rw [es]
    exact sortB_ok hb
  · have hm : q.2 ∈ ds := by rw [← es]; exact List.mem_map_of_mem hq
    have := depth_le_all hm
    omega
  · obtain ⟨ep, he'⟩ := PyProof.Rows.sortedAll_at s.heap its out.toArray
    have rv2 := each_fst eo
    refine ⟨.ref _, upd H (s.heap.objs.size + 1) (.lst _), I.laid (t' := s.toks) (fun _ _ => PyProof.Rows.sortedAll_old) (Nat.le_succ _) ⟨?_, out, ep, rv2, he'⟩, rfl, q _ _ rfl (I.hok.fresh (Nat.le_succ _))⟩
    rw [rv2.length, ho, hlz, ← rv.length]
    exact hz
theorem rpall_zip {K : PySem.W.Frag} {w : World} {H : Hp} : ∀ {vs : List V} {ds : List D}, RpAll K w H vs ds → ∀ q ∈ vs.zip ds, Rp K w H q.1 q.2
  | _, _, .cons r rs, q, h => by
    rcases List.mem_cons.mp h with h | h
    · subst h; exact r
    · exact rpall_zip rs q h
theorem rpall_of {K : PySem.W.Frag} {w : World} {H : Hp} : ∀ {l : List (V × D)}, (∀ q ∈ l, Rp K w H q.1 q.2) → RpAll K w H (l.map Prod.fst) (l.map Prod.snd)
  | [], _ => .nil
  | q :: l, h => .cons (h q (List.mem_cons_self ..)) (rpall_of fun x hx => h x (List.mem_cons_of_mem _ hx))
theorem sort_zip {K : PySem.W.Frag} {w : World} {H : Hp} {vs : List V} {ds : List D} (r : RpAll K w H vs ds) : RpAll K w H (((vs.zip ds).mergeSort (PySem.W.dataLe false Prod.snd)).map Prod.fst) (srt ds) := by
  have e : ((vs.zip ds).mergeSort (PySem.W.dataLe false Prod.snd)).map Prod.snd = srt ds := by
    rw [← srt_eq, List.map_mergeSort (r := PySem.W.dataLe false Prod.snd) (s := PySem.W.dataLe false id) fun a _ b _ => rfl, List.map_snd_zip (by rw [r.length]; omega)]
  rw [← e]
  exact rpall_of fun q hq => rpall_zip r q ((List.mergeSort_perm _ _).mem_iff.mp hq)
theorem do_sorted (hu : X.A.units + 64 < cLine) (hg : Gl X "sorted") (hm : X.mg "sorted" = none) (ha : DT X B W a f1) (he : starEach [a] X.env = (false, eval a X.env) :: starEach [] X.env := by rfl) (hpl : (backTo pos (starEach [] X.env)).any (·.1) = false := by rfl) :
    DO X B W (.Call (.Name "sorted" p) [a] [] pos) (fUn srtD f1) := dr_callB1 (rl := rlO X.K X.w) (cr_sortDa hu) (fun {Hd H σ x v Q} s r1 h => by
      unfold srtD at h
      split at h
      · rename_i ds
        split at h
        case isFalse => exact no_elim h
        case isTrue hz =>
          rw [Bool.and_eq_true, Bool.and_eq_true] at hz
          obtain ⟨p, vs, ev, hp, ra⟩ := r1.list s
          subst ev
          refine ⟨p, vs, ds, rfl, .of hp, dpAll_of (ra.mono s) hz.1.1, hz.1.1, hz.1.2, fun prs q e hq => ?_⟩
          subst e
          exact h.ok (Step.own s hq) ⟨q, _, rfl, hq, s.free hq, upd_same, sort_zip ra⟩
      · exact no_elim h) hg hm boot_sorted ha (he := he) (hpl := hpl)
end
end G
end

section
set_option Elab.async false
set_option linter.all false
set_option maxRecDepth 100000
set_option maxHeartbeats 4000000
/-! G13: dicts whose keys are tuples. -/
namespace G
open PySem PySem.Spec PyProof.Rows L2
/-! keys -/
mutual
theorem nis {h : Heap} : ∀ {u : Value} {d : D} {as : List Addr} {k : NestedKey}, Reads h u d as → keyOf d = some k → NestedIs h k u
  | _, _, _, _, .none, e => by simp [keyOf] at e
  | _, _, _, _, .bool b, e => by simp [keyOf] at e
  | _, _, _, _, .int i t, e => by simp [keyOf] at e; subst e; exact .int i t
  | _, _, _, _, .str x t, e => by simp [keyOf] at e; subst e; exact .text x t
  | _, _, _, _, .list .., e => by simp [keyOf] at e
  | _, _, _, _, .dict .., e => by simp [keyOf] at e
  | _, _, _, _, .tuple h1 h2 h3 ra, e => by
    simp only [keyOf, Option.map_eq_some_iff] at e
    obtain ⟨ks, e1, rfl⟩ := e
    exact .tup h1 h2 h3 (niss ra e1)
theorem niss {h : Heap} : ∀ {us : List Value} {ds : List D} {as : List Addr} {ks : List NestedKey}, ReadsAll h us ds as → keyOf.keysOf ds = some ks → NestedAll h ks us
  | _, _, _, _, .nil, e => by simp [keyOf.keysOf] at e; subst e; exact .nil
  | _, _, _, _, .cons r rs, e => by
    simp only [keyOf.keysOf, Option.bind_eq_some_iff, Option.map_eq_some_iff] at e
    obtain ⟨k, e1, ks, e2, rfl⟩ := e
    exact .cons (nis r e1) (niss rs e2)
end
mutual
theorem plain_key : ∀ {d : D} {k : NestedKey}, keyOf d = some k → d.plain = true
  | .none, _, e => by simp [keyOf] at e
  | .bool b, _, e => by simp [keyOf] at e
  | .int i, _, _ => by simp [PyData.plain]
  | .str x, _, _ => by simp [PyData.plain]
  | .list _, _, e => by simp [keyOf] at e
  | .dict _, _, e => by simp [keyOf] at e
  | .tuple ds, _, e => by
    simp only [keyOf, Option.map_eq_some_iff] at e
    obtain ⟨ks, e1, _⟩ := e
    simp [PyData.plain, plain_keys e1]
theorem plain_keys : ∀ {ds : List D} {ks : List NestedKey}, keyOf.keysOf ds = some ks → PyData.plainAll ds = true
  | [], _, _ => by simp [PyData.plainAll]
  | d :: ds, _, e => by
    simp only [keyOf.keysOf, Option.bind_eq_some_iff, Option.map_eq_some_iff] at e
    obtain ⟨k, e1, ks, e2, _⟩ := e
    simp [PyData.plainAll, plain_key e1, plain_keys e2]
end
section
variable {X : Cx} {pins : List (Addr × Obj)} {σ : L2.St} {s : Shared} {H Hd : Hp}
theorem is_key {q : Addr} {dk : D} {k : NestedKey} (I : Inv X pins σ H s) (sm : Same Hd H) (r : Rp X.K X.w Hd (.ref q) dk) (e : kOf dk = some k) : (nestedKind X.prog X.w).is s.heap k q := by
  obtain ⟨e1, e2⟩ := kOf_some e
  obtain ⟨as, ra⟩ := Dp.reads I dk (.ref q) (.ref q) ((r.mono sm).dp (plain_key e1)) rfl
  exact ⟨nis ra e1, e2⟩
theorem obj_at {p : Addr} {o : Obj} (I : Inv X pins σ H s) (hp : H p = some (dkO p o)) : s.heap.get? p = some o := (I.hok _ _ hp).1
theorem ks_is {ks : KsT} {kvs : List (D × D)} {xs : List (NestedKey × Addr × Value)} (I : Inv X pins σ H s) (sm : Same Hd H) (r : RpKvs X.K X.w Hd ks kvs) (rel : KsRel ks xs) : ∀ x ∈ xs, (nestedKind X.prog X.w).is s.heap x.1 x.2.1 := by
  induction rel generalizing kvs with
  | nil => intro x hx; cases hx
  | cons h t ih =>
    intro x hx
    cases r with
    | cons e r1 r2 r3 =>
      rcases List.mem_cons.mp hx with hx | hx
      · subst hx
        obtain ⟨h1, h2, _⟩ := h
        rw [← h1, ← h2]
        exact is_key I sm r1 e
      · exact ih r3 x hx
theorem dct_of {p : Addr} {o : Obj} {ks : KsT} {kvs : List (D × D)} (I : Inv X pins σ H s) (sm : Same Hd H) (hp : H p = some (dkO p o)) (z : DkIs X.w o ks) (r : RpKvs X.K X.w Hd ks kvs) :
    ∃ xs, s.heap.DictOfH (nestedKind X.prog X.w) p xs ∧ KsRel ks xs := by
  obtain ⟨z1, _, es, ep, z2, xs, rel, z3, z4⟩ := z
  exact ⟨xs, ⟨o, es, ep, obj_at I hp, z1, z2, z3, ks_is I sm r rel, z4⟩, rel⟩
theorem rel_len {ks : KsT} {xs : List (NestedKey × Addr × Value)} (r : KsRel ks xs) : ks.length = xs.length := by
  induction r with
  | nil => rfl
  | cons _ _ ih => simp [ih]
/-- a store -/
def putK (ks : KsT) (k : NestedKey) (q : Addr) (v : V) : KsT := if ks.any (fun x => decide (x.1 = k)) then ks.map (fun x => if x.1 = k then (x.1, x.2.1, v) else x) else ks ++ [(k, q, v)]
theorem rel_any {ks : KsT} {xs : List (NestedKey × Addr × Value)} (r : KsRel ks xs) (k : NestedKey) : (atKey xs k).isSome = ks.any fun x => decide (x.1 = k) := by
  induction r with
  | nil => rfl
  | @cons a b as bs h _ ih =>
    obtain ⟨h1, _, _⟩ := h
    unfold atKey at ih ⊢
    rw [List.find?_cons, List.any_cons, ← h1]
    by_cases c : a.1 = k
    · simp [c]
    · rw [decide_eq_false c, Bool.false_or, ← ih]
theorem rel_map {ks : KsT} {xs : List (NestedKey × Addr × Value)} (r : KsRel ks xs) (k : NestedKey) {v : V} {u : Value} (rv : RelV v u) : KsRel (ks.map fun x => if x.1 = k then (x.1, x.2.1, v) else x) (xs.map (putAt k u)) := by
  induction r with
  | nil => exact .nil
  | @cons a b as bs h _ ih =>
    refine .cons ?_ ih
    obtain ⟨h1, h2, h3⟩ := h
    unfold putAt
    dsimp only
    rw [← h1]
    by_cases c : a.1 = k
    · rw [if_pos c, if_pos c]
      exact ⟨rfl, h2, rv⟩
    · rw [if_neg c, if_neg c]
      exact ⟨h1, h2, h3⟩
theorem rel_app {ks ks2 : KsT} {xs xs2 : List (NestedKey × Addr × Value)} (r : KsRel ks xs) (r2 : KsRel ks2 xs2) : KsRel (ks ++ ks2) (xs ++ xs2) := by
  induction r with
  | nil => exact r2
  | cons h _ ih => exact .cons h ih
theorem rel_put {ks : KsT} {xs : List (NestedKey × Addr × Value)} (r : KsRel ks xs) (k : NestedKey) (q : Addr) {v : V} {u : Value} (rv : RelV v u) : KsRel (putK ks k q v) (storedH xs k q u) := by
  unfold putK storedH
  rw [rel_any r k]
  split
  · exact rel_map r k rv
  · exact rel_app r (.cons ⟨rfl, rfl, rv⟩ .nil)
theorem putK_len (ks : KsT) (k : NestedKey) (q : Addr) (v : V) : (putK ks k q v).length ≤ ks.length + 1 := by
  unfold putK
  split <;> simp
def rSetK (K : PySem.W.Frag) (w : World) : TSet := fun o i v H Q => ∃ (p q : Addr) (ob : Obj) (ks : KsT) (kvs : List (D × D)) (dk : D) (k : NestedKey) (Hd : Hp), o = .ref p ∧ i = .ref q ∧ H p = some (dkO p ob) ∧ DkIs w ob ks ∧ RpKvs K w Hd ks kvs ∧ Same Hd H ∧ Rp K w Hd (.ref q) dk ∧ kOf dk = some k ∧ ks.length + 1 ≤ sizeLine ∧
  ∀ ob', DkIs w ob' (putK ks k q v) → Q (upd H p (dkO p ob'))
theorem set_key (hu : X.A.units + 65 < cLine) : PSet X (rSetK X.K X.w) := by
  intro pins s σ H o i v ov iv u Q I ro ri rv h
  obtain ⟨p, q, ob, ks, kvs, dk, k, Hd, rfl, rfl, hp, z, r, sm, rk, ek, hl, fin⟩ := h
  cases (show ov = Value.ref p from ro)
  cases (show iv = Value.ref q from ri)
  obtain ⟨xs, hm, rel⟩ := dct_of I sm hp z r
  refine wpAny_setItem_heap (knd := nestedKind X.prog X.w) (by show X.A.in1.units + 8 < cLine; show X.A.units + 1 + 8 < cLine; omega) (is_key I sm rk ek) hm (fun h' hm' sb => ?_) (by rw [← rel_len rel]; omega)
  obtain ⟨o', es, ep, g1, g2, g3, g4, _, g6⟩ := hm'
  refine ⟨upd H p (dkO p o'), I.write (by rw [hp]; trivial) (.inl rfl) (fun b x nb e => (sb.2 b nb).trans e) ⟨o', g1⟩ ⟨g1, ⟨o', g1⟩, fun h1 h2 e1 e2 => e2 _ e1⟩, fin o' ⟨g2, Nat.le_trans (putK_len ks k q v) hl, es, ep, g3, _, rel_put rel k q rv, g4, g6⟩⟩
/-! {} -/
theorem pe_dnewO {pos : Pos} : PE X (.Dict [] [] pos) (fun _ H Q => ∀ (p : Addr) (o : Obj), H p = none → (p == sysModules) = false → DkIs X.w o [] → Q (.ref p) (upd H p (dkO p o))) := ⟨fun pins s σ H Q I h =>
  wpAny_Dict_empty ⟨.ref s.heap.objs.size, _, I.laid (a := s.heap.objs.size) (o := dkO s.heap.objs.size { cls := .type "dict", data := .dict #[] }) (t' := s.toks) (fun _ _ q => Heap.get?_push_of_some _ q) (Nat.le_refl _)
    ⟨Heap.get?_push_size _ rfl, ⟨_, Heap.get?_push_size _ rfl⟩, fun h1 h2 e1 e2 => e2 _ e1⟩, rfl,
    h _ _ (I.hok.fresh (Nat.le_refl _)) (beq_eq_false_iff_ne.mpr (Ne.symm (Nat.ne_of_lt I.big))) ⟨⟨rfl, rfl, rfl⟩, Nat.zero_le _, #[], 0, rfl, [], .nil, rfl, List.nodup_nil⟩⟩⟩
end
/-! data -/
def putD (kvs : List (D × D)) (dk dv : D) : List (D × D) := if kvs.any (fun p => decide (kOf p.1 = kOf dk)) then kvs.map (fun p => if kOf p.1 = kOf dk then (p.1, dv) else p) else kvs ++ [(dk, dv)]
section
variable {K : PySem.W.Frag} {w : World} {H : Hp}
theorem kvs_any {ks : KsT} {kvs : List (D × D)} (r : RpKvs K w H ks kvs) {dk : D} {k : NestedKey} (e : kOf dk = some k) : (ks.any fun x => decide (x.1 = k)) = kvs.any fun p => decide (kOf p.1 = kOf dk) := by
  induction kvs generalizing ks with
  | nil => cases r; rfl
  | cons a kvs ih =>
    cases r with
    | cons e1 r1 r2 r3 =>
      rw [List.any_cons, List.any_cons, ih r3, e1, e]
      congr 1
      rw [decide_eq_decide]
      exact ⟨fun z => congrArg some z, fun z => Option.some.inj z⟩
theorem kvs_map {ks : KsT} {kvs : List (D × D)} (r : RpKvs K w H ks kvs) {dk dv : D} {k : NestedKey} {v : V} (e : kOf dk = some k) (rv : Rp K w H v dv) : RpKvs K w H (ks.map fun x => if x.1 = k then (x.1, x.2.1, v) else x) (kvs.map fun p => if kOf p.1 = kOf dk then (p.1, dv) else p) := by
  induction kvs generalizing ks with
  | nil => cases r; exact .nil
  | cons a kvs ih =>
    cases r with
    | @cons k1 q1 v1 ks1 dk1 dv1 kvs1 e1 r1 r2 r3 =>
      rw [List.map_cons, List.map_cons]
      by_cases c : k1 = k
      · rw [if_pos (show k1 = k from c), if_pos (show kOf dk1 = kOf dk by rw [e1, e, c])]
        exact .cons e1 r1 rv (ih r3)
      · rw [if_neg (show ¬ k1 = k from c), if_neg (show ¬ kOf dk1 = kOf dk by rw [e1, e]; exact fun z => c (Option.some.inj z))]
        exact .cons e1 r1 r2 (ih r3)
theorem kvs_app {ks ks2 : KsT} {kvs kvs2 : List (D × D)} (r : RpKvs K w H ks kvs) (r2 : RpKvs K w H ks2 kvs2) : RpKvs K w H (ks ++ ks2) (kvs ++ kvs2) := by
  induction kvs generalizing ks with
  | nil => cases r; exact r2
  | cons a kvs ih =>
    cases r with
    | cons e1 r1 r3 r4 => exact .cons e1 r1 r3 (ih r4)
theorem kvs_put {ks : KsT} {kvs : List (D × D)} (r : RpKvs K w H ks kvs) {dk dv : D} {k : NestedKey} {q : Addr} {v : V} (e : kOf dk = some k) (rk : Rp K w H (.ref q) dk) (rv : Rp K w H v dv) : RpKvs K w H (putK ks k q v) (putD kvs dk dv) := by
  unfold putK putD
  rw [kvs_any r e]
  split
  · exact kvs_map r e rv
  · exact kvs_app r (.cons e rk rv .nil)
theorem kvs_len {ks : KsT} {kvs : List (D × D)} (r : RpKvs K w H ks kvs) : ks.length = kvs.length := by
  induction kvs generalizing ks with
  | nil => cases r; rfl
  | cons a kvs ih =>
    cases r with
    | cons e1 r1 r3 r4 => simp [ih r4]
end
/-! own dicts -/
def rlX (K : PySem.W.Frag) (w : World) : Rl V (List (D × D)) := ⟨fun H Hd' H' v kvs => ∃ p o ks, v = .ref p ∧ H p = none ∧ Hd' p = none ∧ (p == sysModules) = false ∧ H' p = some (dkO p o) ∧ DkIs w o ks ∧ RpKvs K w Hd' ks kvs, fun s ⟨p, o, ks, e, n, r⟩ => ⟨p, o, ks, e, s.free n, r⟩⟩
abbrev DX (X : Cx) (B : Bx) (W : WX) (e : Expr) (f : Sg → R (List (D × D))) : Prop := PE X e (tG X.K X.w (rlX X.K X.w) B W f)
section
variable {X : Cx} {B : Bx} {W : WX} {e a b c : Expr} {pos pos' p p2 : Pos} {f f1 : Sg → R D}
def fX0 : Sg → R (List (D × D)) := fun _ => .ok []
theorem dx_new : DX X B W (.Dict [] [] pos) fX0 := PE.imp pe_dnewO fun σ H Q ⟨g, Hd, rep, h⟩ p o n hs z => by
  exact h.ok (Step.own rep.same n) ⟨p, o, [], rfl, n, rep.same.free n, hs, upd_same, z, .nil⟩
theorem Rep.newX {K : PySem.W.Frag} {w : World} {Hd H Hd1 H1 : Hp} {σ : L2.St} {g : Sg} {v : V} {kvs : List (D × D)} (rep : Rep K w B Hd H σ g) (t : Step Hd H Hd1 H1) (rep1 : Rep K w B Hd1 H1 σ g) (r : (rlX K w).r H Hd1 H1 v kvs) (i : Nat) : Rep K w B Hd1 H1 (σ.set i (some v)) (g.set i (.dct kvs)) := by
  obtain ⟨p, o, ks, rfl, n0, n, hs0, hp, z, r⟩ := r
  refine rep1.own (fun j s q u ej oj eq hu z => ?_) i rfl ⟨rfl, rep.base.h.free n0, n, hs0, o, ks, hp, z, r⟩
  obtain ⟨b, l, ow, _, hs⟩ := rep
  obtain ⟨e1, _, _, u', hu'⟩ := (hs j s ej).there oj
  have : q = ow j := by
    have := (get_join eq).symm.trans e1
    injection this with this
    injection this
  rw [← this, z, n0] at hu'
  cases hu'
abbrev oSetX (i : Nat) (f : Sg → R (List (D × D))) : Sg → Out := oE f fun g kvs => .nx (g.set i (.dct kvs))
theorem ds_setX {fo : Sg → R (List (D × D))} {i : Nat} {x : Str} (hN : X.N.Nodup) (hi : X.N[i]? = some x) (hx : Loc X.env.scope x) (he : DX X B W e fo) (hs : swapsWith e (some (.Name x pos')) pos.line X.env = pure false := by rfl)
    (hf : X.fn x = true ∨ X.env.scope.names.lookup x = some .local := by first | exact .inl rfl | exact .inr rfl | assumption) : DS X B W (.Assign [.Name x pos'] e pos) (oSetX i fo) :=
  PS.imp (ps_set hN hi hx he hs hf) fun Dn σ H ⟨g, Hd, rep, h⟩ => okE rep h fun d v Hd1 H1 t r rep1 h1 => h1 _ Hd1 H1 (.refl _) (rep.newX t rep1 r i)
/-- own dict, changed -/
def oOwnD {α : Type} (i : Nat) (f : Sg → R α) (F : List (D × D) → α → R (List (D × D))) : Sg → Out := fun g => match g[i]? with
  | some (.dct kvs) => oE f (fun g a => match F kvs a with
    | .ok kvs' => .nx (g.set i (.dct kvs'))
    | _ => .no) g
  | _ => .no
theorem ok_ownD {α β : Type} {rl : Rl β α} {K : PySem.W.Frag} {w : World} {Hd H : Hp} {σ : L2.St} {g : Sg} {i : Nat} {f : Sg → R α} {F : List (D × D) → α → R (List (D × D))} {Dn : Ends} (rep : Rep K w B Hd H σ g) (h : OkO K w B W Hd Dn (oOwnD i f F g)) :
    ∃ p o ks kvs, σ[i]? = some (some (.ref p)) ∧ H p = some (dkO p o) ∧ g[i]? = some (.dct kvs) ∧ DkIs w o ks ∧ (p == sysModules) = false ∧ RpKvs K w Hd ks kvs ∧ ∀ P : β → Hp → Prop, (∀ a v Hd' H' kvs', Step Hd H Hd' H' → rl.r H Hd' H' v a → H' p = some (dkO p o) → RpKvs K w Hd' ks kvs → Rep K w B Hd' H' σ g → F kvs a = .ok kvs' →
      (∀ o' ks', DkIs w o' ks' → RpKvs K w Hd' ks' kvs' → Dn.nx σ (upd H' p (dkO p o'))) → P v H') → tG K w rl B W f σ H P := by
  unfold oOwnD at h
  cases e : g[i]? with
  | none => rw [e] at h; exact h.elim
  | some s =>
    rw [e] at h
    cases s with
    | un => exact h.elim
    | dat d => exact h.elim
    | lst kvs => exact h.elim
    | mem a kvs => exact h.elim
    | dct kvs =>
      obtain ⟨_, _, ow, _, hs⟩ := id rep
      obtain ⟨ep0, b0, n0, hsys, o, ks, hp, z, r⟩ := hs i (.dct kvs) e
      have ep : σ[i]? = some (some (.ref (ow i))) := by
        cases e2 : σ[i]? with
        | none => rw [e2] at ep0; cases ep0
        | some x => rw [e2] at ep0; exact congrArg some ep0
      refine ⟨ow i, o, ks, kvs, ep, hp, rfl, z, hsys, r, fun P hP => okE rep h fun a v Hd1 H1 t r1 rep1 h1 => ?_⟩
      cases eF : F kvs a with
      | no => rw [eF] at h1; exact h1.elim
      | ex x => rw [eF] at h1; exact h1.elim
      | ok kvs' =>
        rw [eF] at h1
        refine hP a v Hd1 H1 kvs' t r1 (t.h _ _ hp) (r.mono t.d) rep1 eF fun o' ks' z' r' => h1 σ Hd1 _ (.refl _) ?_
        exact rep1.turn e rfl ep rfl fun H' h' b1 n1 => ⟨rfl, b1, n1, hsys, o', ks', h', z', r'⟩
def putF (dv : D) : List (D × D) → D → R (List (D × D)) := fun kvs dk => match kOf dk with
  | some _ => if kvs.length < big then .ok (putD kvs dk dv) else .no
  | none => .no
theorem key_ref {K : PySem.W.Frag} {w : World} {H : Hp} {v : V} {d : D} {k : NestedKey} (r : Rp K w H v d) (e : kOf d = some k) (ht : ∃ ds, d = .tuple ds) : ∃ q, v = .ref q := by
  obtain ⟨ds, rfl⟩ := ht
  cases r with
  | tup _ _ => exact ⟨_, rfl⟩
def isT : D → Bool
  | .tuple _ => true
  | _ => false
def putT (dv : D) : List (D × D) → D → R (List (D × D)) := fun kvs dk => if isT dk then putF dv kvs dk else .no
def oStoreK (i : Nat) (fv fk : Sg → R D) : Sg → Out := oE fv fun g d => oOwnD i fk (putT d) g
theorem ds_storeK {i : Nat} {o ix : Expr} {fv fi : Sg → R D} (hps : PS X (.Assign [.Subscript o ix p2] e pos) (tAsg (tG X.K X.w (rlD X.K X.w) B W fv) (gSub (tVar i) (tG X.K X.w (rlD X.K X.w) B W fi) (rSetK X.K X.w)))) :
    DS X B W (.Assign [.Subscript o ix p2] e pos) (oStoreK i fv fi) := PS.imp hps fun Dn σ H ⟨g, Hd, rep, h⟩ => okE rep h fun d v Hd1 H1 t r rep1 h1 => by
  have r : Rp X.K X.w Hd1 v d := r
  obtain ⟨p, ob, ks, kvs, ep, hp, eg, z, hsys, rr, fin⟩ := ok_ownD rep1 h1
  refine ⟨_, ep, fin _ fun k u Hd2 H2 kvs' t2 r1 hp1 r2 rep2 eF kk => ?_⟩
  have r1 : Rp X.K X.w Hd2 u k := r1
  unfold putT at eF
  split at eF
  case isFalse => cases eF
  case isTrue ht =>
    unfold putF at eF
    split at eF
    · rename_i k1 ek
      split at eF
      case isFalse => cases eF
      case isTrue hb =>
        cases eF
        obtain ⟨q, rfl⟩ := key_ref r1 ek (by cases k <;> simp_all [isT])
        have hl := kvs_len r2
        refine ⟨p, q, ob, ks, kvs, k, k1, Hd2, rfl, rfl, hp1, z, r2, rep2.same, r1, ek, ?_, fun ob' z' => kk ob' _ z' (kvs_put r2 ek r1 (r.mono t2.d))⟩
        have : big + 1 ≤ sizeLine := by unfold big; decide
        omega
    · cases eF
end
end G
end

section
set_option Elab.async false
set_option linter.all false
set_option maxRecDepth 100000
set_option maxHeartbeats 4000000
/-! G14: dicts, read: sorted, len, [], get, in. -/
namespace G
open PySem PySem.Spec PyProof.Rows L2
mutual
theorem no_as {h : Heap} : ∀ {u : Value} {d : D} {as : List Addr} {k : NestedKey}, Reads h u d as → keyOf d = some k → as = []
  | _, _, _, _, .none, e => rfl
  | _, _, _, _, .bool b, e => rfl
  | _, _, _, _, .int i t, e => rfl
  | _, _, _, _, .str x t, e => rfl
  | _, _, _, _, .list .., e => by simp [keyOf] at e
  | _, _, _, _, .dict .., e => by simp [keyOf] at e
  | _, _, _, _, .tuple h1 h2 h3 ra, e => by
    simp only [keyOf, Option.map_eq_some_iff] at e
    obtain ⟨ks, e1, rfl⟩ := e
    exact no_ass ra e1
theorem no_ass {h : Heap} : ∀ {us : List Value} {ds : List D} {as : List Addr} {ks : List NestedKey}, ReadsAll h us ds as → keyOf.keysOf ds = some ks → as = []
  | _, _, _, _, .nil, e => rfl
  | _, _, _, _, .cons r rs, e => by
    simp only [keyOf.keysOf, Option.bind_eq_some_iff, Option.map_eq_some_iff] at e
    obtain ⟨k, e1, ks, e2, rfl⟩ := e
    rw [no_as r e1, no_ass rs e2]
    rfl
end
/-- a dict that is read -/
def rDk (K : PySem.W.Frag) (w : World) (Hd H : Hp) (v : V) (kvs : List (D × D)) : Prop := ∃ p o ks, v = .ref p ∧ H p = some (dkO p o) ∧ (p == sysModules) = false ∧ DkIs w o ks ∧ RpKvs K w Hd ks kvs
def keysT (kvs : List (D × D)) : Bool := kvs.all fun p => isT p.1
theorem RpT.dk {K : PySem.W.Frag} {w : World} {Hd H : Hp} {v : V} {kvs : List (D × D)} (s : Same Hd H) (r : RpT K w Hd H v (.dict kvs)) (h : keysT kvs = true) : rDk K w Hd H v kvs := by
  rcases r with r | ⟨_, _, _, _, e2, _⟩ | ⟨p, o, ks, kvs', rfl, e2, h1, h2, h3, h4⟩
  · generalize eq : PyData.dict kvs = d at r
    cases r with
    | loose h1 h2 =>
      cases eq
      simp [keysT, isT] at h
    | scr h1 =>
      cases eq
      simp [keysT, isT] at h
    | dct h1 h2 h3 h4 =>
      cases eq
      exact ⟨_, _, _, rfl, s _ _ h1, h2, h3, h4⟩
    | _ => cases eq
  · cases e2
  · cases e2
    exact ⟨p, o, ks, rfl, h1, h2, h3, h4⟩
section
variable {X : Cx} {B : Bx} {W : WX} {e a b c : Expr} {pos p p2 : Pos} {f f1 f2 : Sg → R D}
theorem keys_dp {K : PySem.W.Frag} {w : World} {Hd H : Hp} (s : Same Hd H) {ks : KsT} {kvs : List (D × D)} (r : RpKvs K w Hd ks kvs) : DpAll K H (ks.map fun x => V.ref x.2.1) (kvs.map Prod.fst) := by
  induction kvs generalizing ks with
  | nil => cases r; exact .nil
  | cons a kvs ih =>
    cases r with
    | cons e1 r1 r2 r3 => exact .cons ((r1.mono s).dp (plain_key (kOf_some e1).1)) (ih r3)
theorem keys_kOf {K : PySem.W.Frag} {w : World} {H : Hp} {ks : KsT} {kvs : List (D × D)} (r : RpKvs K w H ks kvs) : ∀ d ∈ kvs.map Prod.fst, ∃ k, kOf d = some k := by
  induction kvs generalizing ks with
  | nil => intro d hd; cases hd
  | cons a kvs ih =>
    cases r with
    | cons e1 r1 r2 r3 =>
      intro d hd
      rcases List.mem_cons.mp hd with h | h
      · exact ⟨_, by rw [h]; exact e1⟩
      · exact ih r3 d h
theorem keys_rp {K : PySem.W.Frag} {w : World} {H : Hp} {ks : KsT} {kvs : List (D × D)} (r : RpKvs K w H ks kvs) : RpAll K w H (ks.map fun x => V.ref x.2.1) (kvs.map Prod.fst) := by
  induction kvs generalizing ks with
  | nil => cases r; exact .nil
  | cons a kvs ih =>
    cases r with
    | cons e1 r1 r2 r3 => exact .cons r1 (ih r3)
def rSortDk (K : PySem.W.Frag) (w : World) : List V → Hp → VK → Prop := fun us H Q => ∃ (p : Addr) (o : Obj) (ks : KsT) (ds : List D), us = [V.ref p] ∧ H p = some (dkO p o) ∧ (p == sysModules) = false ∧ DkIs w o ks ∧ DpAll K H (ks.map fun x => V.ref x.2.1) ds ∧ (∀ d ∈ ds, ∃ k, kOf d = some k) ∧ sameKind ds = true ∧ sortB ds = true ∧
  ∀ (prs : List (V × D)) (q : Addr), prs = ((ks.map fun x => V.ref x.2.1).zip ds).mergeSort (PySem.W.dataLe false Prod.snd) → H q = none → Q (.ref q) (upd H q (.lst (prs.map Prod.fst)))
theorem each_reads {h : Heap} {a : Addr} : ∀ {us : List Value} {prs : List (V × D)} {as : List Addr}, ReadsAll h us (prs.map Prod.snd) as → (∀ q ∈ prs, ∃ k, kOf q.2 = some k) → PySem.W.EachIs (fun v (q : V × D) => ∃ as, Reads h v q.2 as ∧ a ∉ as) us prs
  | _, [], _, r, _ => by
    have r' : ReadsAll h _ [] _ := r
    cases r'
    exact .nil
  | _, q :: prs, _, r, hk => by
    have r' : ReadsAll h _ (q.2 :: prs.map Prod.snd) _ := r
    cases r' with
    | cons h1 h2 =>
      obtain ⟨k, e⟩ := hk q (List.mem_cons_self ..)
      refine .cons ⟨_, h1, ?_⟩ (each_reads h2 fun x hx => hk x (List.mem_cons_of_mem _ hx))
      rw [no_as h1 (kOf_some e).1]
      exact fun z => nomatch z
theorem vals_keys {ks : KsT} {xs : List (NestedKey × Addr × Value)} (rel : KsRel ks xs) : Vals (ks.map fun x => V.ref x.2.1) (xs.map fun x => Value.ref x.2.1) := by
  induction rel with
  | nil => exact .nil
  | cons h _ ih => exact .cons (by obtain ⟨_, h2, _⟩ := h; show Value.ref _ = Value.ref _; rw [h2]) ih
theorem cr_sortDk (hc : X.calm = true) (hu : X.A.units + 66 < cLine) : CallR X (.builtin "sorted") (rSortDk X.K X.w) := by
  intro pins s σ H xs us Q I r h
  obtain ⟨p, o, ks, ds, rfl, hp, hsys, z, hd, hk0, hk, hb, q⟩ := h
  have dep := sameKind_depth hk
  rw [Vals.ref1 r]
  obtain ⟨z1, hz, es, ep, z2, xs, rel, z3, z4⟩ := z
  have raw : s.heap.DictRaw p es ep := ⟨o, obj_at I hp, z1, z2⟩
  have hes : es.size = xs.length := by rw [← Array.length_toList, z3, List.length_map]
  have hkl := rel_len rel
  refine Calls.call_function_entry PyProof.Rows.kind_sorted PyProof.Rows.plain_sorted PyProof.Rows.entry_sorted (PyProof.Rows.args_sorted1 _) ?_
  unfold Builtin.«sorted»
  refine wpAny_bind (m := checkCount "sorted" 1 1 _) (wpAny_pure ?_)
  refine wpAny_bind (PySem.W.kdu_collect (A := X.A.in1) (KdlSrc.rawDict (es := es) (ep := ep) hsys) (I.ok.hd hc) raw (by omega) fun h' tk acc hkp hacc => ?_)
  have I1 : Inv X pins σ H { s with heap := h', toks := tk } := I.kept hkp
  have hal : acc.toList = xs.map fun x => Value.ref x.2.1 := by
    refine List.ext_getElem? fun i => ?_
    by_cases hi : i < es.size
    · have hi2 : i < acc.size := by rw [hacc.1]; exact hi
      obtain ⟨hi3, e⟩ := hacc.2 i _ (Array.getElem?_eq_getElem hi2)
      rw [Array.getElem?_toList, Array.getElem?_eq_getElem hi2, e, List.getElem?_map, List.getElem?_eq_getElem (by omega : i < xs.length)]
      have e3 : es.toList[i]? = (xs.map (fun x => (⟨NestedKey.hash X.w x.1, .ref x.2.1, x.2.2⟩ : DictEntry)))[i]? := by rw [z3]
      rw [Array.getElem?_toList, Array.getElem?_eq_getElem hi, List.getElem?_map, List.getElem?_eq_getElem (by omega : i < xs.length)] at e3
      rw [Option.some.inj e3]
      rfl
    · rw [List.getElem?_eq_none (by rw [Array.length_toList, hacc.1]; omega), List.getElem?_eq_none (by rw [List.length_map]; omega)]
  have rv : Vals (ks.map fun x => V.ref x.2.1) acc.toList := by rw [hal]; exact vals_keys rel
  obtain ⟨as, ra⟩ := Dp.readsAll I1 _ _ _ hd rv
  have ln : (ks.map fun x => V.ref x.2.1).length = ds.length := by rw [rv.length]; exact SeqAt.ReadsAll.length _ _ _ ra
  have es2 : ((ks.map fun x => V.ref x.2.1).zip ds).map Prod.snd = ds := List.map_snd_zip (by omega)
  have hlz : ((ks.map fun x => V.ref x.2.1).zip ds).length = acc.toList.length := by rw [List.length_zip, ← rv.length]; omega
  have hals : acc.toList.length ≤ sizeLine := by rw [← rv.length, List.length_map]; exact hz
  refine wpAny_bind (wpAny_newList ?_ hals)
  have hoL : (h'.push (seqObj "list" acc.toList.toArray 0)).get? h'.objs.size = some (seqObj "list" acc.toList.toArray 0) := Heap.get?_push_size _ rfl
  have ra2 : ReadsAll (h'.push (seqObj "list" acc.toList.toArray 0)) acc.toList (((ks.map fun x => V.ref x.2.1).zip ds).map Prod.snd) as := by
    rw [es2]
    exact PyProof.Rows.ReadsAll.keeps (fun b u e => Heap.get?_push_of_some _ e) ra
  show wpAny _ _ _ _ _ { s with heap := h'.push (seqObj "list" acc.toList.toArray 0), toks := tk }
  refine wpAny_bind (wpAny_holding (PySem.W.list_sort_data (β := V × D) (s := { s with heap := h'.push (seqObj "list" acc.toList.toArray 0), toks := tk }) (R := fun u q => RelV q.1 u) (enc := Prod.snd) (bs := (ks.map fun x => V.ref x.2.1).zip ds) hoL (each_zip (R := fun _ _ => True) ln rv)
    (each_reads ra2 fun q hq => hk0 _ (by rw [← es2]; exact List.mem_map_of_mem hq)) ?_ ?_ (by rw [hlz]; exact hals) (fun q hq => ?_) fun out ho eo => ?_))
  · rw [es2]
    exact fun d h1 d' h2 => sameKind_alike hk d h1 d' h2
  · rw [es2]
    exact sortB_ok hb
  · have hm : q.2 ∈ ds := by rw [← es2]; exact List.mem_map_of_mem hq
    have := depth_le_all hm
    show X.A.units + 1 + 1 + _ < cLine
    omega
  · have rv2 := each_fst eo
    obtain ⟨e', he'⟩ := PyProof.Rows.sortedHeap_at (vs := acc.toList) (out := out.toArray) hoL
    refine wpAny_pure ⟨_, rfl, .ref h'.objs.size, upd H h'.objs.size (.lst _), I1.laid (t' := tk) (fun b u e => ?_) (Nat.le_refl _)
      ⟨?_, out, e', rv2, he'⟩, rfl, q _ _ rfl (I1.hok.fresh (Nat.le_refl _))⟩
    · have hb : b < h'.objs.size := Heap.lt_size e
      show (sortedHeap (h'.push (seqObj "list" acc.toList.toArray 0)) h'.objs.size acc.toList out.toArray).get? b = some u
      rw [PyProof.Rows.sortedHeap_old (Nat.ne_of_lt hb) (by rw [size_push']; exact Nat.lt_succ_of_lt hb)]
      exact Heap.get?_push_of_some _ e
    · rw [rv2.length, ho, hlz]
      exact hals
def srtDk : D → R (List D)
  | .dict kvs => if keysT kvs && sameKind (kvs.map Prod.fst) && sortB (kvs.map Prod.fst) && decide (kvs.length ≤ big) then .ok (srt (kvs.map Prod.fst)) else .no
  | _ => .no
theorem do_sortedX (hc : X.calm = true) (hu : X.A.units + 66 < cLine) (hg : Gl X "sorted") (hm : X.mg "sorted" = none) (ha : DT X B W a f1) (he : starEach [a] X.env = (false, eval a X.env) :: starEach [] X.env := by rfl) (hpl : (backTo pos (starEach [] X.env)).any (·.1) = false := by rfl) :
    DO X B W (.Call (.Name "sorted" p) [a] [] pos) (fUn srtDk f1) := dr_callB1 (rl := rlO X.K X.w) (cr_sortDk hc hu) (fun {Hd H σ x v Q} s r1 h => by
      unfold srtDk at h
      split at h
      · rename_i kvs
        split at h
        case isFalse => exact no_elim h
        case isTrue hz =>
          rw [Bool.and_eq_true, Bool.and_eq_true, Bool.and_eq_true] at hz
          obtain ⟨p, o, ks, ev, hp, hsys, z, r⟩ := r1.dk s hz.1.1.1
          subst ev
          refine ⟨p, o, ks, _, rfl, hp, hsys, z, keys_dp s r, keys_kOf r, hz.1.1.2, hz.1.2, fun prs q e hq => ?_⟩
          subst e
          exact h.ok (Step.own s hq) ⟨q, _, rfl, hq, s.free hq, upd_same, sort_zip (keys_rp r)⟩
      · exact no_elim h) hg hm boot_sorted ha (he := he) (hpl := hpl)
theorem u66 {k : Nat} {A : Around} (r : Room k A) : A.units + 66 < cLine := by have := r.un; omega
end
end G
end

section
set_option Elab.async false
set_option linter.all false
set_option maxRecDepth 100000
set_option maxHeartbeats 4000000
/-! G15: dicts, read by keys. -/
namespace G
open PySem PySem.Spec PyProof.Rows L2
def atK (ks : KsT) (k : NestedKey) : Option V := (ks.find? fun x => decide (x.1 = k)).map fun x => x.2.2
def atD (kvs : List (D × D)) (dk : D) : Option D := (kvs.find? fun p => decide (kOf p.1 = kOf dk)).map Prod.snd
theorem rel_atK {ks : KsT} {xs : List (NestedKey × Addr × Value)} (r : KsRel ks xs) (k : NestedKey) : (atK ks k = none ∧ atKey xs k = none) ∨ ∃ v q u, atK ks k = some v ∧ atKey xs k = some (q, u) ∧ RelV v u := by
  induction r with
  | nil => exact .inl ⟨rfl, rfl⟩
  | @cons a b as bs h _ ih =>
    obtain ⟨h1, h2, h3⟩ := h
    unfold atK atKey at ih ⊢
    rw [List.find?_cons, List.find?_cons, ← h1]
    by_cases c : a.1 = k
    · rw [decide_eq_true c]
      exact .inr ⟨_, _, _, rfl, rfl, h3⟩
    · rw [decide_eq_false c]
      exact ih
theorem kvs_at {K : PySem.W.Frag} {w : World} {H : Hp} {ks : KsT} {kvs : List (D × D)} (r : RpKvs K w H ks kvs) {dk : D} {k : NestedKey} (e : kOf dk = some k) : (atK ks k = none ∧ atD kvs dk = none) ∨ ∃ v d, atK ks k = some v ∧ atD kvs dk = some d ∧ Rp K w H v d := by
  induction kvs generalizing ks with
  | nil => cases r; exact .inl ⟨rfl, rfl⟩
  | cons a kvs ih =>
    cases r with
    | @cons k1 q1 v1 ks1 dk1 dv1 kvs1 e1 r1 r2 r3 =>
      unfold atK atD at ih ⊢
      rw [List.find?_cons, List.find?_cons]
      by_cases c : k1 = k
      · have c2 : kOf dk1 = kOf dk := by rw [e1, e, c]
        simp only [decide_eq_true c, decide_eq_true c2]
        exact .inr ⟨_, _, rfl, rfl, r2⟩
      · have c2 : ¬ kOf dk1 = kOf dk := by rw [e1, e]; exact fun z => c (Option.some.inj z)
        simp only [decide_eq_false c, decide_eq_false c2]
        exact ih r3
section
variable {X : Cx} {B : Bx} {W : WX} {e a b c o e1 e2 : Expr} {pos p p2 apos cpos : Pos} {f f1 f2 f3 : Sg → R D}
/-- a dict and a key -/
def DkAt (K : PySem.W.Frag) (w : World) (H : Hp) (x y : V) (k : NestedKey) (ks : KsT) : Prop := ∃ p o kvs q dk Hd, x = .ref p ∧ y = .ref q ∧ H p = some (dkO p o) ∧ (p == sysModules) = false ∧ DkIs w o ks ∧ RpKvs K w Hd ks kvs ∧ Same Hd H ∧ Rp K w Hd (.ref q) dk ∧ kOf dk = some k
def rIxK (K : PySem.W.Frag) (w : World) : R2 := fun x y H Q => ∃ k ks v, DkAt K w H x y k ks ∧ atK ks k = some v ∧ Q v H
theorem ix_key (hu : X.A.units + 65 < cLine) : IxR X (rIxK X.K X.w) := by
  intro value slice pins s σ H x y v u Q I rx ry h hs
  obtain ⟨k, ks, z, ⟨p, o, kvs, q, dk, Hd, rfl, rfl, hp, hsys, hz, r, sm, rk, ek⟩, e, fin⟩ := h
  obtain rfl : v = Value.ref p := rx
  obtain rfl : u = Value.ref q := ry
  obtain ⟨xs, hm, rel⟩ := dct_of I sm hp hz r
  rcases rel_atK rel k with ⟨n1, _⟩ | ⟨v', q', u', n1, n2, n3⟩
  · rw [e] at n1; cases n1
  · rw [e] at n1
    cases n1
    exact tail_any hm.typeIs PySem.F.slot_dict_getitem.lookup (wpAny_getItem_heap (knd := nestedKind X.prog X.w) (by show X.A.units + 1 + 8 < cLine; omega) (is_key I sm rk ek) hm n2 ⟨z, H, I.tok _, n3, fin⟩) hs
def rGetK (K : PySem.W.Frag) (w : World) : V → List V → Hp → VK → Prop := fun x xs H Q => ∃ y d k ks, xs = [y, d] ∧ DkAt K w H x y k ks ∧ Q ((atK ks k).getD d) H
theorem mt_getK (hu : X.A.units + 65 < cLine) : MtR X "dict.get" (rGetK X.K X.w) := by
  intro pins s σ H x xs v us Q I rx rxs h
  obtain ⟨y, d, k, ks, rfl, ⟨p, o, kvs, q, dk, Hd, rfl, rfl, hp, hsys, hz, r, sm, rk, ek⟩, fin⟩ := h
  obtain ⟨xs, hm, rel⟩ := dct_of I sm hp hz r
  cases rx
  cases rxs with
  | cons ry rt =>
    cases rt with
    | cons rd rt =>
      cases rt
      rename_i u2
      cases (show _ = Value.ref q from ry)
      refine getOr_keyed (knd := nestedKind X.prog X.w) (kvs := pairsH xs) (by show X.A.units + 1 + 8 < cLine; omega) (is_key I sm rk ek) hsys ⟨xs, hm, rfl⟩ ?_
      rw [valueAt_pairsH]
      rcases rel_atK rel k with ⟨n1, n2⟩ | ⟨v', q', u', n1, n2, n3⟩
      · rw [n1] at fin
        rw [n2]
        exact ⟨d, H, I.tok _, rd, fin⟩
      · rw [n1] at fin
        rw [n2]
        exact ⟨v', H, I.tok _, n3, fin⟩
def asDct : D → R (List (D × D))
  | .dict kvs => if keysT kvs then .ok kvs else .no
  | _ => .no
def keyB (dk : D) : Bool := isT dk && (kOf dk).isSome
theorem keyB_at {K : PySem.W.Frag} {w : World} {Hd H : Hp} {x y : V} {kvs : List (D × D)} {dk : D} (sm : Same Hd H) (h : rDk K w Hd H x kvs) (rk : Rp K w Hd y dk) (hb : keyB dk = true) : ∃ k ks, kOf dk = some k ∧ DkAt K w H x y k ks ∧ RpKvs K w Hd ks kvs := by
  obtain ⟨p, o, ks, rfl, hp, hsys, hz, r⟩ := h
  unfold keyB at hb
  rw [Bool.and_eq_true] at hb
  obtain ⟨k, ek⟩ := Option.isSome_iff_exists.mp hb.2
  obtain ⟨q, rfl⟩ := key_ref rk ek (by cases dk <;> simp_all [isT])
  exact ⟨k, ks, ek, ⟨p, o, kvs, q, dk, Hd, rfl, rfl, hp, hsys, hz, r, sm, rk, ek⟩, r⟩
theorem rDk.step {K : PySem.W.Frag} {w : World} {Hd H Hd' H' : Hp} {v : V} {kvs : List (D × D)} (s : Step Hd H Hd' H') (h : rDk K w Hd H v kvs) : rDk K w Hd' H' v kvs := by
  obtain ⟨p, o, ks, rfl, hp, hsys, hz, r⟩ := h
  exact ⟨p, o, ks, rfl, s.h _ _ hp, hsys, hz, r.mono s.d⟩
/-- d[k] -/
def ixK : D → D → R D := fun x y => (asDct x).bind fun kvs => if keyB y then R.ofO (atD kvs y) else .no
def fIxK (f1 f2 : Sg → R D) : Sg → R D := fBin ixK f1 f2
theorem de_ixK (hu : X.A.units + 65 < cLine) (ha : DT X B W a f1) (hb : DE X B W b f2) (hs : PlainIx b := by exact fun _ _ => rfl) : DE X B W (.Subscript a b pos) (fIxK f1 f2) := PE.imp (pe_ix (ix_key hu) ha hb hs) fun σ H Q ⟨g, Hd, rep, h⟩ =>
  seq rep h fun x v Hd1 H1 _ s1 r1 rep1 h1 => seq rep1 h1 fun y u Hd2 H2 _ s2 r2 rep2 h2 => by
    have r1 : RpT X.K X.w Hd1 H1 v x := r1
    have r2 : Rp X.K X.w Hd2 u y := r2
    unfold ixK asDct at h2
    split at h2
    · rename_i kvs
      split at h2
      case isFalse => exact no_elim h2
      case isTrue hk =>
        simp only [R.bind_ok] at h2
        split at h2
        case isFalse => exact no_elim h2
        case isTrue hb =>
          obtain ⟨k, ks, ek, D0, rr⟩ := keyB_at rep2.same ((r1.dk rep1.same hk).step s2) r2 hb
          rcases kvs_at rr ek with ⟨_, n2⟩ | ⟨v', d', n1, n2, n3⟩
          · rw [n2] at h2; exact no_elim h2
          · rw [n2] at h2
            exact ⟨k, ks, v', D0, n1, h2.ok (Step.refl rep2.same) n3⟩
    · exact no_elim h2
/-- d.get(k, x) -/
def fGetK (f1 f2 f3 : Sg → R D) : Sg → R D := fun g => (f1 g).bind fun x => (asDct x).bind fun kvs => (f2 g).bind fun y => (f3 g).bind fun d => if keyB y then .ok ((atD kvs y).getD d) else .no
theorem de_getK (hu : X.A.units + 65 < cLine) (ho : DT X B W o f1) (h1 : DE X B W e1 f2) (h2 : DE X B W e2 f3) (hbase : attributeBase o "get" X.env (eval o X.env) = eval o X.env := by rfl)
    (hfew : ((backTo cpos (starEach [e1, e2] X.env)).all (fun x => !x.1) && (backToKw cpos (keywordEach [] X.env)).all (fun x => x.1.isSome) && decide ([e1, e2].length + ([] : List Keyword).length + (if ([] : List Keyword).isEmpty then 0 else 1) < 30)) = true := by rfl)
    (hline : (apos.endLine == cpos.line) = true := by rfl) (hs : starEach [e1, e2] X.env = (false, eval e1 X.env) :: starEach [e2] X.env := by rfl) (hs2 : starEach [e2] X.env = (false, eval e2 X.env) :: starEach [] X.env := by rfl) (hplain : (backTo cpos (starEach [e2] X.env)).any (·.1) = false := by rfl) :
    DE X B W (.Call (.Attribute o "get" apos) [e1, e2] [] cpos) (fGetK f1 f2 f3) := PE.imp (pe_bf PySem.F.plainAttrs_dict PySem.F.slot_dict_get PySem.F.type_dict_get (mt_getK hu) ho (pa_cons h1 (pa_cons h2 pa_nil hs2) hs) hbase hfew hline hs hplain) fun σ H Q ⟨g, Hd, rep, h⟩ =>
  seq rep h fun x v Hd1 H1 _ s1 r1 rep1 h1 => by
    have r1 : RpT X.K X.w Hd1 H1 v x := r1
    unfold asDct at h1
    split at h1
    · rename_i kvs
      split at h1
      case isFalse => exact no_elim h1
      case isTrue hk =>
        simp only [R.bind_ok] at h1
        have rd := r1.dk rep1.same hk
        refine ⟨.inr (.inr ⟨rfl, ?_⟩), seq rep1 h1 fun y u Hd2 H2 _ s2 r2 rep2 h2 => seq rep2 h2 fun d t Hd3 H3 _ s3 r3 rep3 h3 => ?_⟩
        · obtain ⟨p, ob, ks, e, hp, _, hz, _⟩ := rd
          exact ⟨p, ob, e, hp, hz.1⟩
        · have r2 : Rp X.K X.w Hd2 u y := r2
          have r3 : Rp X.K X.w Hd3 t d := r3
          split at h3
          case isFalse => exact no_elim h3
          case isTrue hb =>
            obtain ⟨k, ks, ek, D0, rr⟩ := keyB_at rep3.same ((rd.step s2).step s3) (r2.mono s3.d) hb
            refine ⟨u, t, k, ks, rfl, D0, ?_⟩
            rcases kvs_at rr ek with ⟨n1, n2⟩ | ⟨v', d', n1, n2, n3⟩
            · rw [n2] at h3
              rw [n1]
              exact h3.ok (Step.refl rep3.same) r3
            · rw [n2] at h3
              rw [n1]
              exact h3.ok (Step.refl rep3.same) n3
    · exact no_elim h1
end
end G
end

section
set_option Elab.async false
set_option linter.all false
set_option maxRecDepth 100000
set_option maxHeartbeats 4000000
/-! G16: what is walked: the keys of a dict that is known. -/
namespace G
open PySem PySem.Spec PyProof.Rows L2
def Itg (d : Addr) (ob : Obj) (ks : KsT) : It where
  go n H := H d = some (dkO d ob) ∧ n < ks.length
  yld n H x H' := H' = H ∧ ∃ t, ks[n]? = some t ∧ x = .ref t.2.1
  stop n H := H d = some (dkO d ob) ∧ ks.length ≤ n
theorem rel_get {ks : KsT} {xs : List (NestedKey × Addr × Value)} (r : KsRel ks xs) : ∀ {n : Nat} {t : NestedKey × Addr × V}, ks[n]? = some t → ∃ b, xs[n]? = some b ∧ t.1 = b.1 ∧ t.2.1 = b.2.1 ∧ RelV t.2.2 b.2.2 := by
  induction r with
  | nil => intro n t ht; simp at ht
  | cons h _ ih =>
    intro n t ht
    cases n with
    | zero => simp at ht; subst ht; exact ⟨_, rfl, h⟩
    | succ n => exact ih (n := n) (by simpa using ht)
theorem ent_of {w : World} {ob : Obj} {ks : KsT} (z : DkIs w ob ks) : ∃ es ep, ob.data = .dict es ep ∧ es.size = ks.length ∧ ∀ (n : Nat) (t : NestedKey × Addr × V), ks[n]? = some t → ∃ en u, es[n]? = some en ∧ en.key = .ref t.2.1 ∧ en.val = u ∧ RelV t.2.2 u := by
  obtain ⟨_, _, es, ep, z2, xs, rel, z3, _⟩ := z
  have hl := rel_len rel
  have hs : es.size = xs.length := by rw [← Array.length_toList, z3, List.length_map]
  refine ⟨es, ep, z2, by omega, fun n t ht => ?_⟩
  obtain ⟨b, hb, r1, r2, r3⟩ := rel_get rel ht
  have e : es.toList[n]? = some ⟨NestedKey.hash w b.1, .ref b.2.1, b.2.2⟩ := by rw [z3, List.getElem?_map, hb]; rfl
  exact ⟨_, b.2.2, by rw [← Array.getElem?_toList]; exact e, by rw [r2], rfl, r3⟩
section
variable {w0 : World} {ob : Obj} {ks : KsT} {d : Addr}
theorem turn_g {P : Program} {w : World} {K : PySem.W.Frag} {tg : Expr} {es : Array DictEntry} {ep : Nat} (z : DkIs w0 ob ks) (hod : ob.data = .dict es ep) (iter : Addr) :
    Turn P w K tg (Itg d ob ks) [iter] iter (fun n h => h.IsKeyIter iter d n ks.length ep) := by
  obtain ⟨es', ep', z2, zs, ent⟩ := ent_of z
  obtain ⟨rfl, rfl⟩ := dict_ep hod z2
  exact {
    mem := List.mem_singleton_self _
    obj := fun n h st b hb => by
      cases List.mem_singleton.mp hb
      obtain ⟨oo, g1, g2, g3⟩ := st
      exact ⟨oo, g1, fun v hv => by rw [g3] at hv; cases hv⟩
    keep := fun n h h' st k => st.at fun oo g => k iter (List.mem_singleton_self _) oo g
    item := by
      rintro X rfl rfl rfl hc n pins s σ H E I hf st ⟨hd, hn⟩
      obtain ⟨m0, m1, m2, m3, m4, m5⟩ := hf iter (List.mem_singleton_self _)
      obtain ⟨t, ht⟩ : ∃ t, ks[n]? = some t := ⟨_, List.getElem?_eq_getElem hn⟩
      obtain ⟨en, u, q1, q2, _, _⟩ := ent n t ht
      refine next_key_item st (obj_at I hd) hod zs q1 fun h2 st2 sb => ?_
      have J : Inv X pins σ H { s with heap := h2 } := I.turned (t' := s.toks) (fun b oo nb g => (sb.2 b nb).trans g) m0 m1 m3 m4 m5
      obtain ⟨oo, g1, g2, g3⟩ := id st2
      exact ⟨_, rfl, go_of (s := { s with heap := h2 }) g1 g2 g3 (by decide) ⟨.ref t.2.1, H, J, q2, ⟨rfl, t, ht, rfl⟩, st2, fun b hb => (hf b hb).1⟩⟩
    done := by
      rintro X rfl rfl rfl hc n pins s σ H E I hf st ⟨hd, hn⟩
      obtain ⟨m0, m1, m2, m3, m4, m5⟩ := hf iter (List.mem_singleton_self _)
      exact next_key_end (I.ok.hd hc) st (obj_at I hd) hod zs hn fun h2 eb => ⟨rfl, I.turned (t' := s.toks) (fun b oo nb g => eb b oo nb g) m0 m1 m3 m4 m5⟩
    self := fun A n s Q E st h => (turn_keysT (P := P) (w := w) (K := K) (tg := tg) (kvs := ks.map fun x => (([] : List L2.Key), x.2.2)) (o := ob) (d := d) iter hod).self A n s Q E (by rw [List.length_map]; exact st) h }
end
section
variable {X : Cx} {B : Bx} {W : WX} {tg a : Expr} {f : Sg → R D}
theorem pi_g {te : TE} (he : PE X a te) : PI X tg a (fun σ H R => te σ H fun x H1 => ∃ d ob ks, x = .ref d ∧ H1 d = some (dkO d ob) ∧ (d == sysModules) = false ∧ DkIs X.w ob ks ∧ R (Itg d ob ks) H1) := by
  refine ⟨fun pins s σ H R I h => thn (he.run pins s σ H _ I h) fun u s1 ⟨x, H1, I1, rx, d, ob, ks, ex, hd, hs, z, q⟩ => ?_⟩
  subst ex
  cases (show u = Value.ref d from rx)
  obtain ⟨es, ep, z2, zs, _⟩ := ent_of z
  refine iter_keys hs (obj_at I1 hd) z.1 z2 (pi_one (tk := s1.toks) I1 _ (turn_g z z2 _) ⟨_, Heap.get?_push_size _ rfl, rfl, ?_⟩ q)
  rw [zs]
  rfl
theorem it_g {K : PySem.W.Frag} {w : World} {Hd : Hp} {d : Addr} {ob : Obj} {ks : KsT} {kvs : List (D × D)} (hp : Hd d = some (dkO d ob)) (r : RpKvs K w Hd ks kvs) : ItOk K w Hd (Itg d ob ks) (kvs.map Prod.fst) where
  goes := fun n H hn s => ⟨s _ _ hp, by rw [kvs_len r]; simpa using hn⟩
  stops := fun H s => ⟨s _ _ hp, by rw [kvs_len r, List.length_map]; exact Nat.le_refl _⟩
  yld := fun n H x H' hn y Hd1 s1 s2 => by
    obtain ⟨rfl, t, ht, rfl⟩ := y
    have rr := (keys_rp r).mono s1
    have e : (ks.map fun x => V.ref x.2.1)[n]? = some (.ref t.2.1) := by rw [List.getElem?_map, ht]; rfl
    obtain ⟨dd, h1, h2⟩ := rr.get' e
    exact ⟨dd, Hd1, h1, Step.refl s2, h2⟩
def keysR : D → R (List D) := fun x => (asDct x).map fun kvs => kvs.map Prod.fst
theorem di_keys (ha : DE X B W a f) : DI X B W tg a (fUn keysR f) := PI.imp (pi_g ha) fun σ H Q ⟨g, Hd, rep, h⟩ => seq rep h fun x v Hd1 H1 _ s1 r1 rep1 h1 => by
  have r1 : Rp X.K X.w Hd1 v x := r1
  unfold keysR asDct at h1
  split at h1
  · rename_i kvs _r0 _r1
    split at h1
    case isFalse => exact no_elim h1
    case isTrue hk =>
      simp only [R.map_ok] at h1
      generalize eq : PyData.dict kvs = dd at r1
      cases r1 with
      | dct q1 q2 q3 q4 =>
        cases eq
        exact ⟨_, _, _, rfl, rep1.same _ _ q1, q2, q3, h1.ok (Step.refl rep1.same) (it_g q1 q4)⟩
      | loose q1 q2 =>
        cases eq
        simp [keysT, isT] at hk
      | scr q1 =>
        cases eq
        simp [keysT, isT] at hk
      | _ => cases eq
  · exact no_elim h1
end
end G
end

section
set_option Elab.async false
set_option linter.all false
set_option maxRecDepth 100000
set_option maxHeartbeats 4000000
/-! G17: d.values(), len(d), k in d. -/
namespace G
open PySem PySem.Spec PyProof.Rows L2
def Itw (d : Addr) (ob : Obj) (ks : KsT) : It where
  go n H := H d = some (dkO d ob) ∧ n < ks.length
  yld n H x H' := H' = H ∧ ∃ t, ks[n]? = some t ∧ x = t.2.2
  stop n H := H d = some (dkO d ob) ∧ ks.length ≤ n
section
variable {w0 : World} {ob : Obj} {ks : KsT} {d : Addr}
theorem raw_of {X : Cx} {pins : List (Addr × Obj)} {σ : L2.St} {s : Shared} {H : Hp} {es : Array DictEntry} {ep : Nat} (I : Inv X pins σ H s) (hd : H d = some (dkO d ob)) (z : DkIs w0 ob ks) (hod : ob.data = .dict es ep) : s.heap.DictRaw d es ep := ⟨ob, obj_at I hd, z.1, hod⟩
theorem turn_w {P : Program} {w : World} {K : PySem.W.Frag} {tg : Expr} {es : Array DictEntry} {ep : Nat} (z : DkIs w0 ob ks) (hod : ob.data = .dict es ep) (iter : Addr) :
    Turn P w K tg (Itw d ob ks) [iter] iter (fun n h => h.IsValIter iter d n ks.length ep) := by
  obtain ⟨es', ep', z2, zs, ent⟩ := ent_of z
  obtain ⟨rfl, rfl⟩ := dict_ep hod z2
  rw [← zs]
  exact {
    mem := List.mem_singleton_self _
    obj := fun n h st b hb => by
      cases List.mem_singleton.mp hb
      obtain ⟨oo, g1, g2, g3⟩ := st
      exact ⟨oo, g1, fun v hv => by rw [g3] at hv; cases hv⟩
    keep := fun n h h' st k => st.at fun oo g => k iter (List.mem_singleton_self _) oo g
    item := by
      rintro X rfl rfl rfl hc n pins s σ H E I hf st ⟨hd, hn⟩
      obtain ⟨m0, m1, m2, m3, m4, m5⟩ := hf iter (List.mem_singleton_self _)
      obtain ⟨t, ht⟩ : ∃ t, ks[n]? = some t := ⟨_, List.getElem?_eq_getElem hn⟩
      obtain ⟨en, u, q1, q2, q3, q4⟩ := ent n t ht
      obtain ⟨q5, q6⟩ := Array.getElem?_eq_some_iff.mp q1
      refine wpAny_pyNext_values_item_raw st (raw_of I hd z hod) q5 fun h2 st2 sb => ?_
      have J : Inv X pins σ H { s with heap := h2 } := I.turned (t' := s.toks) (fun b oo nb g => (sb.2 b nb).trans g) m0 m1 m3 m4 m5
      obtain ⟨oo, g1, g2, g3⟩ := id st2
      exact ⟨_, rfl, go_of (s := { s with heap := h2 }) g1 g2 g3 (by decide) ⟨t.2.2, H, J, by rw [q6, q3]; exact q4, ⟨rfl, t, ht, rfl⟩, st2, fun b hb => (hf b hb).1⟩⟩
    done := by
      rintro X rfl rfl rfl hc n pins s σ H E I hf st ⟨hd, hn⟩
      obtain ⟨m0, m1, m2, m3, m4, m5⟩ := hf iter (List.mem_singleton_self _)
      exact wpAny_pyNext_values_end_raw (I.ok.hd hc) st (raw_of I hd z hod) (by omega) fun h2 eb => ⟨rfl, I.turned (t' := s.toks) (fun b oo nb g => eb b oo nb g) m0 m1 m3 m4 m5⟩
    self := fun A n s Q E st h => wpAny_pyIter_valiter st h }
end
section
variable {X : Cx} {B : Bx} {W : WX} {tg a b : Expr} {apos cpos pos p : Pos} {f f1 f2 : Sg → R D}
theorem pi_w {te : TE} (he : PE X a te) (hbase : attributeBase a "values" X.env (eval a X.env) = eval a X.env := by rfl) (hline : (apos.endLine == cpos.line) = true := by rfl) :
    PI X tg (.Call (.Attribute a "values" apos) [] [] cpos) (fun σ H R => te σ H fun x H1 => ∃ d ob ks, x = .ref d ∧ H1 d = some (dkO d ob) ∧ (d == sysModules) = false ∧ DkIs X.w ob ks ∧ R (Itw d ob ks) H1) := by
  refine ⟨fun pins s σ H R I h => wpAny_Call_method (T := "dict") (id := "dict.values") hbase rfl hline PySem.F.plainAttrs_dict PySem.F.slot_dict_values PySem.F.type_dict_values (thn (he.run pins s σ H _ I h) fun u s1 ⟨x, H1, I1, rx, d, ob, ks, ex, hd, hs, z, q⟩ => ?_)⟩
  subst ex
  cases (show u = Value.ref d from rx)
  obtain ⟨es, ep, z2, zs, _⟩ := ent_of z
  have raw := raw_of I1 hd z z2
  have J : Inv X pins σ H1 { s1 with heap := s1.heap.push { cls := .type "dict_values", data := .fields #[.ref d] } } := I1.kept (t' := s1.toks) fun _ _ g => Heap.get?_push_of_some _ g
  have fin : wpAny (model X.prog X.w) X.A (pyIter (.ref s1.heap.objs.size)) (PIE X pins σ tg R) X.xe { s1 with heap := s1.heap.push { cls := .type "dict_values", data := .fields #[.ref d] } } := by
    refine wpAny_pyIter_values_raw (d := d) (es := es) (ep := ep) ⟨_, Heap.get?_push_size _ rfl, rfl, rfl⟩ (raw_of J hd z z2) (pi_one (tk := s1.toks) J _ (turn_w z z2 _) ⟨_, Heap.get?_push_size _ rfl, rfl, ?_⟩ q)
    rw [zs]
    rfl
  refine ⟨raw.typeIs, fun a0 e0 => by cases e0; exact ⟨ob, obj_at I1 hd, by first | exact z.1.2.1 | exact z.1.2.2⟩, ?_⟩
  show wpAny _ _ (callWith cpos (.builtin "dict.values") [.ref d] [] []) _ X.xe s1
  exact method_meetsIn PySem.F.slot_dict_values PySem.F.entry_dict_values rfl (PySem.evalArgs_none ⟨rfl, raw.typeIs, PySem.F.args_dict_values_1 _, _, meets_dict_values_raw d hs, ⟨es, ep, raw⟩, fin⟩)
theorem it_w {K : PySem.W.Frag} {w : World} {Hd : Hp} {d : Addr} {ob : Obj} {ks : KsT} {kvs : List (D × D)} (hp : Hd d = some (dkO d ob)) (r : RpKvs K w Hd ks kvs) : ItOk K w Hd (Itw d ob ks) (kvs.map Prod.snd) where
  goes := fun n H hn s => ⟨s _ _ hp, by rw [kvs_len r]; simpa using hn⟩
  stops := fun H s => ⟨s _ _ hp, by rw [kvs_len r, List.length_map]; exact Nat.le_refl _⟩
  yld := fun n H x H' hn y Hd1 s1 s2 => by
    obtain ⟨rfl, t, ht, rfl⟩ := y
    have rr : RpAll K w Hd (ks.map fun x => x.2.2) (kvs.map Prod.snd) := by
      clear ht hn hp
      induction kvs generalizing ks with
      | nil => cases r; exact .nil
      | cons a kvs ih =>
        cases r with
        | cons e1 r1 r2 r3 => exact .cons r2 (ih r3)
    have e : (ks.map fun x => x.2.2)[n]? = some t.2.2 := by rw [List.getElem?_map, ht]; rfl
    obtain ⟨dd, h1, h2⟩ := (rr.mono s1).get' e
    exact ⟨dd, Hd1, h1, Step.refl s2, h2⟩
def valsR : D → R (List D) := fun x => (asDct x).map fun kvs => kvs.map Prod.snd
theorem di_values (ha : DE X B W a f) (hbase : attributeBase a "values" X.env (eval a X.env) = eval a X.env := by rfl) (hline : (apos.endLine == cpos.line) = true := by rfl) : DI X B W tg (.Call (.Attribute a "values" apos) [] [] cpos) (fUn valsR f) := PI.imp (pi_w ha hbase hline) fun σ H Q ⟨g, Hd, rep, h⟩ => seq rep h fun x v Hd1 H1 _ s1 r1 rep1 h1 => by
  have r1 : Rp X.K X.w Hd1 v x := r1
  unfold valsR asDct at h1
  split at h1
  · rename_i kvs _r0 _r1
    split at h1
    case isFalse => exact no_elim h1
    case isTrue hk =>
      simp only [R.map_ok] at h1
      generalize eq : PyData.dict kvs = dd at r1
      cases r1 with
      | dct q1 q2 q3 q4 =>
        cases eq
        exact ⟨_, _, _, rfl, rep1.same _ _ q1, q2, q3, h1.ok (Step.refl rep1.same) (it_w q1 q4)⟩
      | loose q1 q2 =>
        cases eq
        simp [keysT, isT] at hk
      | scr q1 =>
        cases eq
        simp [keysT, isT] at hk
      | _ => cases eq
  · exact no_elim h1
/-- len(d) -/
def rLenK (K : PySem.W.Frag) (w : World) : List V → Hp → VK → Prop := fun us H Q => ∃ Hd v kvs, us = [v] ∧ Same Hd H ∧ rDk K w Hd H v kvs ∧ Q (.int (kvs.length : Nat)) H
theorem cr_lenK : CallR X (.builtin "len") (rLenK X.K X.w) := by
  intro pins s σ H xs us Q I r h
  obtain ⟨Hd, v, kvs, rfl, sm, ⟨p, o, ks, rfl, hp, hsys, z, rk⟩, q⟩ := h
  rw [Vals.ref1 r]
  obtain ⟨xs, hm, rel⟩ := dct_of I sm hp z rk
  have e1 := rel_len rel
  have e2 := kvs_len rk
  have hz := z.2.1
  have hn := line63
  refine call_len_dictH (knd := nestedKind X.prog X.w) hsys hm (by omega) ?_
  rw [← e1, e2]
  exact ⟨.int (kvs.length : Nat), H, I.tok _, ⟨_, rfl⟩, q⟩
def lenK : D → R D := fun x => (asDct x).map fun kvs => .int (kvs.length : Nat)
theorem de_lenK (hg : Gl X "len") (hm : X.mg "len" = none) (ha : DT X B W a f) (he : starEach [a] X.env = (false, eval a X.env) :: starEach [] X.env := by rfl) (hpl : (backTo pos (starEach [] X.env)).any (·.1) = false := by rfl) :
    DE X B W (.Call (.Name "len" p) [a] [] pos) (fUn lenK f) := dr_callB1 (rl := rlD X.K X.w) cr_lenK (fun {Hd H σ x v Q} s r1 h => by
      unfold lenK asDct at h
      split at h
      · rename_i kvs
        split at h
        case isFalse => exact no_elim h
        case isTrue hk =>
          simp only [R.map_ok] at h
          exact ⟨Hd, v, kvs, rfl, s, r1.dk s hk, h.ok (Step.refl s) (.int _)⟩
      · exact no_elim h) hg hm PySem.boot_len ha (he := he) (hpl := hpl)
end
end G
end

section
set_option Elab.async false
set_option linter.all false
set_option maxRecDepth 100000
set_option maxHeartbeats 4000000
/-! G18: texts by methods; list(range(n)); sorted(set(a list of tuples)); keys in dicts; a dict == {}. -/
namespace G
open PySem PySem.Spec PyProof.Rows L2
section
variable {X : Cx} {B : Bx} {W : WX} {e a b c o tg : Expr} {es : List Expr} {pos p p2 apos cpos pos2 : Pos} {f f1 f2 f3 : Sg → R D}
/-! ### texts -/
def asStr : D → R Str
  | .str x => .ok x
  | _ => .no
def fM1 {α : Type} (F : Str → D → R α) (f1 f2 : Sg → R D) : Sg → R α := fun g => (f1 g).bind fun x => (asStr x).bind fun a => (f2 g).bind fun y => F a y
theorem imp_m1 {α : Type} {rl : Rl V α} {r : V → List V → Hp → VK → Prop} {F : Str → D → R α} (hF : ∀ {Hd H σ a y u} {Q : VK}, Same Hd H → RpT X.K X.w Hd H u y → OkG rl B W Hd H σ Q (F a y) → r (.str a) [u] H Q) {σ : L2.St} {H : Hp} {Q : VK} (h : tG X.K X.w rl B W (fM1 F f1 f2) σ H Q) :
    tM1 r (tG X.K X.w (rlT X.K X.w) B W f1) (tG X.K X.w (rlT X.K X.w) B W f2) σ H Q := by
  obtain ⟨g, Hd, rep, h⟩ := h
  refine seq rep h fun x v Hd1 H1 e1 s1 r1 rep1 h1 => ?_
  have r1 : RpT X.K X.w Hd1 H1 v x := r1
  unfold asStr at h1
  split at h1
  · obtain rfl := r1.str
    exact ⟨⟨_, rfl⟩, seq rep1 h1 fun y u Hd2 H2 _ s2 r2 rep2 h2 => hF rep2.same r2 h2⟩
  · exact no_elim h1
def strsOf : List D → Option (List Str)
  | [] => some []
  | .str x :: ds => (strsOf ds).map (x :: ·)
  | _ :: _ => none
theorem strsOf_eq : ∀ {ds : List D} {ys : List Str}, strsOf ds = some ys → ds = ys.map .str
  | [], _, h => by cases h; rfl
  | .str i :: ds, ns, h => by
    obtain ⟨ms, h1, rfl⟩ := Option.map_eq_some_iff.mp (show (strsOf ds).map (i :: ·) = some ns from h)
    rw [strsOf_eq h1]
    rfl
  | .none :: _, _, h => by cases h
  | .bool _ :: _, _, h => by cases h
  | .int _ :: _, _, h => by cases h
  | .list _ :: _, _, h => by cases h
  | .tuple _ :: _, _, h => by cases h
  | .dict _ :: _, _, h => by cases h
theorem RpAll.strs {K : PySem.W.Frag} {w : World} {H : Hp} : ∀ {vs : List V} {ys : List Str}, RpAll K w H vs (ys.map .str) → vs = ys.map V.str
  | _, [], h => by cases h; rfl
  | _, n :: ns, h => by
    cases h with
    | cons a t => cases a; rw [RpAll.strs t]; rfl
theorem RpAll.of_strs {K : PySem.W.Frag} {w : World} {H : Hp} : ∀ (ys : List Str), RpAll K w H (ys.map V.str) (ys.map .str)
  | [] => .nil
  | n :: ns => .cons (.str n) (RpAll.of_strs ns)
def joinS (a : Str) : D → R D
  | .list ds => (R.ofO (strsOf ds)).bind fun ys => if (ys.map (·.length)).sum + ys.length * a.length ≤ 16777216 then .ok (.str (Txt.join a ys)) else .no
  | _ => .no
theorem de_join (ho : DT X B W o f1) (he : DT X B W e f2) (hs : starEach [e] X.env = [(false, eval e X.env)] := by rfl) (hbase : attributeBase o "join" X.env (eval o X.env) = eval o X.env := by rfl) (hline : (apos.endLine == pos.line) = true := by rfl) :
    DE X B W (.Call (.Attribute o "join" apos) [e] [] pos) (fM1 joinS f1 f2) := PE.imp (pe_join ho he hs hbase hline) fun _ _ _ h => imp_m1 (rl := rlD X.K X.w) (fun {Hd H σ a y u Q} s r2 h => by
  unfold joinS at h
  split at h
  · rename_i ds
    cases e1 : strsOf ds with
    | none => rw [e1] at h; exact no_elim h
    | some ys =>
      rw [e1] at h
      have h : OkG (rlD X.K X.w) B W Hd H σ Q (if (ys.map (·.length)).sum + ys.length * a.length ≤ 16777216 then R.ok (.str (Txt.join a ys)) else .no) := h
      have := strsOf_eq e1
      subst this
      split at h
      case isFalse => exact no_elim h
      case isTrue hz =>
        obtain ⟨p, vs, ev, hp, ra⟩ := r2.list s
        have ei := ra.strs
        subst ei
        subst ev
        exact ⟨a, p, ys, rfl, rfl, .inl (.of hp), hz, h.ok (Step.refl s) (.str _)⟩
  · exact no_elim h) h
def splitS (a : Str) : D → R (List D)
  | .str b => if (b.length == 0) = false ∧ a.length ≤ big then .ok ((Txt.split a b).map .str) else .no
  | _ => .no
theorem do_split (ho : DT X B W o f1) (he : DT X B W e f2) (hs : starEach [e] X.env = [(false, eval e X.env)] := by rfl) (hbase : attributeBase o "split" X.env (eval o X.env) = eval o X.env := by rfl) (hline : (apos.endLine == pos.line) = true := by rfl) :
    DO X B W (.Call (.Attribute o "split" apos) [e] [] pos) (fM1 splitS f1 f2) := PE.imp (pe_split ho he hs hbase hline) fun _ _ _ h => imp_m1 (rl := rlO X.K X.w) (fun {Hd H σ a y u Q} s r2 h => by
  unfold splitS at h
  split at h
  · rename_i b
    split at h
    case isFalse => exact no_elim h
    case isTrue hz =>
      obtain rfl := r2.str
      refine ⟨a, b, rfl, rfl, hz.1, ?_, fun q hq => ?_⟩
      · have : big + 2 ≤ sizeLine := by unfold big; decide
        omega
      · exact h.ok (Step.own s hq) ⟨q, _, rfl, hq, s.free hq, upd_same, RpAll.of_strs _⟩
  · exact no_elim h) h
def findS (a : Str) : D → R D
  | .str b => .ok (.int (Txt.find a b))
  | _ => .no
theorem de_find (ho : DT X B W o f1) (he : DT X B W e f2) (hs : starEach [e] X.env = [(false, eval e X.env)] := by rfl) (hbase : attributeBase o "find" X.env (eval o X.env) = eval o X.env := by rfl) (hline : (apos.endLine == pos.line) = true := by rfl) :
    DE X B W (.Call (.Attribute o "find" apos) [e] [] pos) (fM1 findS f1 f2) := PE.imp (pe_m1 PySem.F.slot_str_find PySem.F.type_str_find mt_find ho he hs hbase hline) fun _ _ _ h => imp_m1 (rl := rlD X.K X.w) (fun {Hd H σ a y u Q} s r2 h => by
  unfold findS at h
  split at h
  · obtain rfl := r2.str
    exact ⟨a, _, rfl, rfl, h.ok (Step.refl s) (.int _)⟩
  · exact no_elim h) h
def indexS (a : Str) : D → R D
  | .str b => (match Builtin.Str.occurrences a b 0 a.length 1 with
    | i :: _ => .ok (.int (i : Nat))
    | [] => .no)
  | _ => .no
theorem de_index (ho : DT X B W o f1) (he : DT X B W e f2) (hs : starEach [e] X.env = [(false, eval e X.env)] := by rfl) (hbase : attributeBase o "index" X.env (eval o X.env) = eval o X.env := by rfl) (hline : (apos.endLine == pos.line) = true := by rfl) :
    DE X B W (.Call (.Attribute o "index" apos) [e] [] pos) (fM1 indexS f1 f2) := PE.imp (pe_m1 PySem.F.slot_str_index PySem.F.type_str_index mt_sindex ho he hs hbase hline) fun _ _ _ h => imp_m1 (rl := rlD X.K X.w) (fun {Hd H σ a y u Q} s r2 h => by
  unfold indexS at h
  split at h
  · split at h
    · rename_i i rest hi
      obtain rfl := r2.str
      exact ⟨a, _, i, rest, rfl, rfl, hi, h.ok (Step.refl s) (.int _)⟩
    · exact no_elim h
  · exact no_elim h) h
/-! ### list(range(n)) -/
theorem rp_rgV {K : PySem.W.Frag} {w : World} {H : Hp} (f : Nat → Int) : ∀ l : List Nat, RpAll K w H (l.map fun i => V.int (f i)) (l.map fun i => .int (f i))
  | [] => .nil
  | i :: l => .cons (.int _) (rp_rgV f l)
theorem do_listRange (hc : X.calm = true) (hg : Gl X "list") (hm : X.mg "list" = none) (hg2 : Gl X "range") (hm2 : X.mg "range" = none) (ha : DT X B W a f1) (na : starEach [a] X.env = (false, eval a X.env) :: starEach [] X.env := by rfl)
    (na2 : starEach [.Call (.Name "range" p2) [a] [] pos2] X.env = (false, eval (.Call (.Name "range" p2) [a] [] pos2) X.env) :: starEach [] X.env := by rfl) : DO X B W (.Call (.Name "list" p) [.Call (.Name "range" p2) [a] [] pos2] [] pos) (fUn rng1 f1) :=
  PE.imp (pe_listRg hc hg hm (prg_1 hg2 hm2 ha na) na2) fun σ H Q ⟨g, Hd, rep, h⟩ => seq rep h fun x v Hd1 H1 _ s1 r1 rep1 h1 => by
    have r1 : RpT X.K X.w Hd1 H1 v x := r1
    unfold rng1 at h1
    split at h1
    · split at h1
      case isFalse => exact no_elim h1
      case isTrue hz =>
        rename_i j
        obtain rfl := r1.int
        refine ⟨_, rfl, ⟨by omega, by omega, by omega, by omega, by omega⟩, fun q hq => ?_⟩
        exact h1.ok (Step.own rep1.same hq) ⟨q, _, rfl, hq, rep1.same.free hq, upd_same, rp_rgV (fun i => 0 + (i : Nat)) _⟩
    · exact no_elim h1
/-! ### sorted(set(a list of tuples)), the tuples rising -/
def intsT : D → Option (List Int)
  | .tuple ds => intsOf ds
  | _ => none
def tupsOf : List D → Option (List (List Int))
  | [] => some []
  | d :: ds => (intsT d).bind fun t => (tupsOf ds).map (t :: ·)
theorem tupsOf_eq : ∀ {ds : List D} {ts : List (List Int)}, tupsOf ds = some ts → ds = ts.map fun t => .tuple (t.map .int)
  | [], _, h => by cases h; rfl
  | d :: ds, ts, h => by
    unfold tupsOf at h
    obtain ⟨t, h1, h2⟩ := Option.bind_eq_some_iff.mp h
    obtain ⟨us, h3, rfl⟩ := Option.map_eq_some_iff.mp h2
    rw [tupsOf_eq h3]
    unfold intsT at h1
    split at h1
    · rw [intsOf_eq h1]; rfl
    · cases h1
def riseT : List (List Int) → Bool
  | a :: b :: r => decide (TS.code 64 a < TS.code 64 b) && riseT (b :: r)
  | _ => true
def upT : List (List Int) → Bool
  | [] => false
  | t :: r => decide (1 ≤ t.length) && (t :: r).all (fun u => u.length == t.length && u.all fun i => decide (0 ≤ i) && decide (i < 64)) && riseT (t :: r) && decide ((t :: r).length < 64)
theorem riseT_pw : ∀ {ts : List (List Int)}, riseT ts = true → ts.Pairwise fun a b => TS.code 64 a < TS.code 64 b
  | [], _ => .nil
  | [a], _ => by simp
  | a :: b :: r, h => by
    unfold riseT at h
    rw [Bool.and_eq_true, decide_eq_true_iff] at h
    have ih := riseT_pw h.2
    refine List.pairwise_cons.mpr ⟨fun x hx => ?_, ih⟩
    rcases List.mem_cons.mp hx with e | e
    · rw [e]; exact h.1
    · exact Int.lt_trans h.1 ((List.pairwise_cons.mp ih).1 x e)
theorem up_eqG {α : Type} (r : α → Int) : ∀ {l m : List α}, l.Pairwise (fun x y => r x < r y) → m.Pairwise (fun x y => r x < r y) → (∀ x, x ∈ l ↔ x ∈ m) → l = m
  | [], [], _, _, _ => rfl
  | [], b :: m, _, _, h => absurd ((h b).mpr (List.mem_cons_self ..)) (by simp)
  | a :: l, [], _, _, h => absurd ((h a).mp (List.mem_cons_self ..)) (by simp)
  | a :: l, b :: m, hl, hm, h => by
    obtain ⟨l1, l2⟩ := List.pairwise_cons.mp hl
    obtain ⟨m1, m2⟩ := List.pairwise_cons.mp hm
    have hab : a = b := by
      rcases List.mem_cons.mp ((h a).mp (List.mem_cons_self ..)) with e | e
      · exact e
      · rcases List.mem_cons.mp ((h b).mpr (List.mem_cons_self ..)) with e2 | e2
        · exact e2.symm
        · have := m1 a e
          have := l1 b e2
          omega
    subst hab
    rw [up_eqG r l2 m2 fun x => ?_]
    constructor
    · intro hx
      rcases List.mem_cons.mp ((h x).mp (List.mem_cons_of_mem _ hx)) with e | e
      · subst e; exact absurd (l1 x hx) (by omega)
      · exact e
    · intro hx
      rcases List.mem_cons.mp ((h x).mpr (List.mem_cons_of_mem _ hx)) with e | e
      · subst e; exact absurd (m1 x hx) (by omega)
      · exact e
def ssUp : D → R (List D)
  | .list ds => (R.ofO (tupsOf ds)).bind fun ts => if upT ts then .ok ds else .no
  | _ => .no
theorem pairs_of {K : PySem.W.Frag} {w : World} {H : Hp} : ∀ {vs : List V} {ts : List (List Int)}, RpAll K w H vs (ts.map fun t => .tuple (t.map .int)) → ∃ ks : List (Addr × List Int), vs = ks.map (fun p => V.ref p.1) ∧ ks.map Prod.snd = ts ∧ ∀ p ∈ ks, Rp K w H (.ref p.1) (.tuple (p.2.map .int))
  | _, [], h => by cases h; exact ⟨[], rfl, rfl, fun p hp => nomatch hp⟩
  | _, t :: ts, h => by
    cases h with
    | cons r rs =>
      obtain ⟨ks, h1, h2, h3⟩ := pairs_of rs
      generalize eq : PyData.tuple (t.map .int) = d at r
      cases r with
      | @tup a xs ds h4 h5 =>
        subst h1
        refine ⟨(a, t) :: ks, rfl, by rw [List.map_cons, h2], fun p hp => ?_⟩
        rcases List.mem_cons.mp hp with e | e
        · subst e; exact .tup h4 h5
        · exact h3 p e
      | _ => cases eq
theorem rp_sq {K : PySem.W.Frag} {w : World} {Hd H : Hp} {p : Addr × List Int} (s : Same Hd H) (r : Rp K w Hd (.ref p.1) (.tuple (p.2.map .int))) : SqT K H p.1 (p.2.map V.int) := by
  generalize eq : PyData.tuple (p.2.map .int) = d at r
  cases r with
  | tup h4 h5 =>
    cases eq
    have := h5.ints
    subst this
    exact (h4.same s).sq
  | _ => cases eq
theorem rpall_fst {K : PySem.W.Frag} {w : World} {H : Hp} : ∀ {ks : List (Addr × List Int)}, (∀ p ∈ ks, Rp K w H (.ref p.1) (.tuple (p.2.map .int))) → RpAll K w H (ks.map fun p => V.ref p.1) ((ks.map Prod.snd).map fun t => .tuple (t.map .int))
  | [], _ => .nil
  | p :: ks, h => .cons (h p (List.mem_cons_self ..)) (rpall_fst fun q hq => h q (List.mem_cons_of_mem _ hq))
theorem do_sortsetT (hc : X.calm = true) (hu : X.A.units + 64 < cLine) (hg : Gl X "sorted") (hm : X.mg "sorted" = none) (hg2 : Gl X "set") (hm2 : X.mg "set" = none) (ha : DT X B W a f1) (he : starEach [a] X.env = (false, eval a X.env) :: starEach [] X.env := by rfl) (hpl : (backTo p2 (starEach [] X.env)).any (·.1) = false := by rfl)
    {ps : Pos} (he2 : starEach [.Call (.Name "set" ps) [a] [] p2] X.env = (false, eval (.Call (.Name "set" ps) [a] [] p2) X.env) :: starEach [] X.env := by rfl) (hpl2 : (backTo pos (starEach [] X.env)).any (·.1) = false := by rfl) :
    DO X B W (.Call (.Name "sorted" p) [.Call (.Name "set" ps) [a] [] p2] [] pos) (fUn ssUp f1) :=
  PE.imp (pe_callB (cr_sortedT hc) hg hm boot_sorted (pa_cons (pe_callTy (cr_setOfT hc hu) hg2 hm2 boot_set (pa_cons ha pa_nil he) (he := he) (hpl := hpl)) pa_nil he2) (he := he2) (hpl := hpl2)) fun σ H Q ⟨g, Hd, rep, h⟩ => seq rep h fun x v Hd1 H1 _ s1 r1 rep1 h1 => by
    have r1 : RpT X.K X.w Hd1 H1 v x := r1
    unfold ssUp at h1
    split at h1
    · rename_i ds _ _
      cases e1 : tupsOf ds with
      | none => rw [e1] at h1; exact no_elim h1
      | some ts =>
        rw [e1] at h1
        have h1 : OkG (rlO X.K X.w) B W Hd1 H1 σ Q (if upT ts then .ok ds else .no) := h1
        have := tupsOf_eq e1
        subst this
        split at h1
        case isFalse => exact no_elim h1
        case isTrue hz =>
          obtain ⟨q, vs, ev, hp, ra⟩ := r1.list rep1.same
          subst ev
          obtain ⟨ks, e2, e3, hk⟩ := pairs_of ra
          subst e2
          cases hts : ts with
          | nil => rw [hts] at hz; cases hz
          | cons t rr =>
            rw [hts] at hz
            unfold upT at hz
            simp only [Bool.and_eq_true, decide_eq_true_iff] at hz
            rw [← hts] at hz
            obtain ⟨⟨⟨z1, z2⟩, z3⟩, z4⟩ := hz
            have zb : ∀ u ∈ ts, u.length = t.length ∧ TS.Bd 64 u := fun u hu => by
              have := List.all_eq_true.mp z2 u hu
              rw [Bool.and_eq_true, beq_iff_eq, List.all_eq_true] at this
              refine ⟨this.1, fun m hm => ?_⟩
              have := this.2 m hm
              rw [Bool.and_eq_true, decide_eq_true_iff, decide_eq_true_iff] at this
              exact this
            have pw := riseT_pw z3
            have hks : ∀ p ∈ ks, p.2 ∈ ts := fun p hp => by rw [← e3]; exact List.mem_map_of_mem hp
            refine ⟨q, ks, rfl, .of hp, fun p hp => rp_sq rep1.same (hk p hp), by rw [← List.length_map (f := Prod.snd), e3]; exact z4, fun sa L hsa hL1 hL2 => ?_⟩
            have t1 := Step.own (o := SetTO X.prog X.w sa L) rep1.same hsa
            refine ⟨sa, L, t.length, 64, rfl, upd_same, fun p hp => rp_sq t1.s (hk p (hL1 p hp)), z1, fun p hp => zb _ (hks p (hL1 p hp)), fun L' l pm nd len pw2 hl => ?_⟩
            have hLm : ∀ p ∈ L', p ∈ ks := fun p hp => hL1 p (pm.mem_iff.mp hp)
            have inj : ∀ u ∈ ts, ∀ v ∈ ts, TS.code 64 u = TS.code 64 v → u = v := by
              intro u hu v hv huv
              have hfa := List.pairwise_iff_getElem.mp pw
              obtain ⟨i, hi, rfl⟩ := List.mem_iff_getElem.mp hu
              obtain ⟨j, hj, rfl⟩ := List.mem_iff_getElem.mp hv
              rcases Nat.lt_trichotomy i j with h | h | h
              · have := hfa i j hi hj h; omega
              · subst h; rfl
              · have := hfa j i hj hi h; omega
            have em : L'.map Prod.snd = ts := by
              refine up_eqG (TS.code 64) ?_ pw fun x => ?_
              · have both := (List.pairwise_map.mp nd).and pw2
                rw [List.pairwise_map]
                refine both.imp_of_mem fun {a b} ha hb hab => ?_
                have hne : TS.code 64 a.2 ≠ TS.code 64 b.2 := fun z => hab.1 (inj _ (hks a (hLm a ha)) _ (hks b (hLm b hb)) z)
                have := hab.2
                omega
              · constructor
                · intro hx
                  obtain ⟨p, hp, rfl⟩ := List.mem_map.mp hx
                  exact hks p (hLm p hp)
                · intro hx
                  rw [← e3] at hx
                  obtain ⟨p, hp, rfl⟩ := List.mem_map.mp hx
                  obtain ⟨p', hp', e'⟩ := List.mem_map.mp (hL2 p hp)
                  exact List.mem_map.mpr ⟨p', pm.mem_iff.mpr hp', e'⟩
            have t2 := t1.trans (Step.own (o := .lst (L'.map fun q => V.ref q.1)) t1.s hl)
            have hl1 : H1 l = none := by
              have := hl
              by_cases z : l = sa
              · rw [z, upd_same] at this
                cases this
              · rw [upd_ne z] at this
                exact this
            refine h1.ok t2 ⟨l, _, rfl, hl1, rep1.same.free hl1, upd_same, ?_⟩
            rw [← em]
            exact rpall_fst fun p hp => hk p (hLm p hp)
    · exact no_elim h1
/-! ### k in d -/
def inK (neg : Bool) (y x : D) : R D := (asDct x).bind fun kvs => if keyB y then .ok (.bool (if neg then !(atD kvs y).isSome else (atD kvs y).isSome)) else .no
abbrev inKD : D → D → R D := inK false
abbrev ninKD : D → D → R D := inK true
def rInK (K : PySem.W.Frag) (w : World) (neg : Bool) : R2 := fun y x H Q => ∃ k ks, DkAt K w H x y k ks ∧ Q (.bl (if neg then !(atK ks k).isSome else (atK ks k).isSome)) H
theorem some_at {ks : KsT} {xs : List (NestedKey × Addr × Value)} (r : KsRel ks xs) (k : NestedKey) : (atK ks k).isSome = (atKey xs k).isSome := by
  rcases rel_atK r k with ⟨n1, n2⟩ | ⟨v', q', u', n1, n2, n3⟩
  · rw [n1, n2]; rfl
  · rw [n1, n2]; rfl
theorem op_inK (hu : X.A.units + 65 < cLine) : OpR X (compareOp .In) (rInK X.K X.w false) := by
  intro pins s σ H x y v u Q I rx ry h
  obtain ⟨k, ks, ⟨p, o, kvs, q, dk, Hd, rfl, rfl, hp, hsys, hz, r, sm, rk, ek⟩, fin⟩ := h
  obtain rfl : u = Value.ref p := ry
  obtain rfl : v = Value.ref q := rx
  obtain ⟨xs, hm, rel⟩ := dct_of I sm hp hz r
  refine in_keyed (knd := nestedKind X.prog X.w) (kvs := pairsH xs) (by show X.A.units + 1 + 8 < cLine; omega) (is_key I sm rk ek) hsys ⟨xs, hm, rfl⟩ ?_
  rw [valueAt_pairsH, Option.isSome_map, ← some_at rel]
  exact ⟨.bl _, H, I.tok _, rfl, fin⟩
theorem op_ninK (hu : X.A.units + 65 < cLine) : OpR X (compareOp .NotIn) (rInK X.K X.w true) := by
  intro pins s σ H x y v u Q I rx ry h
  obtain ⟨k, ks, ⟨p, o, kvs, q, dk, Hd, rfl, rfl, hp, hsys, hz, r, sm, rk, ek⟩, fin⟩ := h
  obtain rfl : u = Value.ref p := ry
  obtain rfl : v = Value.ref q := rx
  obtain ⟨xs, hm, rel⟩ := dct_of I sm hp hz r
  refine notIn_keyed (knd := nestedKind X.prog X.w) (kvs := pairsH xs) (by show X.A.units + 1 + 8 < cLine; omega) (is_key I sm rk ek) hsys ⟨xs, hm, rfl⟩ ?_
  rw [valueAt_pairsH, Option.isSome_map, ← some_at rel]
  exact ⟨.bl _, H, I.tok _, rfl, fin⟩
theorem hF_inK (neg : Bool) {Hd H : Hp} {σ : L2.St} {x y : D} {v u : V} {Q : VK} (s : Same Hd H) (r1 : RpT X.K X.w Hd H v x) (r2 : RpT X.K X.w Hd H u y)
    (h : OkG (rlD X.K X.w) B W Hd H σ Q (inK neg x y)) : rInK X.K X.w neg v u H Q := by
  unfold inK asDct at h
  split at h
  · rename_i kvs
    split at h
    case isFalse => exact no_elim h
    case isTrue hk =>
      simp only [R.bind_ok] at h
      split at h
      case isFalse => exact no_elim h
      case isTrue hb =>
        have hx : Rp X.K X.w Hd v x := by
          cases x with
          | tuple ds => exact r1.tupR
          | _ => simp [keyB, isT] at hb
        obtain ⟨k, ks, ek, D0, rr⟩ := keyB_at s (r2.dk s hk) hx hb
        refine ⟨k, ks, D0, ?_⟩
        rcases kvs_at rr ek with ⟨n1, n2⟩ | ⟨v', d', n1, n2, n3⟩
        · rw [n2] at h
          rw [n1]
          exact h.ok (Step.refl s) (.bl _)
        · rw [n2] at h
          rw [n1]
          exact h.ok (Step.refl s) (.bl _)
  · exact no_elim h
theorem de_inK (hu : X.A.units + 65 < cLine) (ha : DT X B W a f1) (hb : DT X B W b f2) (hm : behindInMarks .In b = false := by with_unfolding_all rfl) : DE X B W (.Compare a [.In] [b] pos) (fBin inKD f1 f2) := de_cmp (op_inK hu) (fun s r1 r2 h => hF_inK false s r1 r2 h) ha hb hm
theorem de_ninK (hu : X.A.units + 65 < cLine) (ha : DT X B W a f1) (hb : DT X B W b f2) (hm : behindInMarks .NotIn b = false := by with_unfolding_all rfl) : DE X B W (.Compare a [.NotIn] [b] pos) (fBin ninKD f1 f2) := de_cmp (op_ninK hu) (fun s r1 r2 h => hF_inK true s r1 r2 h) ha hb hm
theorem db_inK (hu : X.A.units + 65 < cLine) (ha : DT X B W a f1) (hb : DT X B W b f2) (hm : behindInMarks .In b = false := by with_unfolding_all rfl) : DB X B W (.Compare a [.In] [b] pos) (fB (fBin inKD f1 f2)) := db_cmp (op_inK hu) (fun s r1 r2 h => hF_inK false s r1 r2 h) ha hb hm
theorem db_ninK (hu : X.A.units + 65 < cLine) (ha : DT X B W a f1) (hb : DT X B W b f2) (hm : behindInMarks .NotIn b = false := by with_unfolding_all rfl) : DB X B W (.Compare a [.NotIn] [b] pos) (fB (fBin ninKD f1 f2)) := db_cmp (op_ninK hu) (fun s r1 r2 h => hF_inK true s r1 r2 h) ha hb hm
/-! ### sorted(a tuple) -/
def srtT : D → R (List D)
  | .tuple ds => if sameKind ds && sortB ds && decide (ds.length ≤ big) then .ok (srt ds) else .no
  | _ => .no
def rSortTu (K : PySem.W.Frag) : List V → Hp → VK → Prop := fun us H Q => ∃ (a : Addr) (vs : List V) (ds : List D), us = [V.ref a] ∧ SqT K H a vs ∧ DpAll K H vs ds ∧ (∀ d ∈ ds, ∃ i, d = .int i) ∧ sameKind ds = true ∧ sortB ds = true ∧
  ∀ (prs : List (V × D)) (q : Addr), prs = (vs.zip ds).mergeSort (PySem.W.dataLe false Prod.snd) → H q = none → Q (.ref q) (upd H q (.lst (prs.map Prod.fst)))
theorem each_ints {h : Heap} {a : Addr} : ∀ {us : List Value} {prs : List (V × D)} {as : List Addr}, ReadsAll h us (prs.map Prod.snd) as → (∀ q ∈ prs, ∃ i, q.2 = .int i) → PySem.W.EachIs (fun v (q : V × D) => ∃ as, Reads h v q.2 as ∧ a ∉ as) us prs
  | _, [], _, r, _ => by
    have r' : ReadsAll h _ [] _ := r
    cases r'
    exact .nil
  | _, q :: prs, _, r, hk => by
    have r' : ReadsAll h _ (q.2 :: prs.map Prod.snd) _ := r
    cases r' with
    | cons h1 h2 =>
      obtain ⟨k, e⟩ := hk q (List.mem_cons_self ..)
      refine .cons ⟨_, h1, ?_⟩ (each_ints h2 fun x hx => hk x (List.mem_cons_of_mem _ hx))
      rw [e] at h1
      cases h1
      exact fun z => nomatch z
theorem cr_sortTu (hc : X.calm = true) (hu : X.A.units + 66 < cLine) : CallR X (.builtin "sorted") (rSortTu X.K) := by
  intro pins s σ H xs us Q I r h
  obtain ⟨p, vs, ds, rfl, hs, hd, hi, hk, hb, q⟩ := h
  have dep := sameKind_depth hk
  rw [Vals.ref1 r]
  obtain ⟨its, rv, ⟨ob, ho, hoc, cap, hod⟩, hz⟩ := I.tuple hs
  refine Calls.call_function_entry PyProof.Rows.kind_sorted PyProof.Rows.plain_sorted PyProof.Rows.entry_sorted (PyProof.Rows.args_sorted1 _) ?_
  unfold Builtin.«sorted»
  refine wpAny_bind (m := checkCount "sorted" 1 1 _) (wpAny_pure ?_)
  refine wpAny_bind (wpAny_collect_seq (A := X.A.in1) p (.inr rfl) ho hoc hod (fun h' hkp => ?_) (by rw [List.size_toArray, ← rv.length]; exact hz))
  have I1 : Inv X pins σ H { s with heap := h' } := I.kept (t' := s.toks) hkp
  obtain ⟨as, ra⟩ := Dp.readsAll I1 _ _ _ hd rv
  have ln : vs.length = ds.length := by rw [rv.length]; exact SeqAt.ReadsAll.length _ _ _ ra
  have es2 : (vs.zip ds).map Prod.snd = ds := List.map_snd_zip (by omega)
  have hlz : (vs.zip ds).length = its.length := by rw [List.length_zip, ← rv.length]; omega
  have hals : its.length ≤ sizeLine := by rw [← rv.length]; exact hz
  refine wpAny_bind (wpAny_newList ?_ hals)
  have hoL : (h'.push (seqObj "list" its.toArray 0)).get? h'.objs.size = some (seqObj "list" its.toArray 0) := Heap.get?_push_size _ rfl
  have ra2 : ReadsAll (h'.push (seqObj "list" its.toArray 0)) its ((vs.zip ds).map Prod.snd) as := by
    rw [es2]
    exact PyProof.Rows.ReadsAll.keeps (fun b u e => Heap.get?_push_of_some _ e) ra
  show wpAny _ _ _ _ _ { s with heap := h'.push (seqObj "list" its.toArray 0) }
  refine wpAny_bind (wpAny_holding (PySem.W.list_sort_data (β := V × D) (s := { s with heap := h'.push (seqObj "list" its.toArray 0) }) (R := fun u q => RelV q.1 u) (enc := Prod.snd) (bs := vs.zip ds) hoL (each_zip (R := fun _ _ => True) ln rv)
    (each_ints ra2 fun q hq => hi _ (by rw [← es2]; exact List.mem_map_of_mem hq)) ?_ ?_ (by rw [hlz]; exact hals) (fun q hq => ?_) fun out ho eo => ?_))
  · rw [es2]
    exact fun d h1 d' h2 => sameKind_alike hk d h1 d' h2
  · rw [es2]
    exact sortB_ok hb
  · have hm : q.2 ∈ ds := by rw [← es2]; exact List.mem_map_of_mem hq
    have := depth_le_all hm
    show X.A.units + 1 + 1 + _ < cLine
    omega
  · have rv2 := each_fst eo
    obtain ⟨e', he'⟩ := PyProof.Rows.sortedHeap_at (vs := its) (out := out.toArray) hoL
    refine wpAny_pure ⟨_, rfl, .ref h'.objs.size, upd H h'.objs.size (.lst _), I1.laid (t' := s.toks) (fun b u e => ?_) (Nat.le_refl _)
      ⟨?_, out, e', rv2, he'⟩, rfl, q _ _ rfl (I1.hok.fresh (Nat.le_refl _))⟩
    · have hb : b < h'.objs.size := Heap.lt_size e
      show (sortedHeap (h'.push (seqObj "list" its.toArray 0)) h'.objs.size its out.toArray).get? b = some u
      rw [PyProof.Rows.sortedHeap_old (Nat.ne_of_lt hb) (by rw [size_push']; exact Nat.lt_succ_of_lt hb)]
      exact Heap.get?_push_of_some _ e
    · rw [rv2.length, ho, hlz]
      exact hals
def intB (ds : List D) : Bool := (intsOf ds).isSome
theorem intB_mem {ds : List D} (h : intB ds = true) : ∀ d ∈ ds, ∃ i, d = .int i := fun d hd => by
  obtain ⟨ns, e⟩ := Option.isSome_iff_exists.mp h
  rw [intsOf_eq e] at hd
  obtain ⟨i, _, rfl⟩ := List.mem_map.mp hd
  exact ⟨i, rfl⟩
def srtTI : D → R (List D)
  | .tuple ds => if intB ds && (sameKind ds && sortB ds) && decide (ds.length ≤ big) then .ok (srt ds) else .no
  | _ => .no
theorem do_sortedT (hc : X.calm = true) (hu : X.A.units + 66 < cLine) (hg : Gl X "sorted") (hm : X.mg "sorted" = none) (ha : DT X B W a f1) (he : starEach [a] X.env = (false, eval a X.env) :: starEach [] X.env := by rfl) (hpl : (backTo pos (starEach [] X.env)).any (·.1) = false := by rfl) :
    DO X B W (.Call (.Name "sorted" p) [a] [] pos) (fUn srtTI f1) := dr_callB1 (rl := rlO X.K X.w) (cr_sortTu hc hu) (fun {Hd H σ x v Q} s r1 h => by
      unfold srtTI at h
      split at h
      · rename_i ds
        split at h
        case isFalse => exact no_elim h
        case isTrue hz =>
          rw [Bool.and_eq_true, Bool.and_eq_true, Bool.and_eq_true] at hz
          obtain ⟨p, vs, ev, hp, ra⟩ := r1.tup s
          subst ev
          refine ⟨p, vs, ds, rfl, hp.sq, dpAll_of (ra.mono s) hz.1.2.1, intB_mem hz.1.1, hz.1.2.1, hz.1.2.2, fun prs q e hq => ?_⟩
          subst e
          exact h.ok (Step.own s hq) ⟨q, _, rfl, hq, s.free hq, upd_same, sort_zip ra⟩
      · exact no_elim h) hg hm boot_sorted ha (he := he) (hpl := hpl)
/-! ### a try whose suite is never come to -/
def oThru (u : Sg → Out) : Sg → Out := fun g => match u g with
  | .ex _ _ => .no
  | o => o
theorem ds_thru {body : List Stmt} {h0 : ExceptHandler} {hs : List ExceptHandler} {u : Sg → Out} (hb : DSs X.nox B WF body u) : DS X B W (.Try body (h0 :: hs) [] [] pos) (oThru u) := PS.imp (ps_try_thru0 hb) fun Dn σ H ⟨g, Hd, rep, h⟩ => ⟨g, Hd, rep, by
  unfold oThru at h
  cases e : u g with
  | ex x g' => rw [e] at h; exact h.elim
  | nx g' => rw [e] at h; exact h
  | no => rw [e] at h; exact h
  | rt d => rw [e] at h; exact h
  | rl ds => rw [e] at h; exact h
  | rd kvs => rw [e] at h; exact h
  | bk g' => rw [e] at h; exact h
  | ct g' => rw [e] at h; exact h⟩
end
end G
end

section
set_option Elab.async false
set_option linter.all false
set_option maxRecDepth 100000
set_option maxHeartbeats 4000000
/-! G19: defs by hand; lists of one's own under the keys of a dict. -/
namespace G
open PySem PySem.Spec PyProof.Rows L2
section
variable (K : PySem.W.Frag) (w : World) (cl : Nat → Addr)
/-- a reading whose base is chosen where it is read -/
def tGx {β α : Type} (rl : Rl β α) (W : WX) (f : Sg → R α) : L2.St → Hp → (β → Hp → Prop) → Prop := fun σ H Q => ∃ Hd0 H0, tG K w rl ⟨cl, Hd0, H0⟩ W f σ H Q
end
theorem PE.gx {X : Cx} {W : WX} {e : Expr} {cl : Nat → Addr} {rl : Rl V D} {f : Sg → R D} (h : ∀ Hd0 H0, PE X e (tG X.K X.w rl ⟨cl, Hd0, H0⟩ W f)) : PE X e (tGx X.K X.w cl rl W f) := ⟨fun pins s σ H Q I ⟨Hd0, H0, hw⟩ => (h Hd0 H0).run pins s σ H Q I hw⟩
theorem mk_hand {P : Program} {w : World} {K : PySem.W.Frag} {mg : Str → Option Value} {base : Heap} {x qual : Str} {st : Stmt} {f : Addr} {fd : FuncData} {N ps : List Str} {k : Nat} {cl : Nat → Addr} {φ : Fn} (F : Fun K x qual st f fd) (S : FnScope N ps (defScope st)) (t : XK → TS)
    (hu : ∀ (cdv : Value) (A : Around) (outer : List Env) (s : Shared) (H : Hp) (E : XK), Room k (A.deeper (envOfC qual (defScope st) s.heap.objs.size f cdv)) → PSs (cxOf (L2.CX P w) P w K mg base N qual (defScope st) f cdv A outer s H E) (defBody st) (t E))
    (hr : ∀ (vs : List V) (ds : List D) (Hd H : Hp) (Q : VK) (E : XK), Same Hd H → RpAll K w Hd vs ds → ds.length = ps.length → OkF K w cl Hd H Q E (φ ds) → t E { nx := fun _ H' => Q .non H', rt := Q } (L2.start N vs) H) :
    FnOk P w K mg base (L2.CX P w) (k + 1) f fd ps (spF K w cl ps.length φ) :=
  F.okX S (fun vs H Q E h => spF_len h) fun cdv A outer s H vs Q E hr' ⟨ds, Hd, sm, r, l, q⟩ => ⟨t E, hu cdv A outer s H E hr', hr vs ds Hd H Q E sm r l q⟩
theorem Step.wr {Hd H Hd1 H1 : Hp} (t : Step Hd H Hd1 H1) {p : Addr} {o : HO} (hp : H p = none) (n : Hd1 p = none) : Step Hd H Hd1 (upd H1 p o) :=
  ⟨t.d, fun b x e => by rw [upd_ne (ne_of_none e hp)]; exact t.h _ _ e, fun b x e => by rw [upd_ne (ne_of_none e n)]; exact t.s _ _ e, t.n⟩
/-! ### lists of one's own under keys -/
section
variable (K : PySem.W.Frag) (w : World)
inductive Pts (Hd H BH : Hp) : KsT → List (D × List D) → Prop
  | nil : Pts Hd H BH [] []
  | cons {k : NestedKey} {q a : Addr} {xs : List V} {dk : D} {ds : List D} {ks : KsT} {l : List (D × List D)} : kOf dk = some k → Rp K w Hd (.ref q) dk → H a = some (.lst xs) → Hd a = none → BH a = none → RpAll K w Hd xs ds → (∀ t ∈ ks, t.2.2 ≠ .ref a) → Pts Hd H BH ks l → Pts Hd H BH ((k, q, .ref a) :: ks) ((dk, ds) :: l)
end
def frzL (l : List (D × List D)) : List (D × D) := l.map fun x => (x.1, .list x.2)
section
variable {K : PySem.W.Frag} {w : World} {Hd H Hd' H' BH : Hp} {ks : KsT} {l : List (D × List D)}
theorem Pts.step (t : Step Hd H Hd' H') (h : Pts K w Hd H BH ks l) : Pts K w Hd' H' BH ks l := by
  induction h with
  | nil => exact .nil
  | cons h1 h2 h3 h4 h5 h6 h7 _ ih => exact .cons h1 (h2.mono t.d) (t.h _ _ h3) (t.n _ _ h3 h4) h5 (h6.mono t.d) h7 ih
theorem Pts.now (s : Same Hd H) (h : Pts K w Hd H BH ks l) : RpKvs K w H ks (frzL l) := by
  induction h with
  | nil => exact .nil
  | cons h1 h2 h3 h4 h5 h6 h7 _ ih => exact .cons h1 (h2.mono s) (.lst h3 (h6.mono s)) ih
theorem Pts.keep (h : Pts K w Hd H BH ks l) (hk : ∀ a xs, H a = some (.lst xs) → V.ref a ∈ ks.map (fun t => t.2.2) → H' a = some (.lst xs)) : Pts K w Hd H' BH ks l := by
  induction h with
  | nil => exact .nil
  | cons h1 h2 h3 h4 h5 h6 h7 _ ih => exact .cons h1 h2 (hk _ _ h3 (List.mem_cons_self ..)) h4 h5 h6 h7 (ih fun a xs e m => hk a xs e (List.mem_cons_of_mem _ m))
theorem Pts.there (h : Pts K w Hd H BH ks l) : ∀ t ∈ ks, ∃ a xs, t.2.2 = .ref a ∧ H a = some (.lst xs) := by
  induction h with
  | nil => intro t ht; cases ht
  | cons h1 h2 h3 h4 h5 h6 h7 _ ih =>
    intro t ht
    rcases List.mem_cons.mp ht with e | e
    · subst e; exact ⟨_, _, rfl, h3⟩
    · exact ih t e
theorem Pts.snoc {k : NestedKey} {q a : Addr} {xs : List V} {dk : D} {ds : List D} (h : Pts K w Hd H BH ks l) (h1 : kOf dk = some k) (h2 : Rp K w Hd (.ref q) dk) (h3 : H a = some (.lst xs)) (h4 : Hd a = none) (h5 : BH a = none) (h6 : RpAll K w Hd xs ds) (h7 : ∀ t ∈ ks, t.2.2 ≠ .ref a) :
    Pts K w Hd H BH (ks ++ [(k, q, .ref a)]) (l ++ [(dk, ds)]) := by
  induction h with
  | nil => exact .cons h1 h2 h3 h4 h5 h6 (fun t ht => nomatch ht) .nil
  | cons g1 g2 g3 g4 g5 g6 g7 _ ih =>
    refine .cons g1 g2 g3 g4 g5 g6 (fun t ht => ?_) (ih fun t ht => h7 t (List.mem_cons_of_mem _ ht))
    rcases List.mem_append.mp ht with e | e
    · exact g7 t e
    · rw [List.mem_singleton] at e
      subst e
      exact fun z => h7 _ (List.mem_cons_self ..) z.symm
def updL (dk c : D) : List (D × List D) → List (D × List D)
  | [] => []
  | x :: l => if kOf x.1 = kOf dk then (x.1, x.2 ++ [c]) :: l else x :: updL dk c l
theorem Pts.app {k : NestedKey} {dk : D} {v : V} (h : Pts K w Hd H BH ks l) (ek : kOf dk = some k) (hv : atK ks k = some v) : ∃ a xs, v = .ref a ∧ H a = some (.lst xs) ∧ Hd a = none ∧ BH a = none ∧ (∃ x ∈ l, xs.length = x.2.length) ∧ ∀ y c, Rp K w Hd y c → Pts K w Hd (upd H a (.lst (xs ++ [y]))) BH ks (updL dk c l) := by
  induction h with
  | nil => cases hv
  | @cons k0 q a xs dk0 ds ks l g1 g2 g3 g4 g5 g6 g7 g8 ih =>
    unfold atK at hv
    rw [List.find?_cons] at hv
    by_cases e : k0 = k
    · simp only [decide_eq_true e] at hv
      cases hv
      refine ⟨a, xs, rfl, g3, g4, g5, ⟨_, List.mem_cons_self .., g6.length⟩, fun y c ry => ?_⟩
      unfold updL
      rw [if_pos (show kOf dk0 = kOf dk by rw [g1, ek, e])]
      refine .cons g1 g2 upd_same g4 g5 (g6.append (.cons ry .nil)) g7 (g8.keep fun b ys e1 m => ?_)
      obtain ⟨t, ht, e2⟩ := List.mem_map.mp m
      rw [upd_ne (fun z => g7 t ht (by rw [e2, z]))]
      exact e1
    · simp only [decide_eq_false e] at hv
      obtain ⟨b, ys, e1, e2, e3, e4, ⟨z, hz, e5⟩, e6⟩ := ih hv
      subst e1
      refine ⟨b, ys, rfl, e2, e3, e4, ⟨z, List.mem_cons_of_mem _ hz, e5⟩, fun y c ry => ?_⟩
      unfold updL
      rw [if_neg (show ¬ kOf dk0 = kOf dk by rw [g1, ek]; exact fun z => e (Option.some.inj z))]
      have hab : a ≠ b := fun z => by
        obtain ⟨t, ht, e7⟩ := Option.map_eq_some_iff.mp hv
        exact g7 t (List.mem_of_find?_eq_some ht) (by rw [e7, z])
      exact .cons g1 g2 (by rw [upd_ne hab]; exact g3) g4 g5 g6 g7 (e6 y c ry)
theorem Pts.freeze {B0 : Hp} {p : Addr} {o : HO} (hp : H p = some o) (hl : ∀ xs, o ≠ .lst xs) : ∀ {ks : KsT} {l : List (D × List D)} {Hd : Hp}, Step B0 BH Hd H → Hd p = none → Pts K w Hd H BH ks l → ∃ Hd', Step B0 BH Hd' H ∧ Same Hd Hd' ∧ Hd' p = none ∧ RpKvs K w Hd' ks (frzL l)
  | _, _, Hd, t, n, .nil => ⟨Hd, t, .refl _, n, .nil⟩
  | _, _, Hd, t, n, @Pts.cons _ _ _ _ _ k q a xs dk ds ks l h1 h2 h3 h4 h5 h6 h7 h8 => by
    have hap : a ≠ p := fun z => by
      rw [z, hp] at h3
      exact hl _ (Option.some.inj h3)
    have m := same_upd (o := HO.lst xs) h4
    have h8' : Pts K w (upd Hd a (.lst xs)) H BH ks l := by
      clear h1 h2 h5 h6 t n
      induction h8 with
      | nil => exact .nil
      | cons g1 g2 g3 g4 g5 g6 g7 _ ih =>
        refine .cons g1 (g2.mono m) g3 ?_ g5 (g6.mono m) g7 (ih fun t ht => h7 t (List.mem_cons_of_mem _ ht))
        rw [upd_ne (fun z => h7 _ (List.mem_cons_self ..) (by rw [z]))]
        exact g4
    obtain ⟨Hd', t', s', n', r'⟩ := Pts.freeze hp hl (t.freeze h5 h4 h3) (by rw [upd_ne hap.symm]; exact n) h8'
    exact ⟨Hd', t', m.trans s', n', .cons h1 (h2.mono (m.trans s')) (.lst (s' _ _ upd_same) (h6.mono (m.trans s'))) r'⟩
end
def partsF (φ : Fn) (g : D) : List D → List (D × List D) → R Ret
  | [], l => .ok (.odc (frzL l))
  | c :: cs, l => match φ [c, g] with
    | .ok (.dat a) => if keyB a && (l.all fun x => decide (x.2.length < big)) && decide (l.length < big) then partsF φ g cs (updL a c (if l.any (fun x => decide (kOf x.1 = kOf a)) then l else l ++ [(a, [])])) else .no
    | _ => .no
/-- the law's parts: an answer, then the codes that give it -/
def partsD (φ : Fn) : Fn := fun ds => match ds with
  | [.list cs, g] => partsF φ g cs []
  | _ => .no
section
variable (K : PySem.W.Frag) (w : World) (cl : Nat → Addr)
def tNewD : TE := fun _ H Q => ∀ (p : Addr) (o : Obj), H p = none → (p == sysModules) = false → DkIs w o [] → Q (.ref p) (upd H p (dkO p o))
def partsT (φ : Fn) (E : XK) : TS :=
  tSeq (tAsg (tNewD w) (gName 2))
  (tSeq (tFor (iList K (tVar 0)) (gName 3)
    (tSeq (tAsg (tGx K w cl (rlD K w) (fun c d _ H' => E c d H') (fCall φ (fCons (fVar 3) (fCons (fVar 1) fNil)))) (gName 4))
    (tSeq (tIfS (tTest (tOp (rInK K w true) (tVar 4) (tVar 2))) (tAsg (tLst tNil) (gSub (tVar 2) (tVar 4) (rSetK K w))) tNext)
      (tDrop (tBM K "list" rAppend (tOp (rIxK K w) (tVar 2) (tVar 4)) (tCons (tVar 3) tNil))))))
  (tRet (tVar 2)))
end
theorem any_at {K : PySem.W.Frag} {w : World} {Hd H BH : Hp} {ks : KsT} {l : List (D × List D)} (h : Pts K w Hd H BH ks l) {dk : D} {k : NestedKey} (e : kOf dk = some k) : (atK ks k).isSome = l.any fun x => decide (kOf x.1 = kOf dk) := by
  induction h with
  | nil => rfl
  | @cons k0 q a xs dk0 ds ks l g1 g2 g3 g4 g5 g6 g7 g8 ih =>
    unfold atK at ih ⊢
    rw [List.find?_cons, List.any_cons]
    by_cases c : k0 = k
    · have c2 : kOf dk0 = kOf dk := by rw [g1, e, c]
      simp only [decide_eq_true c, decide_eq_true c2]
      rfl
    · have c2 : ¬ kOf dk0 = kOf dk := by rw [g1, e]; exact fun z => c (Option.some.inj z)
      simp only [decide_eq_false c, decide_eq_false c2, Bool.false_or]
      exact ih
theorem put_new {ks : KsT} {k : NestedKey} (h : atK ks k = none) (q : Addr) (v : V) : putK ks k q v = ks ++ [(k, q, v)] := by
  unfold putK
  rw [if_neg]
  intro z
  obtain ⟨t, h1, h2⟩ := List.any_eq_true.mp z
  unfold atK at h
  rw [Option.map_eq_none_iff, List.find?_eq_none] at h
  exact h t h1 h2
theorem put_at {ks : KsT} {k : NestedKey} (h : atK ks k = none) (q : Addr) (v : V) : atK (ks ++ [(k, q, v)]) k = some v := by
  unfold atK at h ⊢
  rw [Option.map_eq_none_iff] at h
  rw [List.find?_append, h]
  simp
theorem parts_read {K : PySem.W.Frag} {w : World} {cl : Nat → Addr} {φ : Fn} {N : List Str} (hN : N.length = 5) (vs : List V) (ds : List D) (Hd H : Hp) (Q : VK) (E : XK) (sm : Same Hd H) (r : RpAll K w Hd vs ds) (hl : ds.length = 2) (q : OkF K w cl Hd H Q E (partsD φ ds)) :
    partsT K w cl φ E { nx := fun _ H' => Q .non H', rt := Q } (L2.start N vs) H := by
  match ds, hl, r, q with
  | [d0, gD], _, .cons (v := v0) r0 (.cons (v := v1) r1 .nil), q =>
    have hst : L2.start N [v0, v1] = [some v0, some v1, none, none, none] := by
      unfold L2.start
      rw [hN]
      rfl
    rw [hst]
    cases d0 with
    | list cs =>
      cases r0 with
      | @lst p0 vs0 _ h0 rc =>
        have q : OkF K w cl Hd H Q E (partsF φ gD cs []) := q
        intro p ob np hsys z0
        have ok := it_list (K := K) (w := w) h0 rc
        have t0 : Step Hd H Hd (upd H p (dkO p ob)) := Step.own sm np
        refine ⟨_, rfl, p0, rfl, ⟨vs0, .of (t0.s _ _ h0)⟩, fun i m σ H1 => m + i = cs.length ∧ ∃ x3 x4 Hd1 ob1 ks l, σ = [some (.ref p0), some v1, some (.ref p), x3, x4] ∧ Step Hd H Hd1 H1 ∧ Hd1 p = none ∧ H1 p = some (dkO p ob1) ∧ DkIs w ob1 ks ∧ Pts K w Hd1 H1 H ks l ∧ OkF K w cl Hd H Q E (partsF φ gD (cs.drop i) l),
          ⟨cs.length, rfl, none, none, Hd, ob, [], [], rfl, t0, sm.free np, upd_same, z0, .nil, q⟩, ?_⟩
        rintro i m σ H1 ⟨hm, x3, x4, Hd1, ob1, ks, l, rfl, t1, n1, hp1, z1, P1, q1⟩
        by_cases hi : i < cs.length
        · refine .inr ⟨ok.goes i H1 hi (t1.d.trans t1.s), fun σ' H' => ∃ m', m' < m ∧ (m' + (i + 1) = cs.length ∧ ∃ x3 x4 Hd1 ob1 ks l, σ' = [some (.ref p0), some v1, some (.ref p), x3, x4] ∧ Step Hd H Hd1 H' ∧ Hd1 p = none ∧ H' p = some (dkO p ob1) ∧ DkIs w ob1 ks ∧ Pts K w Hd1 H' H ks l ∧ OkF K w cl Hd H Q E (partsF φ gD (cs.drop (i + 1)) l)), fun _ _ h => h, fun x H2 hy => ?_⟩
          obtain ⟨c, Hd2, hc, t2, rx⟩ := ok.yld i H1 x H2 hi hy Hd1 t1.d t1.s
          have hdrop : cs.drop i = c :: cs.drop (i + 1) := by
            rw [List.drop_eq_getElem_cons hi]
            congr 1
            exact (List.getElem?_eq_some_iff.mp hc).2
          rw [hdrop] at q1
          unfold partsF at q1
          split at q1
          case h_2 => exact q1.elim
          rename_i a ea
          split at q1
          case isFalse => exact q1.elim
          rename_i hg
          rw [Bool.and_eq_true, Bool.and_eq_true, decide_eq_true_iff, List.all_eq_true] at hg
          obtain ⟨⟨hk, hlen⟩, hll⟩ := hg
          have hka := hk
          unfold keyB at hk
          rw [Bool.and_eq_true] at hk
          obtain ⟨k, ek⟩ := Option.isSome_iff_exists.mp hk.2
          have t12 := t1.trans t2
          have P2 := P1.step t2
          -- _law_one = _law_answer(..)
          refine ⟨Hd2, H2, [.un, .dat gD, .un, .dat c, .un], Hd2, ⟨Step.refl t2.s, rfl, fun _ => 0, fun i j si sj _ ei _ oi _ => ?_, fun j sj ej => ?_⟩, ?_⟩
          · match i, ei with
            | 0, e => cases e; cases oi
            | 1, e => cases e; cases oi
            | 2, e => cases e; cases oi
            | 3, e => cases e; cases oi
            | 4, e => cases e; cases oi
            | _ + 5, e => simp at e
          · match j, ej with
            | 0, e => cases e; trivial
            | 1, e => cases e; exact ⟨v1, rfl, r1.mono t12.d⟩
            | 2, e => cases e; trivial
            | 3, e => cases e; exact ⟨x, rfl, rx⟩
            | 4, e => cases e; trivial
            | _ + 5, e => simp at e
          · have ef : fCall φ (fCons (fVar 3) (fCons (fVar 1) fNil)) [.un, .dat gD, .un, .dat c, .un] = .ok a := by
              show (φ [c, gD]).map Ret.d = _
              rw [ea]
              rfl
            rw [ef]
            intro v Hd3 H3 t3 rv
            have rv : Rp K w Hd3 v a := rv
            obtain ⟨qa, rfl⟩ := key_ref rv ek (by cases a <;> simp_all [isT])
            have t13 := t12.trans t3
            have P3 := P2.step t3
            have hp3 : H3 p = some (dkO p ob1) := t3.h _ _ (t2.h _ _ hp1)
            have n3 : Hd3 p = none := t3.n _ _ (t2.h _ _ hp1) (t2.n _ _ hp1 n1)
            -- the append, and what follows
            have fin : ∀ H4 ob4 ks4 l4, Step Hd H Hd3 H4 → H4 p = some (dkO p ob4) → DkIs w ob4 ks4 → Pts K w Hd3 H4 H ks4 l4 → (∃ v, atK ks4 k = some v) → (∀ y ∈ l4, y.2.length < big) → OkF K w cl Hd H Q E (partsF φ gD (cs.drop (i + 1)) (updL a c l4)) →
                tDrop (tBM K "list" rAppend (tOp (rIxK K w) (tVar 2) (tVar 4)) (tCons (tVar 3) tNil)) { nx := fun σ' H' => ∃ m', m' < m ∧ (m' + (i + 1) = cs.length ∧ ∃ x3 x4 Hd1 ob1 ks l, σ' = [some (.ref p0), some v1, some (.ref p), x3, x4] ∧ Step Hd H Hd1 H' ∧ Hd1 p = none ∧ H' p = some (dkO p ob1) ∧ DkIs w ob1 ks ∧ Pts K w Hd1 H' H ks l ∧ OkF K w cl Hd H Q E (partsF φ gD (cs.drop (i + 1)) l)), ct := fun σ' H' => ∃ m', m' < m ∧ (m' + (i + 1) = cs.length ∧ ∃ x3 x4 Hd1 ob1 ks l, σ' = [some (.ref p0), some v1, some (.ref p), x3, x4] ∧ Step Hd H Hd1 H' ∧ Hd1 p = none ∧ H' p = some (dkO p ob1) ∧ DkIs w ob1 ks ∧ Pts K w Hd1 H' H ks l ∧ OkF K w cl Hd H Q E (partsF φ gD (cs.drop (i + 1)) l)), bk := fun σ' H' => tRet (tVar 2) { nx := fun _ H' => Q .non H', rt := Q } σ' H', rt := Q } [some (.ref p0), some v1, some (.ref p), some x, some (.ref qa)] H4 := by
              intro H4 ob4 ks4 l4 t4 hp4 z4 P4 ⟨v4, hv4⟩ hb4 q4
              obtain ⟨b, xs, rfl, hb, hbd, hb0, ⟨y4, hy4, hlen4⟩, app⟩ := P4.app ek hv4
              refine ⟨_, rfl, _, rfl, k, ks4, .ref b, ⟨p, ob4, frzL l4, qa, a, H4, rfl, rfl, hp4, hsys, z4, P4.now t4.s, .refl _, rv.mono t4.s, ek⟩, hv4, .inl ⟨rfl, xs, .of hb⟩, _, rfl, b, xs, x, rfl, rfl, hb, big_lt (by rw [hlen4]; exact hb4 y4 hy4), ?_⟩
              have hbp : b ≠ p := fun e => by
                rw [e, hp4] at hb
                cases hb
              refine ⟨m - 1, by omega, by omega, _, _, Hd3, ob4, ks4, _, rfl, t4.wr hb0 hbd, n3, by rw [upd_ne hbp.symm]; exact hp4, z4, app x c (rx.mono t3.d), q4⟩
            refine ⟨_, rfl, _, rfl, k, ks, ⟨p, ob1, frzL l, qa, a, H3, rfl, rfl, hp3, hsys, z1, P3.now t13.s, .refl _, rv.mono t13.s, ek⟩, _, rfl, ?_⟩
            cases hat : atK ks k with
            | some v4 =>
              have hany := any_at P3 ek
              rw [hat] at hany
              have hyes : (l.any fun x => decide (kOf x.1 = kOf a)) = true := hany.symm
              rw [if_pos hyes] at q1
              rw [if_neg (show ¬ ((if true = true then !(some v4).isSome else (some v4).isSome) = true) by simp)]
              exact fin H3 ob1 ks l t13 hp3 z1 P3 ⟨v4, hat⟩ (fun y hy => of_decide_eq_true (hlen y hy)) q1
            | none =>
              have hany := any_at P3 ek
              rw [hat] at hany
              have hno : (l.any fun x => decide (kOf x.1 = kOf a)) = false := hany.symm
              rw [if_neg (by rw [hno]; exact Bool.false_ne_true)] at q1
              rw [if_pos (show (if true = true then !(none : Option V).isSome else (none : Option V).isSome) = true by simp)]
              refine ⟨Nat.zero_le _, fun a0 na0 => ⟨_, rfl, _, rfl, ?_⟩⟩
              have hp4 : upd H3 a0 (.lst []) p = some (dkO p ob1) := by rw [upd_ne (ne_of_none hp3 na0)]; exact hp3
              have t4 := t13.trans (Step.own (o := .lst []) t13.s na0)
              have P4 := P3.step (Step.own (o := .lst []) t13.s na0)
              have hkl := P3.now t13.s |>.length
              refine ⟨p, qa, ob1, ks, frzL l, a, k, upd H3 a0 (.lst []), rfl, rfl, hp4, z1, P4.now t4.s, .refl _, rv.mono t4.s, ek, ?_, fun ob' z' => ?_⟩
              · rw [hkl]
                unfold frzL
                rw [List.length_map]
                exact big_le hll
              · rw [put_new hat] at z'
                have hb0 : H a0 = none := t13.h.free na0
                have hbd : Hd3 a0 = none := t13.s.free na0
                have hap : a0 ≠ p := fun e => by rw [e, hp3] at na0; cases na0
                have hP5 : Pts K w Hd3 (upd (upd H3 a0 (.lst [])) p (dkO p ob')) H (ks ++ [(k, qa, .ref a0)]) (l ++ [(a, [])]) := by
                  refine Pts.snoc (P4.keep fun b ys e1 _ => ?_) ek rv (xs := []) (by rw [upd_ne hap]; exact upd_same) hbd hb0 .nil fun t ht e => ?_
                  · rw [upd_ne (fun z => by rw [z, hp4] at e1; cases e1)]
                    exact e1
                  · obtain ⟨b, ys, e1, e2⟩ := P3.there t ht
                    rw [e] at e1
                    cases e1
                    rw [na0] at e2
                    cases e2
                refine fin _ ob' _ _ (t4.wr np n3) upd_same z' hP5 ⟨_, put_at hat qa _⟩ (fun y hy => ?_) q1
                rcases List.mem_append.mp hy with e | e
                · exact of_decide_eq_true (hlen y e)
                · rw [List.mem_singleton] at e
                  subst e
                  exact (by decide : 0 < big)
        · have hi' : i = cs.length := by omega
          refine .inl ⟨?_, ?_⟩
          · rw [hi']
            exact ok.stops H1 (t1.d.trans t1.s)
          · refine ⟨_, rfl, ?_⟩
            rw [hi', List.drop_length] at q1
            obtain ⟨Hd', t', s', n', r'⟩ := Pts.freeze hp1 (fun xs e => nomatch e) t1 n1 P1
            exact q1 p ob1 ks Hd' H1 t' np n' hp1 hsys z1 r'
    | none => exact q.elim
    | bool _ => exact q.elim
    | int _ => exact q.elim
    | str _ => exact q.elim
    | tuple _ => exact q.elim
    | dict _ => exact q.elim
end G
end

section
set_option Elab.async false
set_option linter.all false
set_option maxRecDepth 100000
set_option maxHeartbeats 4000000
/-! G20: a dict == {}. -/
namespace PySem.W
open Lean Elab Tactic Meta PySem PySem.Calls PyProof.Rows PyProof.V PySem.Spec
section
variable {prog : Program} {w : World} {A : Around} {s : Shared}
theorem same_empty {nm : String} {a b : Addr} {ea eb : Array DictEntry} {na nb : Nat} {Q : Bool → Shared → Prop} {E : Value → Shared → Prop} (sa : (a == sysModules) = false) (sb : (b == sysModules) = false) (ra : s.heap.DictRaw a ea na) (rb : s.heap.DictRaw b eb nb) (e0 : eb.size = 0) (h : Q (ea.size == 0) s) :
    wpAny (model prog w) A (Builtin.Dict.samePairs nm a b) Q E s := by
  obtain ⟨oa, ga, _, da⟩ := ra
  obtain ⟨ob, gb, _, db⟩ := rb
  unfold Builtin.Dict.samePairs Builtin.Dict.showsAll
  rw [if_neg (fun z => by rw [sa] at z; exact Bool.false_ne_true z), if_neg (fun z => by rw [sb] at z; exact Bool.false_ne_true z)]
  refine wpAny_bind (wpAny_pure (wpAny_bind (wpAny_pure (wpAny_bind (wpAny_dictEntries ga da ?_)))))
  dsimp only
  refine wpAny_bind (wpAny_dictEntries gb db ?_)
  by_cases hs : ea.size = 0
  · have h' : Q true s := by simpa [hs] using h
    rw [if_neg (by rw [hs, e0]; simp)]
    refine wpAny_bind (wpAny_dictEpoch ga da (wpAny_bind ?_))
    rw [hs, Std.Legacy.Range.forIn_eq_forIn_range']
    exact wpAny_pure (wpAny_pure h')
  · have h' : Q false s := by
      have e1 : (ea.size == 0) = false := by simpa using hs
      rw [e1] at h
      exact h
    rw [if_pos (by rw [e0]; simpa using hs)]
    exact wpAny_bind (wpAny_rule (wpAny_pure h'))
theorem rc_empty {a b : Addr} {ea eb : Array DictEntry} {na nb : Nat} (sa : (a == sysModules) = false) (sb : (b == sysModules) = false) (ra : s.heap.DictRaw a ea na) (rb : s.heap.DictRaw b eb nb) (e0 : eb.size = 0) (hu : A.units < cLine) (E Q : Value → Shared → Prop) (h : Q (.bool (ea.size == 0)) s) :
    wpAny (model prog w) A (richCompare .Eq (.ref a) (.ref b)) Q E s := by
  have ta := ra.typeIs
  have tb := rb.typeIs
  refine wpAny_richCompare_same_room (op := .Eq) ta tb PySem.F.slot_dict_eq (wpAny_call_entry PySem.F.slot_dict_eq ta PySem.F.entry_dict_eq ?_ (PySem.F.args_dict_eq_2 _ _)) hu
  show wpAny _ _ (Builtin.Dict.dictSlotArgs "__eq__" { pos := [.ref a, .ref b], kw := [] } >>= _) _ _ s
  refine wpAny_bind ?_
  unfold Builtin.Dict.dictSlotArgs
  refine wpAny_bind (wpAny_notOrdered_dict ta ?_)
  show wpAny _ _ (pure ((Value.ref a), (Value.ref b))) _ _ s
  refine wpAny_pure (wpAny_bind (wpAny_isInstance (T := "dict") tb PySem.F.sub_dict_dict ?_))
  simp only [Bool.not_true, Bool.false_eq_true, if_false]
  refine wpAny_bind (wpAny_pure (wpAny_bind (wpAny_pure (wpAny_bind (same_empty sa sb ra rb e0 (wpAny_pure ⟨_, rfl, ?_, ?_⟩))))))
  · intro z
    cases z
  · simpa using h
end
end PySem.W
namespace G
open PySem PySem.Spec PyProof.Rows L2
section
variable {X : Cx} {B : Bx} {W : WX} {e a b c : Expr} {pos p p2 : Pos} {f f1 f2 : Sg → R D}
def rEqE (K : PySem.W.Frag) (w : World) : R2 := fun x y H Q => ∃ p o ks q o', x = .ref p ∧ y = .ref q ∧ H p = some (dkO p o) ∧ (p == sysModules) = false ∧ DkIs w o ks ∧ H q = some (dkO q o') ∧ (q == sysModules) = false ∧ DkIs w o' [] ∧ Q (.bl (ks.length == 0)) H
theorem op_eqE (hu : X.A.units + 64 < cLine) : OpR X (compareOp .Eq) (rEqE X.K X.w) := by
  intro pins s σ H x y v u Q I rx ry h
  obtain ⟨p, o, ks, q, o', rfl, rfl, hp, sp, z, hq, sq, z', fin⟩ := h
  obtain rfl : v = Value.ref p := rx
  obtain rfl : u = Value.ref q := ry
  obtain ⟨es, ep, e1, e2, _⟩ := ent_of z
  obtain ⟨es', ep', e1', e2', _⟩ := ent_of z'
  have r1 := raw_of I hp z e1
  have r2 := raw_of I hq z' e1'
  show wpAny _ _ (richCompare .Eq (.ref p) (.ref q)) _ _ _
  refine PySem.W.rc_empty sp sq r1 r2 e2' (by omega) _ _ ?_
  rw [e2]
  exact ⟨.bl _, H, I, rfl, fin⟩
def isE (x : D) : R D := (asDct x).map fun kvs => .bool (kvs.length == 0)
theorem imp_eqE {σ : L2.St} {H : Hp} {Q : VK} (h : tG X.K X.w (rlD X.K X.w) B W (fUn isE f1) σ H Q) : tOp (rEqE X.K X.w) (tG X.K X.w (rlT X.K X.w) B W f1) (tNewD X.w) σ H Q := by
  obtain ⟨g, Hd, rep, h⟩ := h
  refine seq rep h fun x v Hd1 H1 _ s1 r1 rep1 h1 => fun q o nq hs z => ?_
  have r1 : RpT X.K X.w Hd1 H1 v x := r1
  unfold isE asDct at h1
  split at h1
  · rename_i kvs
    split at h1
    case isFalse => exact no_elim h1
    case isTrue hk =>
      simp only [R.map_ok] at h1
      obtain ⟨p, ob, ks, ev, hp, hsys, hz, rr⟩ := r1.dk rep1.same hk
      subst ev
      refine ⟨p, ob, ks, q, o, rfl, rfl, by rw [upd_ne (ne_of_none hp nq)]; exact hp, hsys, hz, upd_same, hs, z, ?_⟩
      rw [kvs_len rr]
      exact h1.ok (Step.own rep1.same nq) (.bl _)
  · exact no_elim h1
theorem de_eqE (hu : X.A.units + 64 < cLine) (ha : DT X B W a f1) : DE X B W (.Compare a [.Eq] [.Dict [] [] p] pos) (fUn isE f1) := PE.imp (pe_cmpR (op_eqE hu) ha (show PE X (.Dict [] [] p) (tNewD X.w) from pe_dnewO) (nomark _)) fun _ _ _ h => imp_eqE h
theorem db_eqE (hu : X.A.units + 64 < cLine) (ha : DT X B W a f1) : DB X B W (.Compare a [.Eq] [.Dict [] [] p] pos) (fB (fUn isE f1)) := PT.imp (pt_cmpR (op_eqE hu) ha (show PE X (.Dict [] [] p) (tNewD X.w) from pe_dnewO) (nomark _)) fun _ _ _ h => imp_eqE (imp_test h)
end
end G
end

section
set_option Elab.async false
set_option linter.all false
set_option maxRecDepth 100000
set_option maxHeartbeats 4000000
/-! G21: an own exception class with an __init__ of its own that sets at; its raise; its suites. -/
namespace G
open PySem PySem.Spec PyProof.Rows L2
/-- an own class whose __init__ is ValueError's, read off the class -/
structure MkF (K : PySem.W.Frag) (mg : Str → Option Value) (x : Str) (c : Addr) : Prop where
  g : mg x = some (.ref c)
  s : PySem.W.specialIn K (.ref c) "__getattribute__" = some (some (.builtin "type.__getattribute__"))
  r : PySem.W.readsIn K c (.type "type") = true
  i : PySem.W.findCls K (.ref c) (.type "type") "__init__" = some (.val (.builtin "ValueError.__init__"))
theorem pe_mkf {X : Cx} {x : Str} {c : Addr} {e : Expr} {es : List Expr} {ta : TA} {q1 q2 q3 : Pos} {pl : Sem Bool} (T : MkF X.K X.mg x c) (hg : Gl X x) (ha : PA X (e :: es) ta) (hdb : (x == ("__debug__" : Str)) = false := by decide)
    (ev : eval (.Call (.Attribute (.Name x q1) "__init__" q2) (e :: es) [] q3) X.env = (do
      let cv ← eval (.Name x q1) X.env
      standAt q2.atName
      let (fv, fst) ← holding [cv] (getMethod cv "__init__" pl)
      callWith q3 fv fst (backTo q3 (starEach (e :: es) X.env)) (backToKw q3 (keywordEach [] X.env))) := by rfl)
    (he : starEach (e :: es) X.env = (false, eval e X.env) :: starEach es X.env := by rfl) (hp : (backTo q3 (starEach es X.env)).any (·.1) = false := by rfl) :
    PE X (.Call (.Attribute (.Name x q1) "__init__" q2) (e :: es) [] q3) (tVeI X.K ta) := by
  refine ⟨fun pins s σ H Q I h => PySem.W.methodCall_KW (ld_glob I hg T.g ?_ hdb) ev⟩
  refine PySem.W.method_cls I.kIn T.s (PySem.W.cls_value I.kIn T.r T.i (by decide +kernel) ?_)
  refine PyProof.Rows.callWith_method1 (thn (ha.run q3 pins _ σ H _ (I.tok _) h) fun us s1 hh => ?_) he hp
  obtain ⟨vs, H1, J, r1, a, D, ws, ev1, hl, T1, e1, q⟩ := hh
  subst ev1
  cases r1 with
  | @cons _ u0 _ ur ra rw' =>
    have hu : u0 = Value.ref a := ra
    subst hu
    have hlen : ur.length ≤ sizeLine := by
      have := Paired.length rw'
      rw [sizeLine_eq]
      omega
    exact oinit_ok T1 J e1 hlen fun s' J' => ⟨.non, H1, J', rfl, q⟩
/-- the __init__ that sets at -/
def spI (C : Addr) : Sp := fun vs H Q _ => ∃ (e : Addr) (m i : V), vs = [.ref e, m, i] ∧ H e = some (exo e C none) ∧
  ∀ dx, H dx = none → dx ≠ e → Q .non (upd (upd H dx (exd dx [("at", i)])) e (exo e C (some dx)))
theorem ini_fn {P : Program} {w : World} {K : PySem.W.Frag} {mg : Str → Option Value} {base : Heap} {qual : Str} {st : Stmt} {f C : Addr} {fd : FuncData} (F : Fun K "__init__" qual st f fd) (S : FnScope ["self", "text", "at"] ["self", "text", "at"] (defScope st)) (T : OexC K C) (hno : PySem.W.findIn K (.ref C) "at" = some none)
    (u : ∀ (cdv : Value) (A : Around) (outer : List Env) (s : Shared) (H : Hp) (E : XK), Room 0 (A.deeper (envOfC qual (defScope st) s.heap.objs.size f cdv)) → PSs (cxOf (L2.CX P w) P w K mg base ["self", "text", "at"] qual (defScope st) f cdv A outer s H E) (defBody st) (tSeq (tDrop (tVeI K (tCons (tVar 0) (tCons (tVar 1) tNil)))) (tOst K "at" (tVar 0) (tVar 2)))) :
    FnOk P w K mg base (L2.CX P w) 1 f fd ["self", "text", "at"] (spI C) := by
  refine F.okX S (fun vs H Q E h => ?_) (fun cdv A outer s H vs Q E hr h => ⟨_, u cdv A outer s H E hr, ?_⟩)
  · obtain ⟨e, m, i, rfl, _⟩ := h
    rfl
  · obtain ⟨e, m, i, rfl, he, q⟩ := h
    exact ⟨_, rfl, _, rfl, e, C, [m], rfl, (show 1 ≤ 1000 by decide), T, he, _, rfl, _, rfl, e, C, rfl, T, hno, .inl ⟨he, q⟩⟩
/-- all that is told of the class -/
structure BadF (P : Program) (w : World) (K : PySem.W.Frag) (mg : Str → Option Value) (base : Heap) (cl : Nat → Addr) (k : Nat) (x : Str) : Prop where
  gC : mg x = some (.ref (cl k))
  T : OexC K (cl k)
  ex : ∃ fI fd, PySem.W.findIn K (.ref (cl k)) "__init__" = some (some (.ref fI)) ∧ PySem.W.typeIn K (.ref fI) = some (.type "function") ∧ Binds K fd ["self", "text", "at"] [] ∧ FnOk P w K mg base (L2.CX P w) 1 fI fd ["self", "text", "at"] (spI (cl k))
section
variable {X : Cx} {B : Bx} {W : WX} {e a b c : Expr} {es rest : List Expr} {st : Stmt} {sts body suite : List Stmt} {pos pos' p p2 np : Pos} {x n m : Str} {u : Sg → Out} {p0 : Sg → R D}
def oRsA (k : Nat) (p0 : Sg → R D) : Sg → Out := fun g => match p0 g with
  | .ok (.int i) => .ex ⟨k, some i⟩ g
  | .ex e => .ex e g
  | _ => .no
theorem heap_raised {H1 : Hp} {a dx C : Addr} {fs : List (Str × V)} (na : H1 a = none) (ne : dx ≠ a) : upd (del (upd (upd (upd H1 a (exo a C none)) dx (exd dx fs)) a (exo a C (some dx))) a) dx (.xd fs) = upd H1 dx (.xd fs) := by
  funext q
  by_cases h1 : q = dx
  · subst h1
    rw [upd_same, upd_same]
  · rw [upd_ne h1, upd_ne h1]
    by_cases h2 : q = a
    · subst h2
      rw [del_same, na]
    · rw [del_ne h2, upd_ne h2, upd_ne h1, upd_ne h2]
theorem ds_raiseA {k j lv : Nat} (T : BadF X.prog X.w X.K X.mg X.base B.cl k x) (hr : Room lv X.A) (hlv : 2 ≤ lv) (hc : X.calm = true) (tk : Takes X W) (hg : Gl X x) (ha : DE X B W e p0) (hdb : (x == ("__debug__" : Str)) = false := by decide)
    (he : starEach [.Constant (.str m) j p2, e] X.env = (false, eval (.Constant (.str m) j p2) X.env) :: starEach [e] X.env := by rfl) (he2 : starEach [e] X.env = (false, eval e X.env) :: starEach [] X.env := by rfl) (hpl : (backTo pos' (starEach [e] X.env)).any (·.1) = false := by rfl) :
    DS X B W (.Raise (some (.Call (.Name x p) [.Constant (.str m) j p2, e] [] pos')) none pos) (oRsA k p0) := by
  obtain ⟨fI, fd, iC, tI, hb, hF⟩ := T.ex
  have hx : Passes (L2.CX X.prog X.w) X (fun _ _ _ => False) := fun pins σ H s ee s' I cc => passAt (W := fun _ _ _ _ => False) takes0 σ pins H s ee s' I cc
  refine PS.imp (ps_raise hc tk (pmk_oex T.T iC tI hF (hr.mono hlv) hb .nil hx hg T.gC (pa_cons pe_str (pa_cons ha pa_nil he2) he) hdb he hpl)) ?_
  rintro Dn σ H ⟨g, Hd, rep, h⟩
  refine ⟨g, Hd, rep, ?_⟩
  unfold oRsA at h
  cases ep : p0 g with
  | no => rw [ep] at h; exact h
  | ex ee =>
    rw [ep] at h
    exact fun cls dd Hd' H' t xx => h cls dd σ Hd' H' t.d (rep.step t) xx
  | ok d =>
    rw [ep] at h
    cases d with
    | int i =>
      intro v Hd1 H1 t r
      cases r
      refine ⟨(by decide : 2 ≤ 1000), fun a na => ⟨a, .str m, .int i, rfl, upd_same, fun dx n ne => ?_⟩⟩
      rw [upd_ne ne] at n
      refine ⟨rfl, dx, _, upd_same, (by rw [upd_ne ne, upd_same]), n, ?_⟩
      rw [heap_raised na ne]
      exact h _ _ σ Hd1 _ t.d (rep.step (t.trans (Step.own t.s n))) ⟨rfl, fun z => (nomatch z), fun i' e' => ⟨dx, rfl, by cases e'; exact upd_same⟩⟩
    | _ => exact h.elim
/-! ### the suite of such a one -/
def rIsA (K : PySem.W.Frag) (D a : Addr) (d : Option Addr) : List V → Hp → VK → Prop := fun xs H Q => ∃ (c : V) (cv : Value) (b : Bool), xs = [.ref a, c] ∧ (∀ u, RelV c u → u = cv) ∧ PySem.W.kitOne K (.ref D) cv = some b ∧ (d = none ∨ ∃ dd fs, d = some dd ∧ H dd = some (.xd fs)) ∧ Q (.bl b) H
theorem call_isA {a D : Addr} {d : Option Addr} {oe : Obj} {pn : List (Addr × Obj)} (C : ExcC X.K D) (hz : Zc (.ref D) d oe) (hf : ∃ vs, oe.data = .fields vs) : CallR (X.suite a ((a, oe) :: pn)) (.builtin "isinstance") (rIsA X.K D a d) := by
  intro pins s σ H xs us Q I r h
  obtain ⟨c, cv, b, rfl, hcv, e, hd, q⟩ := h
  cases r with
  | cons rx rr =>
    cases rr with
    | cons rt rr =>
      cases rr
      cases rx
      have ec := hcv _ rt
      subst ec
      have hcl : (PySem.W.clsIn X.K D).isSome = true := by
        obtain ⟨cd, hc, _⟩ := PySem.W.any_some C.hd
        rw [hc]
        rfl
      obtain ⟨hget, _⟩ := I.pin (a, oe) (List.mem_append.mpr (.inl List.mem_cons_self))
      obtain ⟨vs, hv⟩ := hf
      have J : ∃ od, PySem.W.InstAt s.heap a oe D od := by
        rcases hd with hd | ⟨dd, fs, hd, hx⟩
        · subst hd
          exact ⟨none, hget, hz.1, by unfold PySem.W.notCls; rw [hv] <;> rfl, by rw [hz.2]; trivial⟩
        · subst hd
          have ho : ObjOk X.prog X.w H s.heap dd (.xd fs) := I.hok dd _ hx
          obtain ⟨mA, hns, _⟩ := ho
          obtain ⟨od, hod, _⟩ := lookIn_ns hns
          exact ⟨some od, hget, hz.1, by unfold PySem.W.notCls; rw [hv] <;> rfl, by rw [hz.2]; exact hod⟩
      obtain ⟨od, J⟩ := J
      exact PySem.W.kia_one (PySem.W.kitx_exc hcl C.hg C.hk C.hs C.ha C.hn C.ht C.hm) I.kIn J e (fun z => nomatch z) fun tk => ⟨.bl b, H, I.kept (t' := tk) fun _ _ z => z, rfl, q⟩
/-- the caught one's slot, its dict where it has one -/
def Ct (i : Nat) (a : Addr) (d : Option Addr) (σ : L2.St) (H : Hp) : Prop := σ[i]? = some (some (.ref a)) ∧ (d = none ∨ ∃ dd fs, d = some dd ∧ H dd = some (.xd fs))
def tFlC (i : Nat) (a : Addr) (d : Option Addr) (b : Bool) (tt : TA) : TA := fun σ H Q => Ct i a d σ H ∧ tt σ H fun vs H' => Q (.bl b :: vs) H'
theorem flC {i : Nat} {a D : Addr} {d : Option Addr} {oe : Obj} {pn : List (Addr × Obj)} {tt : TA} {bb : Bool} {v : V} {cv : Value} {cE eE : Expr} (C : ExcC X.K D) (hz : Zc (.ref D) d oe) (hf : ∃ vs, oe.data = .fields vs) (hk : PySem.W.kitOne X.K (.ref D) cv = some bb)
    (hcv : ∀ u, RelV v u → u = cv) (hi : PE (X.suite a ((a, oe) :: pn)) eE (tVar i)) (hcl : PE (X.suite a ((a, oe) :: pn)) cE (tC v)) (hg : Gl (X.suite a ((a, oe) :: pn)) "isinstance") (hm : X.mg "isinstance" = none) (hr : PA (X.suite a ((a, oe) :: pn)) es tt)
    (he : starEach [eE, cE] X.env = (false, eval eE X.env) :: starEach [cE] X.env := by rfl) (he2 : starEach [cE] X.env = (false, eval cE X.env) :: starEach [] X.env := by rfl) (hpl : (backTo pos (starEach [cE] X.env)).any (·.1) = false := by rfl)
    (hs : starEach (.Call (.Name "isinstance" p) [eE, cE] [] pos :: es) X.env = (false, eval (.Call (.Name "isinstance" p) [eE, cE] [] pos) X.env) :: starEach es X.env := by rfl) :
    PA (X.suite a ((a, oe) :: pn)) (.Call (.Name "isinstance" p) [eE, cE] [] pos :: es) (tFlC i a d bb tt) :=
  PA.imp (pa_cons (pe_callB (call_isA C hz hf) hg hm G.boot_isi (pa_cons hi (pa_cons hcl pa_nil he2) he) (he := he) (hpl := hpl)) hr hs) fun σ H Q h => by
    obtain ⟨⟨h1, h3⟩, h2⟩ := h
    exact ⟨.ref a, h1, v, cv, bb, rfl, hcv, hk, h3, h2⟩
def tFlA (i : Nat) (a : Addr) (d : Option Addr) : TA := fun σ H Q => σ[i]? = some (some (.ref a)) ∧ ∃ (dd : Addr) (v : V), d = some dd ∧ H dd = some (.xd [("at", v)]) ∧ Q [v] H
theorem flA {i : Nat} {a D : Addr} {d : Option Addr} {oe : Obj} {pn : List (Addr × Obj)} {eE : Expr} (C : ExcC X.K D) (hno : PySem.W.findIn X.K (.ref D) "at" = some none) (hz : Zc (.ref D) d oe) (hf : ∃ vs, oe.data = .fields vs) (hi : PE (X.suite a ((a, oe) :: pn)) eE (tVar i))
    (hb : attributeBase eE "at" X.env (eval eE X.env) = eval eE X.env := by rfl) (hs : starEach [.Attribute eE "at" pos] X.env = (false, eval (.Attribute eE "at" pos) X.env) :: starEach [] X.env := by rfl) :
    PA (X.suite a ((a, oe) :: pn)) [.Attribute eE "at" pos] (tFlA i a d) :=
  PA.imp (pa_cons (pe_xf ⟨C.hg, C.hk, C.hs, C.hd⟩ hno hz hf hi hb) pa_nil hs) fun σ H Q ⟨h1, dd, v, e1, e2, q⟩ => ⟨.ref a, h1, rfl, rfl, dd, _, v, e1, e2, by simp [List.lookup], q⟩
/-- isinstance twice, then at -/
structure FlOkA (X : Cx) (B : Bx) (c : Value) (i : Nat) (es : List Expr) (k : Nat) (b1 b2 : Bool) : Prop where
  ex : PySem.W.exmOne X.K (.ref (B.cl k)) c = some true
  pa : ∀ (a : Addr) (oe : Obj) (d : Option Addr) (pn : List (Addr × Obj)), Zc (.ref (B.cl k)) d oe → (∃ vs, oe.data = .fields vs) → PA (X.suite a ((a, oe) :: pn)) es (tFlC i a d b1 (tFlC i a d b2 (tFlA i a d)))
def oTryA (k : Nat) (b1 b2 : Bool) (u : Sg → Out) : Sg → Out := fun g => match u g with
  | .ex e g' => (match e.at_, e.cls == k with
    | some i, true => .rl [.bool b1, .bool b2, .int i]
    | _, _ => .no)
  | o => o
theorem ds_tryA {i k : Nat} {b1 b2 : Bool} {es : List Expr} {pr pl pt : Pos} {c : Value} (hs : X.stack = X.env :: X.outer) (hf : X.env.frame = some X.env.locals) (hN : X.N.Nodup) (hi : X.N[i]? = some n) (hln : X.env.kindOf n = some .local) (hc : Names X x c) (tk : Takes X W)
    (hb : ∀ (W' : WX) (pn : List (Addr × Obj)) (xe : Value → Shared → Prop), Takes (X.tr pn xe) W' → PassesOwn (model X.prog X.w) X.A X.env xe → DSs (X.tr pn xe) B W' body u) (hl : FlOkA X B c i es k b1 b2) :
    DS X B W (.Try body [.ExceptHandler (some (.Name x np)) (some n) [.Return (some (.List es pl)) pr] pos'] [] [] pt) (oTryA k b1 b2 u) := by
  refine PS.imp (ps_try_as (tb := fun W2 => tS X.K X.w B W2 u) (ts := fun a cls d Dn σ H => ∃ (v : V) (dd : Addr) (σ0 : L2.St), σ = σ0.set i (some (.ref a)) ∧ cls = .ref (B.cl k) ∧ d = some dd ∧ H dd = some (.xd [("at", v)]) ∧ ∀ p, H p = none → Dn.rt (.ref p) (upd H p (.lst [.bl b1, .bl b2, v]))) hs hf hN hi hln hc tk hb ?_) ?_
  · intro a oe cls d pn hz hv
    refine ⟨fun pins s σ H Dn I h => ?_⟩
    obtain ⟨v, dd, σ0, rfl, rfl, rfl, e, q⟩ := h
    refine (pss_one (ps_ret (pe_lst (hl.pa a oe (some dd) pn hz hv)))).run pins s _ H Dn I ?_
    have hlen : i < (σ0.set i (some (V.ref a))).length := by
      rw [I.len]
      exact (List.getElem?_eq_some_iff.mp hi).1
    have hg : (σ0.set i (some (V.ref a)))[i]? = some (some (.ref a)) := by rw [List.getElem?_set_self (by simpa using hlen)]
    exact ⟨⟨hg, .inr ⟨dd, _, rfl, e⟩⟩, ⟨hg, .inr ⟨dd, _, rfl, e⟩⟩, hg, dd, v, rfl, e, (by show 3 ≤ sizeLine; decide), q⟩
  · intro Dn σ H ⟨g, Hd, rep, h⟩
    refine ⟨g, Hd, rep, ?_⟩
    unfold oTryA at h
    cases e : u g with
    | no => rw [e] at h; exact h
    | nx g1 => rw [e] at h; exact h
    | rt d => rw [e] at h; exact h
    | rl d => rw [e] at h; exact h
    | rd d => rw [e] at h; exact h
    | bk g1 => rw [e] at h; exact h
    | ct g1 => rw [e] at h; exact h
    | ex x g1 =>
      rw [e] at h
      obtain ⟨k1, at_⟩ := x
      cases at_ with
      | none => exact h.elim
      | some j =>
        dsimp only at h
        cases e2 : k1 == k with
        | false => rw [e2] at h; exact h.elim
        | true =>
          rw [e2] at h
          rw [beq_iff_eq] at e2
          subst e2
          intro cls dd σ' Hd' H' s rep' ex
          obtain ⟨ex1, _, ex2⟩ := ex
          obtain ⟨d1, rfl, ex3⟩ := ex2 j rfl
          subst ex1
          refine ⟨true, hl.ex, fun _ a na => ⟨.int j, d1, σ', rfl, rfl, rfl, ex3, fun p hp => ?_⟩, fun z => nomatch z⟩
          have st : Step Hd' H' Hd' (upd H' p (.lst [.bl b1, .bl b2, .int j])) := Step.own rep'.same hp
          exact h p _ Hd' _ s (rep'.base.trans st) (rep'.base.h.free hp) (rep'.same.free hp) upd_same (.cons (.bl _) (.cons (.bl _) (.cons (.int _) .nil)))
end
end G
end

section
set_option Elab.async false
set_option linter.all false
set_option maxRecDepth 100000
set_option maxHeartbeats 4000000
/-! G22: a suite that puts what was caught into a list, in two steps, and goes on. -/
namespace G
open PySem PySem.Spec PyProof.Rows L2
section
variable {X : Cx} {B : Bx} {W : WX} {e a b c : Expr} {es rest : List Expr} {st : Stmt} {sts body suite : List Stmt} {pos pos' p p2 np : Pos} {x n m y : Str} {u : Sg → Out}
def tFls (i : Nat) (a : Addr) (d : Option Addr) : List Bool → TA
  | [] => tNil
  | b :: bs => tFlC i a d b (tFls i a d bs)
theorem fls_run {i : Nat} {a : Addr} {d : Option Addr} {σ : L2.St} {H : Hp} : ∀ {bs : List Bool} {Q : List V → Hp → Prop}, Ct i a d σ H → Q (bs.map V.bl) H → tFls i a d bs σ H Q
  | [], Q, _, q => q
  | b :: bs, Q, c, q => ⟨c, fls_run c q⟩
abbrev tSui (i j : Nat) (a : Addr) (d : Option Addr) (b1 b2 : List Bool) : TS := tSeq (tAsg (tLst (tFls i a d b1)) (gName j)) (tAsg (tOp rCat (tVar j) (tLst (tFls i a d b2))) (gName j))
def oTry2 (i j : Nat) (l : List (Nat × List Bool × List Bool)) (u : Sg → Out) : Sg → Out := fun g => match u g with
  | .ex e g' => (match l.lookup e.cls with
    | some (b1, b2) => .nx ((((g'.set i .un).set j .un).set j (.dat (.list ((b1 ++ b2).map .bool)))).set i .un)
    | none => .no)
  | o => o
structure FlOk2 (X : Cx) (B : Bx) (c : Value) (i j : Nat) (ss : List Stmt) (k : Nat) (b1 b2 : List Bool) : Prop where
  ex : PySem.W.exmOne X.K (.ref (B.cl k)) c = some true
  len : b1.length + b2.length ≤ 30
  pa : ∀ (a : Addr) (oe : Obj) (d : Option Addr) (pn : List (Addr × Obj)), Zc (.ref (B.cl k)) d oe → (∃ vs, oe.data = .fields vs) → PSs (X.suite a ((a, oe) :: pn)) ss (tSui i j a d b1 b2)
theorem hl2_nil {P : Nat → List Bool → List Bool → Prop} : ∀ k b1 b2, ([] : List (Nat × List Bool × List Bool)).lookup k = some (b1, b2) → P k b1 b2 := fun _ _ _ h => nomatch h
theorem hl2_cons {P : Nat → List Bool → List Bool → Prop} {k0 : Nat} {b1 b2 : List Bool} {l : List (Nat × List Bool × List Bool)} (h : P k0 b1 b2) (hr : ∀ k b1 b2, l.lookup k = some (b1, b2) → P k b1 b2) : ∀ k c1 c2, ((k0, b1, b2) :: l).lookup k = some (c1, c2) → P k c1 c2 := fun k c1 c2 e => by
  rw [List.lookup_cons] at e
  split at e
  · rename_i z
    cases e
    rw [beq_iff_eq] at z
    subst z
    exact h
  · exact hr k c1 c2 e
theorem ds_try2 {i j : Nat} {ss : List Stmt} {s0 : Stmt} {l : List (Nat × List Bool × List Bool)} {pt : Pos} {c : Value} (hij : i ≠ j) (hs : X.stack = X.env :: X.outer) (hf : X.env.frame = some X.env.locals) (hN : X.N.Nodup) (hi : X.N[i]? = some n) (hj : X.N[j]? = some y) (hln : X.env.kindOf n = some .local) (hc : Names X x c) (tk : Takes X W)
    (hb : ∀ (W' : WX) (pn : List (Addr × Obj)) (xe : Value → Shared → Prop), Takes (X.tr pn xe) W' → PassesOwn (model X.prog X.w) X.A X.env xe → DSs (X.tr pn xe) B W' body u)
    (hl : ∀ k b1 b2, l.lookup k = some (b1, b2) → FlOk2 X B c i j (s0 :: ss) k b1 b2) :
    DS X B W (.Try body [.ExceptHandler (some (.Name x np)) (some n) (s0 :: ss) pos'] [] [] pt) (oTry2 i j l u) := by
  refine PS.imp (ps_try_as (tb := fun W2 => tS X.K X.w B W2 u) (ts := fun a cls d Dn σ H => ∃ (k : Nat) (b1 b2 : List Bool) (σ0 : L2.St), σ = σ0.set i (some (.ref a)) ∧ cls = .ref (B.cl k) ∧ l.lookup k = some (b1, b2) ∧ (d = none ∨ ∃ dd fs, d = some dd ∧ H dd = some (.xd fs)) ∧
      ∀ p1 p2 p3, H p1 = none → upd H p1 (.lst (b1.map V.bl)) p2 = none → upd (upd H p1 (.lst (b1.map V.bl))) p2 (.lst (b2.map V.bl)) p3 = none →
        Dn.nx (((σ0.set i (some (.ref a))).set j (some (.ref p1))).set j (some (.ref p3))) (upd (upd (upd H p1 (.lst (b1.map V.bl))) p2 (.lst (b2.map V.bl))) p3 (.lst (b1.map V.bl ++ b2.map V.bl)))) hs hf hN hi hln hc tk hb ?_) ?_
  · intro a oe cls d pn hz hv
    refine ⟨fun pins s σ H Dn I h => ?_⟩
    obtain ⟨k, b1, b2, σ0, rfl, rfl, e, hd, q⟩ := h
    have F := hl k b1 b2 e
    have len1 : b1.length ≤ sizeLine := Nat.le_trans (Nat.le_trans (Nat.le_add_right _ _) F.len) (by show 30 ≤ sizeLine; decide)
    have len2 : b2.length ≤ sizeLine := Nat.le_trans (Nat.le_trans (Nat.le_add_left _ _) F.len) (by show 30 ≤ sizeLine; decide)
    refine (F.pa a oe d pn hz hv).run pins s _ H Dn I ?_
    have hli : i < (σ0.set i (some (V.ref a))).length := by
      rw [I.len]
      exact (List.getElem?_eq_some_iff.mp hi).1
    have hlj : j < (σ0.set i (some (V.ref a))).length := by
      rw [I.len]
      exact (List.getElem?_eq_some_iff.mp hj).1
    have hg : (σ0.set i (some (V.ref a)))[i]? = some (some (.ref a)) := by rw [List.getElem?_set_self (by simpa using hli)]
    refine fls_run ⟨hg, hd⟩ ⟨by rw [List.length_map]; exact len1, fun p1 n1 => ?_⟩
    have hg2 : ((σ0.set i (some (V.ref a))).set j (some (.ref p1)))[i]? = some (some (.ref a)) := by rw [List.getElem?_set_ne (fun z => hij z.symm)]; exact hg
    have hgj : ((σ0.set i (some (V.ref a))).set j (some (.ref p1)))[j]? = some (some (.ref p1)) := List.getElem?_set_self hlj
    refine ⟨_, hgj, fls_run ⟨hg2, ?_⟩ ⟨by rw [List.length_map]; exact len2, fun p2 n2 => ?_⟩⟩
    · rcases hd with hd | ⟨dd, fs, hd, hx⟩
      · exact .inl hd
      · exact .inr ⟨dd, fs, hd, by rw [upd_ne (ne_of_none hx n1)]; exact hx⟩
    · have n12 : p1 ≠ p2 := fun z => by
        subst z
        rw [upd_same] at n2
        cases n2
      exact ⟨p1, p2, _, _, rfl, rfl, by rw [upd_ne n12, upd_same], upd_same, by rw [List.length_map, List.length_map]; exact Nat.le_trans F.len (by show 30 ≤ sizeLine; decide), fun p3 n3 => q p1 p2 p3 n1 n2 n3⟩
  · intro Dn σ H ⟨g, Hd, rep, h⟩
    refine ⟨g, Hd, rep, ?_⟩
    unfold oTry2 at h
    cases e : u g with
    | no => rw [e] at h; exact h
    | nx g1 => rw [e] at h; exact h
    | rt d => rw [e] at h; exact h
    | rl d => rw [e] at h; exact h
    | rd d => rw [e] at h; exact h
    | bk g1 => rw [e] at h; exact h
    | ct g1 => rw [e] at h; exact h
    | ex x g1 =>
      rw [e] at h
      dsimp only at h
      cases e2 : l.lookup x.cls with
      | none => rw [e2] at h; exact h.elim
      | some bb =>
        obtain ⟨b1, b2⟩ := bb
        rw [e2] at h
        intro cls dd σ' Hd' H' s rep' ex
        obtain ⟨ex1, ex2, ex3⟩ := ex
        have F := hl x.cls b1 b2 e2
        subst ex1
        refine ⟨true, F.ex, fun _ a na => ⟨x.cls, b1, b2, σ', rfl, rfl, e2, ?_, fun p1 p2 p3 n1 n2 n3 => ?_⟩, fun z => nomatch z⟩
        · cases e3 : x.at_ with
          | none => exact .inl (ex2 e3)
          | some i0 =>
            obtain ⟨d, hd, hx⟩ := ex3 i0 e3
            exact .inr ⟨d, _, hd, hx⟩
        · have r1 := (rep'.un i (some (.ref a))).un j (some (.ref p1))
          have s1 : Step Hd' H' Hd' (upd H' p1 (.lst (b1.map V.bl))) := Step.own rep'.same n1
          have s2 := s1.trans (Step.own (p := p2) (o := .lst (b2.map V.bl)) s1.s n2)
          have s3 := s2.trans (Step.new (p := p3) (o := .lst (b1.map V.bl ++ b2.map V.bl)) s2.s n3)
          have r2 := r1.step s3
          have ra : RpAll X.K X.w (upd Hd' p3 (.lst (b1.map V.bl ++ b2.map V.bl))) (b1.map V.bl ++ b2.map V.bl) ((b1 ++ b2).map .bool) := by
            rw [← List.map_append]
            exact RpAll.bls _
          have r3 := (r2.dat j (.lst upd_same ra)).un i none
          exact h _ _ _ (s.trans s3.d) r3
end
end G
end

section
set_option Elab.async false
set_option linter.all false
set_option maxRecDepth 100000
set_option maxHeartbeats 4000000
/-! G23: defs whose last argument is a dict that they fill. -/
namespace G
open PySem PySem.Spec PyProof.Rows L2
abbrev KV := List (D × D)
/-- a def that fills a dict: where it lies, the other arguments, what it holds; the answer, what it holds then -/
abbrev FnK := Addr → List D → KV → Option (D × KV)
section
variable (K : PySem.W.Frag) (w : World)
def OkK (Hd H : Hp) (pk : Addr) (Q : VK) : Option (D × KV) → Prop
  | none => False
  | some (d, kvs) => ∀ v Hd' H' o ks, Step Hd (del H pk) Hd' H' → Rp K w Hd' v d → H' pk = some (dkO pk o) → Hd' pk = none → DkIs w o ks → RpKvs K w Hd' ks kvs → Q v H'
def spK (n : Nat) (φ : FnK) : Sp := fun vs H Q _ => ∃ (ds : List D) (kvs : KV) (vs0 : List V) (pk : Addr) (o : Obj) (ks : KsT) (Hd : Hp), vs = vs0 ++ [.ref pk] ∧ Same Hd H ∧ RpAll K w Hd vs0 ds ∧ ds.length = n ∧ H pk = some (dkO pk o) ∧ Hd pk = none ∧ (pk == sysModules) = false ∧ DkIs w o ks ∧ RpKvs K w Hd ks kvs ∧ OkK K w Hd H pk Q (φ pk ds kvs)
end
theorem spK_len {K : PySem.W.Frag} {w : World} {n : Nat} {φ : FnK} {vs : List V} {H : Hp} {Q : VK} {E : XK} (h : spK K w n φ vs H Q E) : vs.length = n + 1 := by
  obtain ⟨ds, kvs, vs0, pk, o, ks, Hd, rfl, s, r, l, _⟩ := h
  rw [List.length_append, r.length, l]
  rfl
theorem del_upd {H : Hp} {p : Addr} {o : HO} (hp : H p = none) : del (upd H p o) p = H := by
  funext q
  by_cases h : q = p
  · subst h
    rw [del_same, hp]
  · rw [del_ne h, upd_ne h]
theorem step_del {Hd H : Hp} {p : Addr} (s : Same Hd H) (n : Hd p = none) : Step Hd (del H p) Hd H :=
  ⟨.refl _, fun b x e => by
    by_cases h : b = p
    · subst h; rw [del_same] at e; cases e
    · rw [del_ne h] at e; exact e, s, fun q o e m => m⟩
/-! ### bodies that hand back what they know -/
inductive OutR where
  | no | nx (g : Sg) | rt (d : D) (g : Sg)
section
variable (K : PySem.W.Frag) (w : World) (B : Bx)
def OkR (Hd : Hp) (Dn : Ends) : OutR → Prop
  | .no => False
  | .nx g => ∀ σ Hd' H', Same Hd Hd' → Rep K w B Hd' H' σ g → Dn.nx σ H'
  | .rt d g => ∀ v σ Hd' H', Same Hd Hd' → Rep K w B Hd' H' σ g → Rp K w Hd' v d → Dn.rt v H'
def tR (f : Sg → OutR) : TS := fun Dn σ H => ∃ g Hd, Rep K w B Hd H σ g ∧ OkR K w B Hd Dn (f g)
end
abbrev DR (X : Cx) (B : Bx) (st : Stmt) (f : Sg → OutR) : Prop := PS X st (tR X.K X.w B f)
abbrev DRs (X : Cx) (B : Bx) (st : List Stmt) (f : Sg → OutR) : Prop := PSs X st (tR X.K X.w B f)
section
variable {K : PySem.W.Frag} {w : World} {B : Bx} {W : WX} {Hd Hd' : Hp} {Dn : Ends}
theorem OkR.mono (s : Same Hd Hd') {o : OutR} (h : OkR K w B Hd Dn o) : OkR K w B Hd' Dn o := by
  cases o with
  | no => exact h
  | nx g => exact fun σ H1 H2 t => h σ H1 H2 (s.trans t)
  | rt d g => exact fun v σ H1 H2 t => h v σ H1 H2 (s.trans t)
end
section
variable {X : Cx} {B : Bx} {W : WX} {e a b c tg iter : Expr} {es rest : List Expr} {st : Stmt} {sts body : List Stmt} {pos pos' p p2 : Pos} {f f1 f2 f3 : Sg → R D} {t1 t2 : Sg → R Bool} {u u1 u2 : Sg → Out} {r r1 r2 : Sg → OutR}
def rL (u : Sg → Out) : Sg → OutR := fun g => match u g with
  | .nx g' => .nx g'
  | _ => .no
theorem ok_lift {K : PySem.W.Frag} {w : World} {Hd : Hp} {Dn : Ends} {o : Out} (h : OkR K w B Hd Dn (match o with | .nx g' => .nx g' | _ => .no)) : OkO K w B W Hd Dn o := by
  cases o with
  | nx g' => exact h
  | _ => exact h.elim
theorem dr_lift (h : DS X B W st u) : DR X B st (rL u) := PS.imp h fun Dn σ H ⟨g, Hd, rep, q⟩ => ⟨g, Hd, rep, ok_lift q⟩
theorem drs_lift (h : DSs X B W sts u) : DRs X B sts (rL u) := PSs.imp h fun Dn σ H ⟨g, Hd, rep, q⟩ => ⟨g, Hd, rep, ok_lift q⟩
def rNx : Sg → OutR := fun g => .nx g
theorem drs_nil : DRs X B [] rNx := PSs.imp pss_nil fun Dn σ H ⟨g, Hd, rep, h⟩ => h σ Hd H (.refl _) rep
def rSeq (r1 r2 : Sg → OutR) : Sg → OutR := fun g => match r1 g with
  | .nx g' => r2 g'
  | o => o
theorem drs_cons (h1 : DR X B st r1) (h2 : DRs X B sts r2) : DRs X B (st :: sts) (rSeq r1 r2) := PSs.imp (pss_cons h1 h2) fun Dn σ H ⟨g, Hd, rep, h⟩ => ⟨g, Hd, rep, by
  unfold rSeq at h
  cases e : r1 g with
  | nx g' => rw [e] at h; exact fun σ' Hd' H' s r => ⟨g', Hd', r, OkR.mono s h⟩
  | no => rw [e] at h; exact h
  | rt d g' => rw [e] at h; exact h⟩
theorem drs_one (h1 : DR X B st r1) : DRs X B [st] r1 := pss_one h1
def rE {α : Type} (f : Sg → R α) (k : Sg → α → OutR) : Sg → OutR := fun g => match f g with
  | .ok a => k g a
  | _ => .no
theorem okER {α β : Type} {rl : Rl β α} {K : PySem.W.Frag} {w : World} {Hd H : Hp} {σ : L2.St} {g : Sg} {f : Sg → R α} {k : Sg → α → OutR} {Dn : Ends} {P : β → Hp → Prop} (rep : Rep K w B Hd H σ g) (h : OkR K w B Hd Dn (rE f k g))
    (hk : ∀ a v Hd' H', Step Hd H Hd' H' → rl.r H Hd' H' v a → Rep K w B Hd' H' σ g → OkR K w B Hd' Dn (k g a) → P v H') : tG K w rl B W f σ H P := by
  refine ⟨g, Hd, rep, ?_⟩
  unfold rE at h
  cases e : f g with
  | no => rw [e] at h; exact h
  | ok a =>
    rw [e] at h
    exact fun v Hd' H' t r => hk a v Hd' H' t r (rep.step t) (OkR.mono t.d h)
  | ex x => rw [e] at h; exact h.elim
abbrev rRet (f : Sg → R D) : Sg → OutR := rE f fun g d => .rt d g
theorem dr_ret (he : DE X B W e f) : DR X B (.Return (some e) pos) (rRet f) :=
  PS.imp (ps_ret he) fun Dn σ H ⟨g, Hd, rep, h⟩ => okER rep h fun d v Hd1 H1 t r rep1 h1 => h1 v σ Hd1 H1 (.refl _) rep1 r
abbrev rRetN : Sg → OutR := fun g => .rt .none g
theorem dr_retN : DR X B (.Return none pos) rRetN := PS.imp ps_retN fun Dn σ H ⟨g, Hd, rep, h⟩ => h .non σ Hd H (.refl _) rep .non
abbrev rIf (t : Sg → R Bool) (r1 r2 : Sg → OutR) : Sg → OutR := rE t fun g b => if b then r1 g else r2 g
theorem dr_if {sa sb : List Stmt} (hc : DB X B W c t1) (ha : DRs X B sa r1) (hb : DRs X B sb r2) : DR X B (.If c sa sb pos) (rIf t1 r1 r2) :=
  PS.imp (ps_if hc ha hb) fun Dn σ H ⟨g, Hd, rep, h⟩ => okER rep h fun d v Hd1 H1 t r rep1 h1 => by
    cases (show v = d from r)
    cases d with
    | true => exact ⟨g, Hd1, rep1, h1⟩
    | false => exact ⟨g, Hd1, rep1, h1⟩
def rFz (i : Nat) (r : Sg → OutR) : Sg → OutR := fun g => r (fzAt i g)
theorem dr_fz (i : Nat) (h : DR X B st r) : DR X B st (rFz i r) := PS.imp h fun Dn σ H ⟨g, Hd, rep, h⟩ => by
  obtain ⟨Hd', s, rep'⟩ := rep.freeze i
  exact ⟨_, Hd', rep', OkR.mono s h⟩
def loopR (t : Tg) (body : Sg → OutR) : List D → Sg → OutR
  | [], g => .nx g
  | d :: ds, g => match t d g with
    | none => .no
    | some g1 => match body g1 with
      | .nx g2 => loopR t body ds g2
      | o => o
def rFor (src : Sg → R (List D)) (t : Tg) (body : Sg → OutR) : Sg → OutR := rE src fun g ds => loopR t body ds g
theorem dr_for {src : Sg → R (List D)} {ixs : List Nat} {t : Tg} (hp : PassesOwn (model X.prog X.w) X.A X.env X.xe) (hc : X.calm = true) (hi : DI X B W tg iter src) (hg : DG X B tg ixs t) (hb : DRs X B body r)
    (hs : ∀ x, foldedSetIterable iter X.env x = pure x := by intro _; rfl) : DR X B (.For tg iter body [] pos) (rFor src t r) :=
  PS.imp (ps_for hp hc hi hg hb hs) fun Dn σ H ⟨g, Hd, rep, h⟩ => okER rep h fun ds J Hd1 H1 st ok rep1 h1 => by
    have ok : ItOk X.K X.w Hd1 J ds := ok
    have wk : Walk J ds.length (fun H => Same Hd1 H) (fun i H x H' => J.yld i H x H') := ⟨fun i H hi s => ok.goes i H hi s, fun H s => ok.stops H s, fun _ _ _ _ _ _ y => y⟩
    refine for_it wk (fun i σ H => ∃ g Hd2, Same Hd1 Hd2 ∧ Rep X.K X.w B Hd2 H σ g ∧ OkR X.K X.w B Hd2 Dn (loopR t r (ds.drop i) g)) ⟨g, Hd1, .refl _, rep1, by rw [List.drop_zero]; exact h1⟩ (fun i σ H _ ⟨g, Hd2, s, r, _⟩ => s.trans r.same) (fun i x σ H H' hi ⟨g, Hd2, s, rp, o⟩ y => ?_) fun σ H ⟨g, Hd2, s, rp, o⟩ => ?_
    · obtain ⟨d, Hd3, hd, st2, rd⟩ := ok.yld i H x H' hi y Hd2 s rp.same
      have r3 := rp.step st2
      have o3 := OkR.mono st2.d o
      have ed : ds.drop i = d :: ds.drop (i + 1) := by
        obtain ⟨hl, e⟩ := List.getElem?_eq_some_iff.mp hd
        rw [List.drop_eq_getElem_cons hl, e]
      rw [ed] at o3
      refine ⟨d, g, Hd3, r3, rd, ?_⟩
      show match t d g with
        | some g' => _
        | none => False
      unfold loopR at o3
      cases e1 : t d g with
      | none => rw [e1] at o3; exact o3.elim
      | some g1 =>
        rw [e1] at o3
        refine fun σ' r4 _ _ => ⟨g1, Hd3, r4, ?_⟩
        simp only at o3
        have s3 := s.trans st2.d
        cases e2 : r g1 with
        | no => rw [e2] at o3; exact o3
        | nx g2 => rw [e2] at o3; exact fun σ5 Hd5 H5 s5 r5 => ⟨g2, Hd5, s3.trans s5, r5, OkR.mono s5 o3⟩
        | rt d g2 => rw [e2] at o3; exact o3
    · rw [List.drop_length] at o
      exact o σ Hd2 H (.refl _) rp
/-! ### expressions by which a dict is filled -/
def tKE (K : PySem.W.Frag) (w : World) (B : Bx) (f : Sg → Option (D × Sg)) : TE := fun σ H Q => ∃ g Hd, Rep K w B Hd H σ g ∧ match f g with
  | some (d, g') => ∀ v Hd' H', Same Hd Hd' → Rep K w B Hd' H' σ g' → Rp K w Hd' v d → Q v H'
  | none => False
abbrev DK (X : Cx) (B : Bx) (e : Expr) (f : Sg → Option (D × Sg)) : Prop := PE X e (tKE X.K X.w B f)
/-! arguments, the dict last -/
def tAK (K : PySem.W.Frag) (w : World) (B : Bx) (k : Nat) (fs : Sg → R (List D)) : TA := fun σ H Q => ∃ g Hd, Rep K w B Hd H σ g ∧ match fs g with
  | .ok ds => ∃ v, σ[k]? = some (some v) ∧ ∀ vs Hd' H', Step Hd H Hd' H' → RpAll K w Hd' vs ds → Q (vs ++ [v]) H'
  | _ => False
def tA0 (K : PySem.W.Frag) (w : World) (B : Bx) (fs : Sg → R (List D)) : TA := fun σ H Q => ∃ g Hd, Rep K w B Hd H σ g ∧ match fs g with
  | .ok ds => ∀ vs p o Hd' H', Step Hd H Hd' H' → RpAll K w Hd' vs ds → H' p = none → (p == sysModules) = false → DkIs w o [] → Q (vs ++ [.ref p]) (upd H' p (dkO p o))
  | _ => False
theorem dak_nil {k : Nat} (h : PE X e (tVar k)) (hs : starEach [e] X.env = (false, eval e X.env) :: starEach [] X.env := by rfl) : PA X [e] (tAK X.K X.w B k fNil) :=
  PA.imp (pa_cons h pa_nil hs) fun σ H Q ⟨g, Hd, rep, q⟩ => by
    obtain ⟨v, ev, q⟩ := q
    exact ⟨v, ev, q [] Hd H (Step.refl rep.same) .nil⟩
theorem da0_nil (hs : starEach [.Dict [] [] pos] X.env = (false, eval (.Dict [] [] pos) X.env) :: starEach [] X.env := by rfl) : PA X [.Dict [] [] pos] (tA0 X.K X.w B fNil) :=
  PA.imp (pa_cons pe_dnewO pa_nil hs) fun σ H Q ⟨g, Hd, rep, q⟩ p o hp hsys z => q [] p o Hd H (Step.refl rep.same) .nil hp hsys z
theorem dak_cons {k : Nat} {fs : Sg → R (List D)} (he : DE X B W e f) (ht : PA X es (tAK X.K X.w B k fs)) (hs : starEach (e :: es) X.env = (false, eval e X.env) :: starEach es X.env := by rfl) : PA X (e :: es) (tAK X.K X.w B k (fCons f fs)) :=
  PA.imp (pa_cons he ht hs) fun σ H Q ⟨g, Hd, rep, q⟩ => by
    refine ⟨g, Hd, rep, ?_⟩
    unfold fCons at q
    cases e1 : f g with
    | no => rw [e1] at q; exact q.elim
    | ex x => rw [e1] at q; exact q.elim
    | ok d =>
      rw [e1] at q
      cases e2 : fs g with
      | no => rw [e2] at q; exact q.elim
      | ex x => rw [e2] at q; exact q.elim
      | ok ds =>
        rw [e2] at q
        obtain ⟨v, ev, q⟩ := q
        intro v1 Hd1 H1 s1 r1
        refine ⟨g, Hd1, rep.step s1, ?_⟩
        rw [e2]
        exact ⟨v, ev, fun vs Hd' H' s r => q _ Hd' H' (s1.trans s) (.cons (r1.mono s.d) r)⟩
theorem da0_cons {fs : Sg → R (List D)} (he : DE X B W e f) (ht : PA X es (tA0 X.K X.w B fs)) (hs : starEach (e :: es) X.env = (false, eval e X.env) :: starEach es X.env := by rfl) : PA X (e :: es) (tA0 X.K X.w B (fCons f fs)) :=
  PA.imp (pa_cons he ht hs) fun σ H Q ⟨g, Hd, rep, q⟩ => by
    refine ⟨g, Hd, rep, ?_⟩
    unfold fCons at q
    cases e1 : f g with
    | no => rw [e1] at q; exact q.elim
    | ex x => rw [e1] at q; exact q.elim
    | ok d =>
      rw [e1] at q
      cases e2 : fs g with
      | no => rw [e2] at q; exact q.elim
      | ex x => rw [e2] at q; exact q.elim
      | ok ds =>
        rw [e2] at q
        intro v1 Hd1 H1 s1 r1
        refine ⟨g, Hd1, rep.step s1, ?_⟩
        rw [e2]
        exact fun vs p o Hd' H' s r => q _ p o Hd' H' (s1.trans s) (.cons (r1.mono s.d) r)
/-- after a call, the dict is filled -/
theorem Rep.fill {K : PySem.W.Frag} {w : World} {Hd H Hd' H' : Hp} {σ : L2.St} {g : Sg} {k : Nat} {pk : Addr} {kvs kvs' : KV} {o : Obj} {ks : KsT} (r : Rep K w B Hd H σ g) (e : g[k]? = some (.mem pk kvs)) (t : Step Hd (del H pk) Hd' H') (h1 : H' pk = some (dkO pk o)) (h2 : Hd' pk = none) (h3 : DkIs w o ks) (h4 : RpKvs K w Hd' ks kvs') :
    Rep K w B Hd' H' σ (g.set k (.mem pk kvs')) := by
  obtain ⟨b, l, ow, n, hs⟩ := r
  obtain ⟨ea, e1, e2, e3, e5, o0, ks0, e4, _, _⟩ := hs k _ e
  subst ea
  have far : ∀ j sj, j ≠ k → g[j]? = some sj → sj.own = true → ow j ≠ ow k := fun j sj hj ej oj => n j k sj _ hj ej e oj rfl
  have keep : ∀ q u, H q = some u → q ≠ ow k → H' q = some u := fun q u hq hne => t.h _ _ (by rw [del_ne hne]; exact hq)
  refine ⟨⟨b.d.trans t.d, fun q u hq => keep q u (b.h _ _ hq) (fun z => by rw [z, e2] at hq; cases hq), t.s, fun q u hq hn => t.n q u (by rw [del_ne (fun z => by rw [z, e2] at hq; cases hq)]; exact b.h _ _ hq) (b.n q u hq hn)⟩, by rw [List.length_set]; exact l, ow, fun i j si sj hij ei ej oi oj => ?_, fun j sj ej => ?_⟩
  · rcases get_set ei with ⟨rfl, _, rfl⟩ | ⟨hi, ei'⟩
    · rcases get_set ej with ⟨rfl, _, rfl⟩ | ⟨hj, ej'⟩
      · exact absurd rfl hij
      · exact n i j _ sj hij e ej' rfl oj
    · rcases get_set ej with ⟨rfl, _, rfl⟩ | ⟨hj, ej'⟩
      · exact n i j si _ hij ei' e oi rfl
      · exact n i j si sj hij ei' ej' oi oj
  · rcases get_set ej with ⟨rfl, hl, rfl⟩ | ⟨hj, ej'⟩
    · exact ⟨rfl, e1, e2, h2, e5, o, ks, h1, h3, h4⟩
    · have hh := hs j sj ej'
      cases sj with
      | un => trivial
      | dat d =>
        obtain ⟨v, a1, a2⟩ := hh
        exact ⟨v, a1, a2.mono t.d⟩
      | lst ds =>
        obtain ⟨a1, a2, a3, vs, a4, a5⟩ := hh
        have fr := far j _ hj ej' rfl
        exact ⟨a1, a2, t.n _ _ (by rw [del_ne fr]; exact a4) a3, vs, keep _ _ a4 fr, a5.mono t.d⟩
      | dct kv =>
        obtain ⟨a1, a2, a3, a6, ob, kss, a4, a5, a7⟩ := hh
        have fr := far j _ hj ej' rfl
        exact ⟨a1, a2, t.n _ _ (by rw [del_ne fr]; exact a4) a3, a6, ob, kss, keep _ _ a4 fr, a5, a7.mono t.d⟩
      | mem aa kv =>
        obtain ⟨a0, a1, a2, a3, a6, ob, kss, a4, a5, a7⟩ := hh
        have fr := far j _ hj ej' rfl
        exact ⟨a0, a1, a2, t.n _ _ (by rw [del_ne fr]; exact a4) a3, a6, ob, kss, keep _ _ a4 fr, a5, a7.mono t.d⟩
structure HasK (P : Program) (w : World) (K : PySem.W.Frag) (mg : Str → Option Value) (base : Heap) (k : Nat) (x : Str) (ps : List Str) (φ : FnK) : Prop where
  ex : ∃ f fd n, ps.length = n + 1 ∧ mg x = some (.ref f) ∧ PySem.W.keepIn K (.ref f) = true ∧ Binds K fd ps [] ∧ FnOk P w K mg base (L2.CX P w) k f fd ps (spK K w n φ)
def fK (k : Nat) (φ : FnK) (fs : Sg → R (List D)) : Sg → Option (D × Sg) := fun g => match fs g with
  | .ok ds => (match g[k]? with
    | some (.mem pk kvs) => (match φ pk ds kvs with
      | some (d, kvs') => some (d, g.set k (.mem pk kvs'))
      | none => none)
    | _ => none)
  | _ => none
theorem dk_call {x : Str} {k j i n : Nat} {ps : List Str} {φ : FnK} {fs : Sg → R (List D)} (F : HasK X.prog X.w X.K X.mg X.base k x ps φ) (hn : ps.length = n + 1) (hr : Room j X.A) (hkj : k ≤ j) (tk : Takes X W) (hg : Gl X x) (ha : PA X (e :: es) (tAK X.K X.w B i fs)) (hl : fsLen n fs)
    (hdb : (x == ("__debug__" : Str)) = false := by decide) (he : starEach (e :: es) X.env = (false, eval e X.env) :: starEach es X.env := by rfl) (hpl : (backTo pos (starEach es X.env)).any (·.1) = false := by rfl) :
    DK X B (.Call (.Name x p) (e :: es) [] pos) (fK i φ fs) := by
  obtain ⟨f, fd, n', en, hm, hk, hb, hF⟩ := F.ex
  have : n' = n := by omega
  subst this
  refine PE.imp (pe_callS hF (hr.mono hkj) hg hm hk hb (fun σ => passAt tk σ) ha hdb he hpl) fun σ H Q ⟨g, Hd, rep, q⟩ => ⟨g, Hd, rep, ?_⟩
  unfold fK at q
  cases e1 : fs g with
  | no => rw [e1] at q; exact q
  | ex x => rw [e1] at q; exact q
  | ok ds =>
    rw [e1] at q
    dsimp only at q ⊢
    cases e2 : g[i]? with
    | none => rw [e2] at q; exact q.elim
    | some sl =>
      rw [e2] at q
      cases sl with
      | mem pk kvs =>
        dsimp only at q
        cases e3 : φ pk ds kvs with
        | none => rw [e3] at q; exact q.elim
        | some dk =>
          obtain ⟨d, kvs'⟩ := dk
          rw [e3] at q
          obtain ⟨_, _, ow, _, hs⟩ := id rep
          obtain ⟨ea, a1, a2, a3, a6, ob, kss, a4, a5, a7⟩ := hs i _ e2
          subst ea
          refine ⟨_, join_get a1, fun vs Hd1 H1 s1 r1 => ⟨ds, kvs, vs, ow i, ob, kss, Hd1, rfl, s1.s, r1, hl g ds e1, s1.h _ _ a4, s1.n _ _ a4 a3, a6, a5, a7.mono s1.d, ?_⟩⟩
          rw [e3]
          exact fun v Hd' H' o ks t r b1 b2 b3 b4 => q v Hd' H' (s1.d.trans t.d) ((rep.step s1).fill e2 t b1 b2 b3 b4) r
      | _ => exact q.elim
/-! a call with a new dict -/
/-- what a def answers, whatever place the new dict is at -/
def FnK0 (φ : FnK) (ψ : List D → R D) : Prop := ∀ pk ds d, ψ ds = .ok d → ∃ kvs', φ pk ds [] = some (d, kvs')
open Classical in
noncomputable def psi (φ : FnK) : List D → R D := fun ds => if h : ∃ d, ∀ pk, ∃ kvs', φ pk ds [] = some (d, kvs') then .ok h.choose else .no
theorem psi0 {φ : FnK} : FnK0 φ (psi φ) := fun pk ds d e => by
  unfold psi at e
  split at e
  · rename_i h
    cases e
    exact h.choose_spec pk
  · cases e
theorem psi_eq {φ : FnK} {ds : List D} {d : D} (h : ∀ pk, ∃ kvs', φ pk ds [] = some (d, kvs')) : psi φ ds = .ok d := by
  have hx : ∃ d, ∀ pk, ∃ kvs', φ pk ds [] = some (d, kvs') := ⟨d, h⟩
  unfold psi
  rw [dif_pos hx]
  obtain ⟨k1, e1⟩ := hx.choose_spec 0
  obtain ⟨k2, e2⟩ := h 0
  rw [e1] at e2
  cases e2
  rfl
def fC0 (ψ : List D → R D) (fs : Sg → R (List D)) : Sg → R D := fun g => match fs g with
  | .ok ds => (match ψ ds with
    | .ok d => .ok d
    | _ => .no)
  | _ => .no
theorem de_call0 {x : Str} {k j n : Nat} {ps : List Str} {φ : FnK} {ψ : List D → R D} {fs : Sg → R (List D)} (F : HasK X.prog X.w X.K X.mg X.base k x ps φ) (h0 : FnK0 φ ψ) (hn : ps.length = n + 1) (hr : Room j X.A) (hkj : k ≤ j) (tk : Takes X W) (hg : Gl X x) (ha : PA X (e :: es) (tA0 X.K X.w B fs)) (hl : fsLen n fs)
    (hdb : (x == ("__debug__" : Str)) = false := by decide) (he : starEach (e :: es) X.env = (false, eval e X.env) :: starEach es X.env := by rfl) (hpl : (backTo pos (starEach es X.env)).any (·.1) = false := by rfl) :
    DE X B W (.Call (.Name x p) (e :: es) [] pos) (fC0 ψ fs) := by
  obtain ⟨f, fd, n', en, hm, hk, hb, hF⟩ := F.ex
  have : n' = n := by omega
  subst this
  refine PE.imp (pe_callS hF (hr.mono hkj) hg hm hk hb (fun σ => passAt tk σ) ha hdb he hpl) fun σ H Q ⟨g, Hd, rep, q⟩ => ⟨g, Hd, rep, ?_⟩
  unfold fC0 at q
  cases e1 : fs g with
  | no => rw [e1] at q; exact q
  | ex x => rw [e1] at q; exact q.elim
  | ok ds =>
    rw [e1] at q
    dsimp only at q ⊢
    cases e3 : ψ ds with
    | no => rw [e3] at q; exact q.elim
    | ex x => rw [e3] at q; exact q.elim
    | ok d =>
      rw [e3] at q
      intro vs p o Hd' H' s r hp hsys z
      obtain ⟨kvs', e4⟩ := h0 p ds d e3
      refine ⟨ds, [], vs, p, o, [], Hd', rfl, (s.trans (Step.own s.s hp)).s, r, hl g ds e1, upd_same, s.s.free hp, hsys, z, .nil, ?_⟩
      rw [e4]
      intro v Hd2 H2 o2 ks2 t r2 b1 b2 b3 b4
      rw [del_upd hp] at t
      exact q v Hd2 H2 (s.trans t) r2
/-! what is made of such a call -/
def kSeq (f : Sg → Option (D × Sg)) (k : Sg → D → Option (D × Sg)) : Sg → Option (D × Sg) := fun g => match f g with
  | some (d, g') => k g' d
  | none => none
def kPair (f : Sg → R D) (h : Sg → Option (D × Sg)) : Sg → Option (D × Sg) := fun g => match f g with
  | .ok d => (match h g with
    | some (d2, g') => some (.tuple [d, d2], g')
    | none => none)
  | _ => none
theorem dk_pair {x1} {f : Sg → R D} {h : Sg → Option (D × Sg)} (ha : DE X B W a f) (hb : DK X B b h) (hs : starEach [a, b] X.env = (false, eval a X.env) :: starEach [b] X.env := by rfl) (hs2 : starEach [b] X.env = (false, eval b X.env) :: starEach [] X.env := by rfl) : DK X B (.Tuple [a, b] x1 pos) (kPair f h) :=
  PE.imp (pe_tupF (pa_cons ha (pa_cons hb pa_nil hs2) hs)) fun σ H Q ⟨g, Hd, rep, q⟩ => by
    refine ⟨g, Hd, rep, ?_⟩
    unfold kPair at q
    cases e1 : f g with
    | no => rw [e1] at q; exact q.elim
    | ex x => rw [e1] at q; exact q.elim
    | ok d =>
      rw [e1] at q
      intro v Hd1 H1 s1 r1
      refine ⟨g, Hd1, rep.step s1, ?_⟩
      dsimp only at q
      cases e2 : h g with
      | none => rw [e2] at q; exact q.elim
      | some dg =>
        obtain ⟨d2, g'⟩ := dg
        rw [e2] at q
        intro v2 Hd2 H2 s2 rep2 r2
        refine ⟨by show 2 ≤ sizeLine; decide, fun p o hd hp => ?_⟩
        have t := Step.new (o := .frz o (.tup [v, v2])) rep2.same hp
        exact q _ _ _ (s1.d.trans (s2.trans t.d)) (rep2.step t) (.tup ⟨o, upd_same, hd⟩ (.cons ((r1.mono s2).mono t.d) (.cons (r2.mono t.d) .nil)))
def kNot (h : Sg → Option (D × Sg)) : Sg → Option (D × Sg) := fun g => match h g with
  | some (.bool b, g') => some (.bool (!b), g')
  | _ => none
theorem dk_not {h : Sg → Option (D × Sg)} (ha : DK X B a h) : DK X B (.UnaryOp .Not a pos) (kNot h) := PE.imp (pe_not ha) fun σ H Q ⟨g, Hd, rep, q⟩ => by
  refine ⟨g, Hd, rep, ?_⟩
  unfold kNot at q
  cases e2 : h g with
  | none => rw [e2] at q; exact q.elim
  | some dg =>
    obtain ⟨d2, g'⟩ := dg
    rw [e2] at q
    cases d2 with
    | bool b =>
      intro v Hd2 H2 s2 rep2 r2
      cases r2
      exact ⟨b, rfl, q _ _ _ s2 rep2 (.bl _)⟩
    | _ => exact q.elim
def kOr (f : Sg → R D) (h : Sg → Option (D × Sg)) : Sg → Option (D × Sg) := fun g => match f g with
  | .ok (.bool true) => some (.bool true, g)
  | .ok (.bool false) => (match h g with
    | some (.bool b, g') => some (.bool b, g')
    | _ => none)
  | _ => none
theorem dk_or {f : Sg → R D} {h : Sg → Option (D × Sg)} (ha : DE X B W a f) (hb : DK X B b h) : DK X B (.BoolOp .Or [a, b] pos) (kOr f h) := PE.imp (pe_or ha (pe_one hb)) fun σ H Q ⟨g, Hd, rep, q⟩ => by
  refine ⟨g, Hd, rep, ?_⟩
  unfold kOr at q
  cases e1 : f g with
  | no => rw [e1] at q; exact q.elim
  | ex x => rw [e1] at q; exact q.elim
  | ok d =>
    rw [e1] at q
    cases d with
    | bool b =>
      intro v Hd1 H1 s1 r1
      cases r1
      cases b with
      | true =>
        refine ⟨true, rfl, ?_⟩
        rw [if_pos rfl]
        exact q _ _ _ s1.d (rep.step s1) (.bl _)
      | false =>
        refine ⟨false, rfl, ?_⟩
        rw [if_neg Bool.false_ne_true]
        refine ⟨g, Hd1, rep.step s1, ?_⟩
        dsimp only at q
        cases e2 : h g with
        | none => rw [e2] at q; exact q.elim
        | some dg =>
          obtain ⟨d2, g'⟩ := dg
          rw [e2] at q
          cases d2 with
          | bool b => exact fun v2 Hd2 H2 s2 rep2 r2 => q v2 Hd2 H2 (s1.d.trans s2) rep2 r2
          | _ => exact q.elim
    | _ => exact q.elim
/-! statements of such -/
def oKE (h : Sg → Option (D × Sg)) (k : Sg → D → Out) : Sg → Out := fun g => match h g with
  | some (d, g') => k g' d
  | none => .no
theorem okKE {K : PySem.W.Frag} {w : World} {Hd H : Hp} {σ : L2.St} {g : Sg} {h : Sg → Option (D × Sg)} {k : Sg → D → Out} {Dn : Ends} {P : V → Hp → Prop} (rep : Rep K w B Hd H σ g) (q : OkO K w B W Hd Dn (oKE h k g))
    (hk : ∀ d g' v Hd' H', Same Hd Hd' → Rep K w B Hd' H' σ g' → Rp K w Hd' v d → OkO K w B W Hd' Dn (k g' d) → P v H') : tKE K w B h σ H P := by
  refine ⟨g, Hd, rep, ?_⟩
  unfold oKE at q
  cases e : h g with
  | none => rw [e] at q; exact q
  | some dg =>
    obtain ⟨d, g'⟩ := dg
    rw [e] at q
    exact fun v Hd' H' s r rp => hk d g' v Hd' H' s r rp (OkO.mono s q)
abbrev oSetK (i : Nat) (h : Sg → Option (D × Sg)) : Sg → Out := oKE h fun g d => .nx (g.set i (.dat d))
theorem ds_setK {h : Sg → Option (D × Sg)} {i : Nat} {x : Str} (hN : X.N.Nodup) (hi : X.N[i]? = some x) (hx : Loc X.env.scope x) (he : DK X B e h) (hs : swapsWith e (some (.Name x pos')) pos.line X.env = pure false := by rfl)
    (hf : X.fn x = true ∨ X.env.scope.names.lookup x = some .local := by first | exact .inl rfl | exact .inr rfl | assumption) : DS X B W (.Assign [.Name x pos'] e pos) (oSetK i h) :=
  PS.imp (ps_set hN hi hx he hs hf) fun Dn σ H ⟨g, Hd, rep, q⟩ => okKE rep q fun d g' v Hd1 H1 s rep1 r q1 => q1 _ Hd1 H1 (.refl _) (rep1.dat i r)
/-- own.append of such -/
def oAppK (i : Nat) (h : Sg → Option (D × Sg)) : Sg → Out := fun g => match g[i]? with
  | some (.lst _) => oKE h (fun g' d => match g'[i]? with
    | some (.lst ds) => if ds.length < big then .nx (g'.set i (.lst (ds ++ [d]))) else .no
    | _ => .no) g
  | _ => .no
theorem ds_appK {h : Sg → Option (D × Sg)} {i : Nat} {apos cpos : Pos} (hs : swapsWith (.Call (.Attribute a "append" apos) [e] [] cpos) none pos.line X.env = pure false := by rfl)
    (hb : PE X (.Call (.Attribute a "append" apos) [e] [] cpos) (tBM X.K "list" rAppend (tVar i) (tCons (tKE X.K X.w B h) tNil))) :
    DS X B W (.Expr (.Call (.Attribute a "append" apos) [e] [] cpos) pos) (oAppK i h) :=
  PS.imp (ps_expr hb hs) fun Dn σ H ⟨g, Hd, rep, q⟩ => by
    unfold oAppK at q
    cases e0 : g[i]? with
    | none => rw [e0] at q; exact q.elim
    | some s0 =>
      rw [e0] at q
      cases s0 with
      | lst ds0 =>
        obtain ⟨p, vs0, ep, _, _, hp, _⟩ := own_at rep e0
        refine ⟨_, ep, .inl ⟨rfl, _, .of hp⟩, okKE rep q fun d g' v Hd1 H1 s rep1 r q1 => ?_⟩
        cases e1 : g'[i]? with
        | none => rw [e1] at q1; exact q1.elim
        | some s1 =>
          rw [e1] at q1
          cases s1 with
          | lst ds =>
            dsimp only at q1
            split at q1
            case isFalse => exact q1.elim
            case isTrue hz =>
              obtain ⟨p2, vs, ep2, b0, n0, hp2, r2⟩ := own_at rep1 e1
              rw [ep] at ep2
              cases ep2
              refine ⟨p, vs, v, rfl, rfl, hp2, by rw [r2.length]; exact big_lt hz, ?_⟩
              exact q1 σ Hd1 _ (.refl _) (rep1.turn e1 rfl ep rfl fun H' h' b1 n1 => ⟨rfl, b1, n1, _, h', r2.append (.cons r .nil)⟩)
          | _ => exact q1.elim
      | _ => exact q.elim
/-! the dict itself, stored into -/
def oOwnM (i : Nat) (f : Sg → R D) (F : KV → D → R KV) : Sg → Out := fun g => match g[i]? with
  | some (.mem a kvs) => oE f (fun g k => match F kvs k with
    | .ok kvs' => .nx (g.set i (.mem a kvs'))
    | _ => .no) g
  | _ => .no
theorem ok_ownM {K : PySem.W.Frag} {w : World} {Hd H : Hp} {σ : L2.St} {g : Sg} {i : Nat} {f : Sg → R D} {F : KV → D → R KV} {Dn : Ends} (rep : Rep K w B Hd H σ g) (h : OkO K w B W Hd Dn (oOwnM i f F g)) :
    ∃ p o ks kvs, σ[i]? = some (some (.ref p)) ∧ H p = some (dkO p o) ∧ DkIs w o ks ∧ RpKvs K w Hd ks kvs ∧ ∀ P : V → Hp → Prop, (∀ a v Hd' H' kvs', Step Hd H Hd' H' → Rp K w Hd' v a → H' p = some (dkO p o) → RpKvs K w Hd' ks kvs → Rep K w B Hd' H' σ g → F kvs a = .ok kvs' →
      (∀ o' ks', DkIs w o' ks' → RpKvs K w Hd' ks' kvs' → Dn.nx σ (upd H' p (dkO p o'))) → P v H') → tG K w (rlD K w) B W f σ H P := by
  unfold oOwnM at h
  cases e : g[i]? with
  | none => rw [e] at h; exact h.elim
  | some s =>
    rw [e] at h
    cases s with
    | mem a kvs =>
      obtain ⟨_, _, ow, _, hs⟩ := id rep
      obtain ⟨ea, ep0, b0, n0, hsys, o, ks, hp, z, r⟩ := hs i (.mem a kvs) e
      subst ea
      have ep : σ[i]? = some (some (.ref (ow i))) := join_get ep0
      refine ⟨ow i, o, ks, kvs, ep, hp, z, r, fun P hP => okE rep h fun a v Hd1 H1 t r1 rep1 h1 => ?_⟩
      cases eF : F kvs a with
      | no => rw [eF] at h1; exact h1.elim
      | ex x => rw [eF] at h1; exact h1.elim
      | ok kvs' =>
        rw [eF] at h1
        refine hP a v Hd1 H1 kvs' t r1 (t.h _ _ hp) (r.mono t.d) rep1 eF fun o' ks' z' r' => h1 σ Hd1 _ (.refl _) ?_
        exact rep1.turn e rfl ep rfl fun H' h' b1 n1 => ⟨rfl, rfl, b1, n1, hsys, o', ks', h', z', r'⟩
    | _ => exact h.elim
theorem putM {Dn : Ends} {i : Nat} {fi : Sg → R D} {d : D} {v : V} {Hd H : Hp} {σ : L2.St} {g : Sg} (rep : Rep X.K X.w B Hd H σ g) (r : Rp X.K X.w Hd v d) (h : OkO X.K X.w B W Hd Dn (oOwnM i fi (putT d) g)) :
    gSub (tVar i) (tG X.K X.w (rlD X.K X.w) B W fi) (rSetK X.K X.w) v σ H Dn.nx := by
  obtain ⟨p, ob, ks, kvs, ep, hp, z, rr, fin⟩ := ok_ownM rep h
  refine ⟨_, ep, fin _ fun k u Hd2 H2 kvs' t2 r1 hp1 r2 rep2 eF kk => ?_⟩
  unfold putT at eF
  split at eF
  case isFalse => cases eF
  case isTrue ht =>
    unfold putF at eF
    split at eF
    · rename_i k1 ek
      split at eF
      case isFalse => cases eF
      case isTrue hb =>
        cases eF
        obtain ⟨q, rfl⟩ := key_ref r1 ek (by cases k <;> simp_all [isT])
        have hl := kvs_len r2
        refine ⟨p, q, ob, ks, kvs, k, k1, Hd2, rfl, rfl, hp1, z, r2, rep2.same, r1, ek, ?_, fun ob' z' => kk ob' _ z' (kvs_put r2 ek r1 (r.mono t2.d))⟩
        have : big + 1 ≤ sizeLine := by unfold big; decide
        omega
    · cases eF
def oStoreM (i : Nat) (fv fk : Sg → R D) : Sg → Out := oE fv fun g d => oOwnM i fk (putT d) g
theorem ds_storeM {i : Nat} {o ix : Expr} {fv fi : Sg → R D} (hps : PS X (.Assign [.Subscript o ix p2] e pos) (tAsg (tG X.K X.w (rlD X.K X.w) B W fv) (gSub (tVar i) (tG X.K X.w (rlD X.K X.w) B W fi) (rSetK X.K X.w)))) :
    DS X B W (.Assign [.Subscript o ix p2] e pos) (oStoreM i fv fi) := PS.imp hps fun Dn σ H ⟨g, Hd, rep, h⟩ => okE rep h fun d v Hd1 H1 t r rep1 h1 => putM rep1 r h1
def oStoreMK (i : Nat) (h : Sg → Option (D × Sg)) (fk : Sg → R D) : Sg → Out := oKE h fun g d => oOwnM i fk (putT d) g
theorem ds_storeMK {i : Nat} {o ix : Expr} {h : Sg → Option (D × Sg)} {fi : Sg → R D} (hps : PS X (.Assign [.Subscript o ix p2] e pos) (tAsg (tKE X.K X.w B h) (gSub (tVar i) (tG X.K X.w (rlD X.K X.w) B W fi) (rSetK X.K X.w)))) :
    DS X B W (.Assign [.Subscript o ix p2] e pos) (oStoreMK i h fi) := PS.imp hps fun Dn σ H ⟨g, Hd, rep, q⟩ => okKE rep q fun d g' v Hd1 H1 s rep1 r q1 => putM rep1 r q1
end
/-! ### a def of that kind -/
def initK (m : Nat) (ds : List D) (pk : Addr) (kvs : KV) : Sg := ds.map .dat ++ .mem pk kvs :: List.replicate (m - ds.length - 1) .un
def getK (n : Nat) (pk : Addr) (d : D) (g : Sg) : Option (D × KV) := match g[n]? with
  | some (.mem p kvs) => if p = pk then some (d, kvs) else none
  | _ => none
def runK (n m : Nat) (u : Sg → OutR) : FnK := fun pk ds kvs => if ds.length = n then (match u (initK m ds pk kvs) with
  | .nx g => getK n pk .none g
  | .rt d g => getK n pk d g
  | .no => none) else none
theorem getElem?_initK {m : Nat} {ds : List D} {pk : Addr} {kvs : KV} {i : Nat} {s : Sl} (h : (initK m ds pk kvs)[i]? = some s) : (∃ d, ds[i]? = some d ∧ s = .dat d) ∨ (i = ds.length ∧ s = .mem pk kvs) ∨ s = .un := by
  unfold initK at h
  by_cases hi : i < ds.length
  · rw [List.getElem?_append_left (by simpa using hi), List.getElem?_map] at h
    obtain ⟨d, h1, h2⟩ := Option.map_eq_some_iff.mp h
    exact .inl ⟨d, h1, h2.symm⟩
  · rw [List.getElem?_append_right (by simpa using Nat.le_of_not_lt hi), List.length_map] at h
    by_cases hj : i = ds.length
    · subst hj
      rw [Nat.sub_self] at h
      exact .inr (.inl ⟨rfl, (Option.some.inj h).symm⟩)
    · obtain ⟨z, ez⟩ : ∃ z, i - ds.length = z + 1 := ⟨i - ds.length - 1, by omega⟩
      rw [ez, List.getElem?_cons_succ] at h
      exact .inr (.inr (List.eq_of_mem_replicate (List.mem_of_getElem? h)))
section
variable {P : Program} {w : World} {K : PySem.W.Frag} {mg : Str → Option Value} {base : Heap}
theorem mk_defK {x qual : Str} {st : Stmt} {f : Addr} {fd : FuncData} {N ps : List Str} {k n : Nat} {cl : Nat → Addr} {u : Sg → OutR} (F : Fun K x qual st f fd) (S : FnScope N ps (defScope st)) (hn : ps.length = n + 1) (hN : n + 1 ≤ N.length)
    (hu : ∀ (cdv : Value) (A : Around) (outer : List Env) (s : Shared) (H Hd H1 : Hp) (E : XK), Room k (A.deeper (envOfC qual (defScope st) s.heap.objs.size f cdv)) →
      DRs (cxOf (L2.CX P w) P w K mg base N qual (defScope st) f cdv A outer s H E) ⟨cl, Hd, H1⟩ (defBody st) u) :
    FnOk P w K mg base (L2.CX P w) (k + 1) f fd ps (spK K w n (runK n N.length u)) := by
  refine F.okX S (fun vs H Q E h => by rw [hn]; exact spK_len h) fun cdv A outer s H vs Q E hr h => ?_
  obtain ⟨ds, kvs, vs0, pk, o, ks, Hd, rfl, sm, r, l, hp, np, hsys, z, rk, q⟩ := h
  have lr := r.length
  refine ⟨_, hu cdv A outer s H Hd (del H pk) E hr, initK N.length ds pk kvs, Hd, ⟨step_del sm np, ?_, fun i => pk, fun i j si sj ne ei ej oi oj => ?_, fun i s' e => ?_⟩, ?_⟩
  · unfold L2.start initK
    simp only [List.length_append, List.length_map, List.length_cons, List.length_replicate, List.length_nil, lr]
    omega
  · rcases getElem?_initK ei with ⟨d, _, rfl⟩ | ⟨en, rfl⟩ | rfl
    · cases oi
    · rcases getElem?_initK ej with ⟨d, _, rfl⟩ | ⟨em, rfl⟩ | rfl
      · cases oj
      · exact absurd (en.trans em.symm) ne
      · cases oj
    · cases oi
  · have st : ∀ (j : Nat) (v : V), (vs0 ++ [V.ref pk])[j]? = some v → (((L2.start N (vs0 ++ [V.ref pk]))[j]?).join) = some v := fun j v hv => by
      unfold L2.start
      have hi : j < (vs0 ++ [V.ref pk]).length := (List.getElem?_eq_some_iff.mp hv).1
      rw [List.getElem?_append_left (by simpa using hi), List.getElem?_map, hv]
      rfl
    rcases getElem?_initK e with ⟨d, hd, rfl⟩ | ⟨ei, rfl⟩ | rfl
    · obtain ⟨v, hv, rv⟩ := r.get hd
      refine ⟨v, st i v ?_, rv⟩
      rw [List.getElem?_append_left (List.getElem?_eq_some_iff.mp hv).1]
      exact hv
    · subst ei
      refine ⟨rfl, st _ _ ?_, del_same, np, hsys, o, ks, hp, z, rk⟩
      rw [List.getElem?_append_right (by omega), lr, Nat.sub_self]
      rfl
    · trivial
  · unfold runK at q
    rw [if_pos l] at q
    have fin : ∀ (v : V) (d : D) (g : Sg) (σ : L2.St) (Hd' H' : Hp), OkK K w Hd H pk Q (getK n pk d g) → Rep K w ⟨cl, Hd, del H pk⟩ Hd' H' σ g → Rp K w Hd' v d → Q v H' := fun v d g σ Hd' H' q rep rv => by
      unfold getK at q
      cases e : g[n]? with
      | none => rw [e] at q; exact q.elim
      | some sl =>
        rw [e] at q
        cases sl with
        | mem p kv =>
          dsimp only at q
          split at q
          case isFalse => exact q.elim
          case isTrue hpk =>
            subst hpk
            obtain ⟨b, _, ow, _, hs⟩ := rep
            obtain ⟨ea, a1, a2, a3, a6, ob, kss, a4, a5, a7⟩ := hs n _ e
            rw [ea] at a3 a4
            exact q v Hd' H' ob kss b rv a4 a3 a5 a7
        | _ => exact q.elim
    show OkR K w ⟨cl, Hd, del H pk⟩ Hd { nx := fun _ H' => Q .non H', rt := Q } (u (initK N.length ds pk kvs))
    cases e : u (initK N.length ds pk kvs) with
    | no => rw [e] at q; exact q
    | nx g => rw [e] at q; exact fun σ Hd' H' s rp => fin .non .none g σ Hd' H' q rp .non
    | rt d g => rw [e] at q; exact fun v σ Hd' H' s rp rv => fin v d g σ Hd' H' q rp rv
theorem hasK_mk {x : Str} {f : Addr} {fd : FuncData} {ps : List Str} {k n : Nat} {φ : FnK} (hm : mg x = some (.ref f)) (hk : PySem.W.keepIn K (.ref f) = true) (hb : Binds K fd ps []) (hn : ps.length = n + 1) (h : FnOk P w K mg base (L2.CX P w) k f fd ps (spK K w n φ)) : HasK P w K mg base k x ps φ := ⟨⟨f, fd, n, hn, hm, hk, hb, h⟩⟩
end
end G
end

section
set_option Elab.async false
set_option linter.all false
set_option maxRecDepth 100000
set_option maxHeartbeats 4000000
/-! G24: a suite that raises; what flies there has no context. -/
namespace G
open PySem PySem.Spec PyProof.Rows L2
/-- a def that raises nothing -/
def noEx (φ : Fn) : Fn := fun ds => match φ ds with
  | .ex _ => .no
  | r => r
theorem noEx_ok {φ : Fn} {ds : List D} {r : Ret} (h : φ ds = .ok r) : noEx φ ds = .ok r := by unfold noEx; rw [h]
structure HasN (P : Program) (w : World) (K : PySem.W.Frag) (mg : Str → Option Value) (base : Heap) (cl : Nat → Addr) (k : Nat) (x : Str) (ps : List Str) (φ : Fn) : Prop where
  ex : ∃ f fd, mg x = some (.ref f) ∧ PySem.W.keepIn K (.ref f) = true ∧ Binds K fd ps [] ∧ FnOk P w K mg base (L2N.CX P w) k f fd ps (spF K w cl ps.length φ)
section
variable {P : Program} {w : World} {K : PySem.W.Frag} {mg : Str → Option Value} {base : Heap} {cl : Nat → Addr} {k : Nat} {x : Str} {ps : List Str} {φ : Fn}
theorem FnOk.toN {f : Addr} {fd : FuncData} {n : Nat} (F : FnOk P w K mg base (L2.CX P w) k f fd ps (spF K w cl n φ)) : FnOk P w K mg base (L2N.CX P w) k f fd ps (spF K w cl n (noEx φ)) := by
  have key : ∀ {vs : List V} {H : Hp} {Q : VK} {E : XK}, spF K w cl n (noEx φ) vs H Q E → spF K w cl n φ vs H Q (fun _ _ _ => False) := fun {vs H Q E} h => by
    obtain ⟨ds, Hd, sm, r, l, q⟩ := h
    refine ⟨ds, Hd, sm, r, l, ?_⟩
    unfold noEx at q
    cases e : φ ds with
    | no => rw [e] at q; exact q
    | ex z => rw [e] at q; exact q.elim
    | ok z =>
      rw [e] at q
      cases z with
      | dat d => exact q
      | own d => exact q
      | odc d => exact q
  refine ⟨fun vs H Q E h => F.len vs H Q _ (key h), fun A outer s H args us vs Q E hr he hb hv hs => ?_⟩
  refine codeAny_mono (F.run A outer s H args us vs Q (fun _ _ _ => False) hr he hb hv (key hs)) fun r s' hq => ?_
  cases r with
  | ok fl => cases fl <;> exact hq
  | error e =>
    obtain ⟨a, B, H', cls, d, _, _, _, _, _, _, _, z⟩ := show L2.CX P w outer H s (fun _ _ _ => False) e s' from hq
    exact z.elim
theorem Has.toN (F : Has P w K mg base cl k x ps φ) : HasN P w K mg base cl k x ps (noEx φ) := by
  obtain ⟨f, fd, a, b, c, h⟩ := F.ex
  exact ⟨f, fd, a, b, c, FnOk.toN h⟩
theorem mk_defN {qual : Str} {st : Stmt} {f : Addr} {fd : FuncData} {N : List Str} {u : Sg → Out} (F : Fun K x qual st f fd) (S : FnScope N ps (defScope st))
    (hu : ∀ (cdv : Value) (A : Around) (outer : List Env) (s : Shared) (H Hd : Hp) (E : XK), Room k (A.deeper (envOfC qual (defScope st) s.heap.objs.size f cdv)) →
      DSs (cxOf (L2N.CX P w) P w K mg base N qual (defScope st) f cdv A outer s H E) ⟨cl, Hd, H⟩ (fun c d _ H' => E c d H') (defBody st) u) :
    FnOk P w K mg base (L2N.CX P w) (k + 1) f fd ps (spF K w cl ps.length (runF ps.length N.length u)) := by
  obtain ⟨oc, od, kV, doc, pm, an, cdv, ct, osl, rfl, lk, hcd⟩ := F.ex
  refine fn_of lk hcd S (fun vs H Q E h => spF_len h) fun A outer s H vs Q E hr h => ?_
  obtain ⟨ds, Hd, sm, r, l, q⟩ := h
  refine ⟨_, hu cdv A outer s H Hd E hr, initS N.length ds, Hd, ⟨Step.refl sm, ?_, fun _ => 0, fun i j si sj _ ei _ oi _ => ?_, fun i s' e => ?_⟩, ?_⟩
  · unfold L2.start initS
    simp only [List.length_append, List.length_map, List.length_replicate, r.length]
  · rcases getElem?_initS ei with ⟨d, _, rfl⟩ | rfl <;> cases oi
  · rcases getElem?_initS e with ⟨d, hd, rfl⟩ | rfl
    · obtain ⟨v, hv, rv⟩ := r.get hd
      refine ⟨v, ?_, rv⟩
      unfold L2.start
      rw [List.getElem?_append_left (by simpa using (List.getElem?_eq_some_iff.mp hv).1), List.getElem?_map, hv]
      rfl
    · trivial
  · unfold runF at q
    rw [if_pos l] at q
    show OkO K w ⟨cl, Hd, H⟩ _ Hd { nx := fun _ H' => Q .non H', rt := Q } (u (initS N.length ds))
    cases e : u (initS N.length ds) with
    | no => rw [e] at q; exact q
    | nx g => rw [e] at q; exact fun σ Hd' H' s r => q .non Hd' H' r.base .non
    | rt d => rw [e] at q; exact fun v Hd' H' s st r => q v Hd' H' st r
    | rl l => rw [e] at q; exact fun p vs Hd' H' s st b n h r => q p vs Hd' H' st b n h r
    | rd l => rw [e] at q; exact fun p o ks Hd' H' s st b n h z i r => q p o ks Hd' H' st b n h z i r
    | bk g => rw [e] at q; exact q.elim
    | ct g => rw [e] at q; exact q.elim
    | ex x g => rw [e] at q; exact fun cls dd σ Hd' H' s r x => q cls dd Hd' H' r.base x
theorem hasN_mk {f : Addr} {fd : FuncData} (hm : mg x = some (.ref f)) (hk : PySem.W.keepIn K (.ref f) = true) (hb : Binds K fd ps []) (hF : FnOk P w K mg base (L2N.CX P w) k f fd ps (spF K w cl ps.length φ)) : HasN P w K mg base cl k x ps φ := ⟨f, fd, hm, hk, hb, hF⟩
end
section
variable {X : Cx} {B : Bx} {W : WX} {e a b c : Expr} {es rest : List Expr} {st : Stmt} {sts body suite : List Stmt} {pos pos' p p2 np : Pos} {x n m y : Str} {u : Sg → Out} {p0 : Sg → R D}
theorem de_callN {k j : Nat} {ps : List Str} {φ : Fn} {fs : Sg → R (List D)} (F : HasN X.prog X.w X.K X.mg X.base B.cl k x ps φ) (hr : Room j X.A) (hkj : k ≤ j) (tk : L2N.Takes X W) (hg : Gl X x) (ha : DA X B W (e :: es) fs) (hl : fsLen ps.length fs)
    (hdb : (x == ("__debug__" : Str)) = false := by decide) (he : starEach (e :: es) X.env = (false, eval e X.env) :: starEach es X.env := by rfl) (hpl : (backTo pos (starEach es X.env)).any (·.1) = false := by rfl) :
    DE X B W (.Call (.Name x p) (e :: es) [] pos) (fCall φ fs) := by
  obtain ⟨f, fd, hm, hk, hb, hF⟩ := F.ex
  exact PE.imp (pe_callS hF (hr.mono hkj) hg hm hk hb (fun σ => L2N.passAt tk σ) ha hdb he hpl) fun _ _ _ h => imp_call hl h
/-- an exception whose class has an __init__ of its own, made where nothing is handled: it has no context -/
theorem pmkN_oex {x : Str} {C fI : Addr} {k : Nat} {fd : FuncData} {ps : List Str} {sp : Sp} {ta : TA} (T : OexC X.K C) (iC : PySem.W.findIn X.K (.ref C) "__init__" = some (some (.ref fI))) (tI : PySem.W.typeIn X.K (.ref fI) = some (.type "function"))
    (Fi : FnOk X.prog X.w X.K X.mg X.base (L2.CX X.prog X.w) k fI fd ps sp) (room : Room (k + 1) X.A) (bd : Binds X.K fd ps []) (hg : Gl X x) (hm : X.mg x = some (.ref C)) (args : PA X (e :: es) ta)
    (hdb : (x == ("__debug__" : Str)) = false := by decide) (he : starEach (e :: es) X.env = (false, eval e X.env) :: starEach es X.env := by rfl) (hpl : (backTo pos (starEach es X.env)).any (·.1) = false := by rfl) :
    L2N.PMk X (.Call (.Name x p) (e :: es) [] pos) (tMkO C sp [] ta) := fun pins s σ H Q Iv q0 => by
  obtain ⟨_, _, _, _, bm, _, _, _, _, _, _, _, _, _, _, cls0, has0⟩ := T.cls
  have pass : Passes (L2.CX X.prog X.w) X (fun _ _ _ => False) := fun ps' σ' H' s' ee s2 I' cc => passAt (W := fun _ _ _ _ => False) takes0 σ' ps' H' s' ee s2 I' cc
  refine wpAny_Call_Name_kw (ld_glob Iv hg hm (PySem.W.callWith_K (h₀ := X.base) Iv.ok.mod.kin T.kC (thn (args.run pos pins s σ H _ Iv q0) fun ws s1 hh => ?_) he hpl) hdb)
  obtain ⟨vs, H1, I1, rel, szs, q1⟩ := hh
  refine ⟨I1.kIn, show wpAny _ _ (call (.ref C) ws) _ _ _ from ?_⟩
  obtain ⟨hp, gs, dn, tt, osx⟩ := s1
  have le1 : hp.objs.size ≤ hp.objs.size + 1 := Nat.le_succ _
  have want := q1 (hp.objs.size + 1) (I1.hok.fresh le1)
  rw [List.append_nil] at want
  have grow : ∀ b o, hp.get? b = some o → ((hp.push (PySem.W.kdv_tup ws)).push (PySem.HandSPX.excO C hp.objs.size)).get? b = some o := fun _ _ z => Heap.get?_push_of_some _ (Heap.get?_push_of_some _ z)
  have there : ((hp.push (PySem.W.kdv_tup ws)).push (PySem.HandSPX.excO C hp.objs.size)).get? (hp.objs.size + 1) = some (PySem.HandSPX.excO C hp.objs.size) := by heap_get
  have J : Inv X pins σ (upd H1 (hp.objs.size + 1) (exo (hp.objs.size + 1) C none)) ⟨(hp.push (PySem.W.kdv_tup ws)).push (PySem.HandSPX.excO C hp.objs.size), gs, dn, tt, osx⟩ :=
    I1.laid (t' := tt) grow le1 (exo_ok there)
  have rel2 : Vals (V.ref (hp.objs.size + 1) :: vs) (Value.ref (hp.objs.size + 1) :: ws) := .cons rfl rel
  have ln := (Fi.len _ _ _ _ want).symm.trans rel2.length
  have bd2 := bd _ (Value.ref (hp.objs.size + 1) :: ws) J.kIn (by rw [List.append_nil]; exact ln.symm)
  rw [List.append_nil] at bd2
  have small : ws.length ≤ sizeLine := by
    have := Paired.length rel
    rw [sizeLine_eq]
    omega
  refine wpAny_call (PySem.HandSPX.call_own F.excBase_ValueError (fun Y => PySem.HandSPX.refsVE_contains Y bm has0) (I1.kIn _ _ cls0) (PySem.W.looks_findIn I1.kIn iC) (fun self => PySem.W.bind_fn I1.kIn self tI) small
    (codeAny_mono (Fi.run _ X.stack _ _ ⟨Value.ref (hp.objs.size + 1) :: ws, []⟩ (Value.ref (hp.objs.size + 1) :: ws) _ _ (fun _ _ _ => False) (room.make C ws []) (J.env0.make C ws []) bd2 rel2 want) fun r s' z => ?_))
  cases r with
  | error er => exact pass pins σ _ _ er s' J z
  | ok fl =>
    cases fl with
    | ret uu =>
      obtain ⟨v, H2, os2, bare2, un2, hok2, rv, ev, d, fs, ea, ed, hd1, q2⟩ := z
      subst ev
      obtain ⟨h2, g2, d2, t2, os'⟩ := s'
      obtain ⟨t0, G, J2, kG, ge, hoe, na⟩ := mk_end0 (d2 := d2) (t2 := t2) I1 le1 grow un2 hok2 os2 bare2 ea ed hd1
      exact ⟨rv, hp.objs.size + 1, _, _, ⟨G, g2, d2, t2, os'⟩, _, .ref C, some d, rfl, J2, kG, ge, hoe, ⟨rfl, rfl, fun vs hv => by cases hv; rfl⟩, rfl, rfl, na, rfl, bare2, raises_own T.exC T.tyC, q2⟩
    | _ => exact z.elim
theorem ds_raiseAN {k j lv : Nat} (T : BadF X.prog X.w X.K X.mg X.base B.cl k x) (hr : Room lv X.A) (hlv : 2 ≤ lv) (hc : X.calm = true) (tk : L2N.Takes X W) (hg : Gl X x) (ha : DE X B W e p0) (hdb : (x == ("__debug__" : Str)) = false := by decide)
    (he : starEach [.Constant (.str m) j p2, e] X.env = (false, eval (.Constant (.str m) j p2) X.env) :: starEach [e] X.env := by rfl) (he2 : starEach [e] X.env = (false, eval e X.env) :: starEach [] X.env := by rfl) (hpl : (backTo pos' (starEach [e] X.env)).any (·.1) = false := by rfl) :
    DS X B W (.Raise (some (.Call (.Name x p) [.Constant (.str m) j p2, e] [] pos')) none pos) (oRsA k p0) := by
  obtain ⟨fI, fd, iC, tI, hb, hF⟩ := T.ex
  refine PS.imp (L2N.ps_raise hc tk (pmkN_oex T.T iC tI hF (hr.mono hlv) hb hg T.gC (pa_cons pe_str (pa_cons ha pa_nil he2) he) hdb he hpl)) ?_
  rintro Dn σ H ⟨g, Hd, rep, h⟩
  refine ⟨g, Hd, rep, ?_⟩
  unfold oRsA at h
  cases ep : p0 g with
  | no => rw [ep] at h; exact h
  | ex ee =>
    rw [ep] at h
    exact fun cls dd Hd' H' t xx => h cls dd σ Hd' H' t.d (rep.step t) xx
  | ok d =>
    rw [ep] at h
    cases d with
    | int i =>
      intro v Hd1 H1 t r
      cases r
      refine ⟨(by decide : 2 ≤ 1000), fun a na => ⟨a, .str m, .int i, rfl, upd_same, fun dx n ne => ?_⟩⟩
      rw [upd_ne ne] at n
      refine ⟨rfl, dx, _, upd_same, (by rw [upd_ne ne, upd_same]), n, ?_⟩
      rw [heap_raised na ne]
      exact h _ _ σ Hd1 _ t.d (rep.step (t.trans (Step.own t.s n))) ⟨rfl, fun z => (nomatch z), fun i' e' => ⟨dx, rfl, by cases e'; exact upd_same⟩⟩
    | _ => exact h.elim
/-- try: .. except C: raise D("..") -/
def oTryRs (k k2 : Nat) (u : Sg → Out) : Sg → Out := fun g => match u g with
  | .ex e g' => if e.cls = k then .ex ⟨k2, none⟩ g' else .no
  | o => o
theorem ds_tryRs {k k2 j : Nat} {pr pt : Pos} {c : Value} (C : ClsF X.K X.mg B.cl k2 y) (hs : X.stack = X.env :: X.outer) (hf : X.env.frame = some X.env.locals) (hc : Names X x c) (hpa : ∀ hd : Option Value, PassesOwnAt (model X.prog X.w) (X.A.mark hd) X.A X.env X.xe) (tk : Takes X W) (hg : Gl X y)
    (hex : PySem.W.exmOne X.K (.ref (B.cl k)) c = some true)
    (hb : ∀ (W' : WX) (pn : List (Addr × Obj)) (xe : Value → Shared → Prop), L2N.Takes (X.tr pn xe) W' → PassesOwn (model X.prog X.w) X.A X.env xe → DSs (X.tr pn xe) B W' body u) (hdb : (y == ("__debug__" : Str)) = false := by decide) :
    DS X B W (.Try body [.ExceptHandler (some (.Name x np)) none [.Raise (some (.Call (.Name y p) [.Constant (.str m) j p2] [] pos')) none pr] pos] [] [] pt) (oTryRs k k2 u) := by
  refine PS.imp (L2H.ps_try_onlyX (tb := fun W2 => tS X.K X.w B W2 u) (ts := fun _ _ _ _ σ H => W (.ref (B.cl k2)) none σ H) hs hf hc hpa tk (fun W' pn xe t1 _ t3 => hb W' pn xe t1 t3) ?_) ?_
  · intro a oe cls d pn hz hv tkS hot
    exact pss_one (L2H.ps_raiseH hot tkS (L2N.pmk_own (X := L2H.suiteX X a ((a, oe) :: pn)) PySem.F.excBase_ValueError C.q C.gC C.kC (raises_own C.eC C.tC) hg hdb))
  · intro Dn σ H ⟨g, Hd, rep, h⟩
    refine ⟨g, Hd, rep, ?_⟩
    unfold oTryRs at h
    cases e : u g with
    | no => rw [e] at h; exact h
    | nx g1 => rw [e] at h; exact h
    | rt d => rw [e] at h; exact h
    | rl d => rw [e] at h; exact h
    | rd d => rw [e] at h; exact h
    | bk g1 => rw [e] at h; exact h
    | ct g1 => rw [e] at h; exact h
    | ex z g1 =>
      rw [e] at h
      dsimp only at h
      split at h
      case isFalse => exact h.elim
      case isTrue hk =>
        intro cls dd σ' Hd' H' s rep' ex
        obtain ⟨ex1, _, _⟩ := ex
        subst ex1
        rw [hk]
        exact ⟨true, hex, fun _ a na => h _ none σ' Hd' H' s rep' ⟨rfl, fun _ => rfl, fun i e => nomatch e⟩, fun z => nomatch z⟩
/-- try: .. except C: return a constant -/
def oTryC (k : Nat) (d0 : D) (u : Sg → Out) : Sg → Out := fun g => match u g with
  | .ex e g' => if e.cls = k then .rt d0 else .no
  | o => o
theorem ds_tryC {k : Nat} {pr pt : Pos} {c : Value} {b0 : Bool} {j : Nat} (hs : X.stack = X.env :: X.outer) (hf : X.env.frame = some X.env.locals) (hc : Names X x c) (tk : Takes X W) (hex : PySem.W.exmOne X.K (.ref (B.cl k)) c = some true)
    (hb : ∀ (W' : WX) (pn : List (Addr × Obj)) (xe : Value → Shared → Prop), Takes (X.tr pn xe) W' → PassesOwn (model X.prog X.w) X.A X.env xe → DSs (X.tr pn xe) B W' body u) :
    DS X B W (.Try body [.ExceptHandler (some (.Name x np)) none [.Return (some (.Constant (.bool b0) j p2)) pr] pos] [] [] pt) (oTryC k (.bool b0) u) := by
  refine PS.imp (ps_try_only (tb := fun W2 => tS X.K X.w B W2 u) (ts := fun _ _ _ Dn σ H => Dn.rt (.bl b0) H) hs hf hc tk hb ?_) ?_
  · intro a oe cls d pn hz hv
    exact pss_one (ps_ret pe_bl)
  · intro Dn σ H ⟨g, Hd, rep, h⟩
    refine ⟨g, Hd, rep, ?_⟩
    unfold oTryC at h
    cases e : u g with
    | no => rw [e] at h; exact h
    | nx g1 => rw [e] at h; exact h
    | rt d => rw [e] at h; exact h
    | rl d => rw [e] at h; exact h
    | rd d => rw [e] at h; exact h
    | bk g1 => rw [e] at h; exact h
    | ct g1 => rw [e] at h; exact h
    | ex z g1 =>
      rw [e] at h
      dsimp only at h
      split at h
      case isFalse => exact h.elim
      case isTrue hk =>
        intro cls dd σ' Hd' H' s rep' ex
        obtain ⟨ex1, _, _⟩ := ex
        subst ex1
        rw [hk]
        exact ⟨true, hex, fun _ a na => h (.bl b0) Hd' H' s rep'.base (.bl _), fun z => nomatch z⟩
/-- try: .. except C as e: return isinstance(e, D) -/
def oTryI (l : List (Nat × Bool)) (u : Sg → Out) : Sg → Out := fun g => match u g with
  | .ex e g' => (match e.at_, l.lookup e.cls with
    | none, some b => .rt (.bool b)
    | _, _ => .no)
  | o => o
structure FlOkI (X : Cx) (B : Bx) (c : Value) (i : Nat) (xp : Expr) (k : Nat) (b : Bool) : Prop where
  ex : PySem.W.exmOne X.K (.ref (B.cl k)) c = some true
  pe : ∀ (a : Addr) (oe : Obj) (pn : List (Addr × Obj)), Zc (.ref (B.cl k)) none oe → (∃ vs, oe.data = .fields vs) → PE (X.suite a ((a, oe) :: pn)) xp (fun σ H Q => σ[i]? = some (some (.ref a)) ∧ Q (.bl b) H)
theorem fe_is {X : Cx} {i : Nat} {a D : Addr} {oe : Obj} {pn : List (Addr × Obj)} {b : Bool} {v : V} {cv : Value} {e c : Expr} {p pos : Pos} (C : ExcC X.K D) (hz : Zc (.ref D) none oe) (hf : ∃ vs, oe.data = .fields vs) (hk : PySem.W.kitOne X.K (.ref D) cv = some b)
    (hcv : ∀ u, RelV v u → u = cv) (hi : PE (X.suite a ((a, oe) :: pn)) e (tVar i)) (hcl : PE (X.suite a ((a, oe) :: pn)) c (tC v)) (hg : Gl (X.suite a ((a, oe) :: pn)) "isinstance") (hm : X.mg "isinstance" = none)
    (he : starEach [e, c] X.env = (false, eval e X.env) :: starEach [c] X.env := by rfl) (he2 : starEach [c] X.env = (false, eval c X.env) :: starEach [] X.env := by rfl) (hpl : (backTo pos (starEach [c] X.env)).any (·.1) = false := by rfl) :
    PE (X.suite a ((a, oe) :: pn)) (.Call (.Name "isinstance" p) [e, c] [] pos) (fun σ H Q => σ[i]? = some (some (.ref a)) ∧ Q (.bl b) H) :=
  PE.imp (pe_callB (call_isE C hz hf) hg hm G.boot_isi (pa_cons hi (pa_cons hcl pa_nil he2) he) (he := he) (hpl := hpl)) fun σ H Q h => ⟨.ref a, h.1, v, cv, b, rfl, hcv, hk, h.2⟩
theorem hi_nil {P : Nat → Bool → Prop} : ∀ k b, ([] : List (Nat × Bool)).lookup k = some b → P k b := fun _ _ h => nomatch h
theorem hi_cons {P : Nat → Bool → Prop} {k0 : Nat} {b0 : Bool} {l : List (Nat × Bool)} (h : P k0 b0) (hr : ∀ k b, l.lookup k = some b → P k b) : ∀ k b, ((k0, b0) :: l).lookup k = some b → P k b := fun k b e => by
  rw [List.lookup_cons] at e
  split at e
  · rename_i z
    cases e
    rw [beq_iff_eq] at z
    subst z
    exact h
  · exact hr k b e
theorem ds_tryI {i : Nat} {ex : Expr} {l : List (Nat × Bool)} {pr pt : Pos} {c : Value} (hs : X.stack = X.env :: X.outer) (hf : X.env.frame = some X.env.locals) (hN : X.N.Nodup) (hi : X.N[i]? = some n) (hln : X.env.kindOf n = some .local) (hc : Names X x c) (tk : Takes X W)
    (hb : ∀ (W' : WX) (pn : List (Addr × Obj)) (xe : Value → Shared → Prop), Takes (X.tr pn xe) W' → PassesOwn (model X.prog X.w) X.A X.env xe → DSs (X.tr pn xe) B W' body u)
    (hl : ∀ k b, l.lookup k = some b → FlOkI X B c i ex k b) :
    DS X B W (.Try body [.ExceptHandler (some (.Name x np)) (some n) [.Return (some ex) pr] pos'] [] [] pt) (oTryI l u) := by
  refine PS.imp (ps_try_as (tb := fun W2 => tS X.K X.w B W2 u) (ts := fun a cls d Dn σ H => ∃ (k : Nat) (b : Bool) (σ0 : L2.St), σ = σ0.set i (some (.ref a)) ∧ cls = .ref (B.cl k) ∧ d = none ∧ l.lookup k = some b ∧ Dn.rt (.bl b) H) hs hf hN hi hln hc tk hb ?_) ?_
  · intro a oe cls d pn hz hv
    refine ⟨fun pins s σ H Dn I h => ?_⟩
    obtain ⟨k, b, σ0, rfl, rfl, rfl, e, q⟩ := h
    refine (pss_one (ps_ret ((hl k b e).pe a oe pn hz hv))).run pins s _ H Dn I ?_
    have hlen : i < (σ0.set i (some (V.ref a))).length := by
      rw [I.len]
      exact (List.getElem?_eq_some_iff.mp hi).1
    exact ⟨by rw [List.getElem?_set_self (by simpa using hlen)], q⟩
  · intro Dn σ H ⟨g, Hd, rep, h⟩
    refine ⟨g, Hd, rep, ?_⟩
    unfold oTryI at h
    cases e : u g with
    | no => rw [e] at h; exact h
    | nx g1 => rw [e] at h; exact h
    | rt d => rw [e] at h; exact h
    | rl d => rw [e] at h; exact h
    | rd d => rw [e] at h; exact h
    | bk g1 => rw [e] at h; exact h
    | ct g1 => rw [e] at h; exact h
    | ex z g1 =>
      rw [e] at h
      obtain ⟨k, at_⟩ := z
      cases at_ with
      | some i => exact h.elim
      | none =>
        dsimp only at h
        cases e2 : l.lookup k with
        | none => rw [e2] at h; exact h.elim
        | some b =>
          rw [e2] at h
          intro cls dd σ' Hd' H' s rep' ex
          obtain ⟨ex1, ex2, _⟩ := ex
          have Fk := hl k b e2
          subst ex1
          exact ⟨true, Fk.ex, fun _ a na => ⟨k, b, σ', rfl, rfl, ex2 rfl, e2, h (.bl b) Hd' H' s rep'.base (.bl _)⟩, fun z => nomatch z⟩
end
end G
end

section
set_option Elab.async false
set_option linter.all false
set_option maxRecDepth 100000
set_option maxHeartbeats 4000000
namespace W
open PySem PySem.Spec PyProof.Rows L2 G
noncomputable section
def u_law_mix : Sg → Out := (oRet (fBin modD (fBin modD (fBin mulD (fVarT 0) (fC (.int 48271))) (fVarT 1)) (fVarT 2)))
def m_law_mix : Fn := runF 3 3 u_law_mix
def u_law_cell : Sg → Out := (oSeq (oIf (fB (fBin ltD (fVarT 1) (fUn lenD (fVarT 0)))) (oRet (fBin ixD (fVarT 0) (fVarT 1))) oNx) (oRet (fC (.int 0))))
def m_law_cell : Fn := runF 2 2 u_law_cell
def u_law_game : Sg → Out := (oSeq (oSet 2 (fL (fLst (fCons (fTup (fCons (fC (.int 2)) (fCons (fC (.int 3)) fNil))) (fCons (fTup (fCons (fC (.int 3)) (fCons (fC (.int 2)) fNil))) (fCons (fTup (fCons (fC (.int 3)) (fCons (fC (.int 3)) fNil))) (fCons (fTup (fCons (fC (.int 2)) (fCons (fC (.int 4)) fNil))) (fCons (fTup (fCons (fC (.int 4)) (fCons (fC (.int 2)) fNil))) (fCons (fTup (fCons (fC (.int 1)) (fCons (fC (.int 5)) fNil))) (fCons (fTup (fCons (fC (.int 2)) (fCons (fC (.int 5)) fNil))) (fCons (fTup (fCons (fC (.int 3)) (fCons (fC (.int 4)) fNil))) (fCons (fTup (fCons (fC (.int 4)) (fCons (fC (.int 3)) fNil))) (fCons (fTup (fCons (fC (.int 5)) (fCons (fC (.int 2)) fNil))) (fCons (fTup (fCons (fC (.int 2)) (fCons (fC (.int 8)) fNil))) (fCons (fTup (fCons (fC (.int 1)) (fCons (fC (.int 1)) fNil))) (fCons (fTup (fCons (fC (.int 2)) (fCons (fC (.int 2)) fNil))) fNil)))))))))))))))) (oSeq (oSet 3 (fC (.int 9))) (oSeq (oIf (fB (fBin gtD (fUn lenD (fVarT 0)) (fC (.int 63)))) (oSet 3 (fC (.int 13))) oNx) (oRet (fBin ixD (fVarT 2) (fCall m_law_mix (fCons (fCall m_law_cell (fCons (fVar 0) (fCons (fVar 1) fNil))) (fCons (fC (.int 9973)) (fCons (fVar 3) fNil)))))))))
def m_law_game : Fn := runF 2 4 u_law_game
def u_is_within : Sg → Out := (oRet (fAndV (fIsi "int" (fVarT 0)) (fAndV (fNotT (fIsi "bool" (fVarT 0))) (fChain leD leD (fVarT 1) (fVarT 0) (fVarT 2)))))
def m_is_within : Fn := runF 3 3 u_is_within
def u_power : Sg → Out := (oSeq (oSet 2 (fC (.int 1))) (oSeq (oFor (fUn rng1 (fVarT 1)) (gN 3) (oSet 2 (fBin mulD (fVarT 2) (fVarT 0)))) (oRet (fVar 2))))
def m_power : Fn := runF 2 4 u_power
def u_checked_game : Sg → Out := (oSeq (oIf (fOr (fNot (fTru (fIsi "tuple" (fVarT 0)))) (fB (fBin neD (fUn lenD (fVarT 0)) (fC (.int 2))))) (oRs 1) oNx) (oSeq (oIf (fOr (fNot (fTru (fCall m_is_within (fCons (fBin ixD (fVarT 0) (fC (.int 0))) (fCons (fC (.int 1)) (fCons (fC (.int 5)) fNil)))))) (fNot (fTru (fCall m_is_within (fCons (fBin ixD (fVarT 0) (fC (.int 1))) (fCons (fC (.int 1)) (fCons (fC (.int 8)) fNil))))))) (oRs 1) oNx) (oSeq (oIf (fB (fBin gtD (fCall m_power (fCons (fBin ixD (fVarT 0) (fC (.int 1))) (fCons (fBin ixD (fVarT 0) (fC (.int 0))) fNil))) (fC (.int 300)))) (oRs 1) oNx) (oRet (fVar 0)))))
def m_checked_game : Fn := runF 1 1 u_checked_game
def u_longer : Sg → Out := (oSeq (oSetO 2 (fLst fNil)) (oSeq (oFor (fUn itD (fVar 0)) (gN 3) (oOwn 2 (fL (fLc [4] (fUn rng1 (fVarT 1)) (gN 4) tYesD (fBin addD (fVarT 3) (fTup (fCons (fVar 4) fNil))))) extF)) (oRetV 2)))
def m_longer : Fn := runF 2 5 u_longer
def u_listed : Sg → Out := (oSeq (oSet 1 (fL (fLst (fCons (fTup fNil) fNil)))) (oSeq (oFor (fUn rng1 (fBin ixD (fVarT 0) (fC (.int 0)))) (gN 2) (oSet 1 (fCall m_longer (fCons (fVar 1) (fCons (fBin ixD (fVarT 0) (fC (.int 1))) fNil))))) (oRet (fVar 1))))
def m_listed : Fn := runF 1 3 u_listed
def u_all_codes : Sg → Out := (oRet (fCall m_listed (fCons (fCall m_checked_game (fCons (fVar 0) fNil)) fNil)))
def m_all_codes : Fn := runF 1 1 u_all_codes
def u_law_codes : Sg → Out := (oSeq (oSet 1 (fL (fLst (fCons (fTup fNil) fNil)))) (oSeq (oFor (fUn rng1 (fBin ixD (fVarT 0) (fC (.int 0)))) (gN 2) (oSeq (oSet 3 (fL (fLst fNil))) (oSeq (oFor (fUn itD (fVar 1)) (gN 4) (oSet 3 (fBin addD (fVarT 3) (fL (fLc [5] (fUn rng1 (fBin ixD (fVarT 0) (fC (.int 1)))) (gN 5) tYesD (fBin addD (fVarT 4) (fTup (fCons (fVar 5) fNil)))))))) (oSet 1 (fVar 3))))) (oRet (fVar 1))))
def m_law_codes : Fn := runF 1 6 u_law_codes
def u_answered : Sg → Out := (oSeq (oSet 2 (fUn lenD (fL (fLc [4, 5] (fUn enD (fVar 0)) (gT 2 (gsC (gN 4) (gsC (gN 5) gs0))) (fB (fBin eqD (fBin ixD (fVarT 1) (fVarT 4)) (fVarT 5))) (fVar 4))))) (oSeq (oSet 3 (fUn sumD (fL (fLc [5] (fUn itD (fL (fUn ssD (fVarT 0)))) (gN 5) tYesD (fBin min2D (fCntT (fVarT 0) (fVarT 5)) (fCntT (fVarT 1) (fVarT 5))))))) (oRet (fTup (fCons (fVar 2) (fCons (fBin subD (fVarT 3) (fVarT 2)) fNil))))))
def m_answered : Fn := runF 2 6 u_answered
def u_all_answers : Sg → Out := (oSeq (oSetX 1 fX0) (oSeq (oSet 2 (fCall m_all_codes (fCons (fVar 0) fNil))) (oSeq (oFor (fUn itD (fVar 2)) (gN 3) (oFor (fUn itD (fVar 2)) (gN 4) (oStoreK 1 (fC (.bool true)) (fCall m_answered (fCons (fVar 3) (fCons (fVar 4) fNil)))))) (oRetO (fUn srtDk (fVarT 1))))))
def m_all_answers : Fn := runF 1 5 u_all_answers
def u_is_code : Sg → Out := (oSeq (oIf (fOr (fNot (fTru (fIsi "tuple" (fVarT 1)))) (fB (fBin neD (fUn lenD (fVarT 1)) (fBin ixD (fVarT 0) (fC (.int 0)))))) (oRet (fC (.bool false))) oNx) (oRet (fNotT (fL (fLc [2] (fUn itD (fVar 1)) (gN 2) (fNot (fTru (fCall m_is_within (fCons (fVar 2) (fCons (fC (.int 0)) (fCons (fBin subD (fBin ixD (fVarT 0) (fC (.int 1))) (fC (.int 1))) fNil)))))) (fVar 2))))))
def m_is_code : Fn := runF 2 3 u_is_code
def u_look_code : Sg → Out := (oIf (fNot (fTru (fCall m_is_code (fCons (fVar 0) (fCons (fVar 1) fNil))))) (oRs 2) oNx)
def m_look_code : Fn := runF 2 2 u_look_code
def u_answer : Sg → Out := (oSeq (oEx (fCall m_checked_game (fCons (fVar 0) fNil))) (oSeq (oEx (fCall m_look_code (fCons (fVar 0) (fCons (fVar 1) fNil)))) (oSeq (oEx (fCall m_look_code (fCons (fVar 0) (fCons (fVar 2) fNil)))) (oRet (fCall m_answered (fCons (fVar 1) (fCons (fVar 2) fNil)))))))
def m_answer : Fn := runF 3 3 u_answer
def u_is_ask : Sg → Out := (oSeq (oIf (fOr (fNot (fTru (fIsi "tuple" (fVarT 1)))) (fOr (fB (fBin neD (fUn lenD (fVarT 1)) (fC (.int 2)))) (fNot (fTru (fCall m_is_code (fCons (fVar 0) (fCons (fBin ixD (fVarT 1) (fC (.int 0))) fNil))))))) (oRet (fC (.bool false))) oNx) (oSeq (oIf (fOr (fNot (fTru (fIsi "tuple" (fBin ixD (fVarT 1) (fC (.int 1)))))) (fB (fBin neD (fUn lenD (fBin ixD (fVarT 1) (fC (.int 1)))) (fC (.int 2))))) (oRet (fC (.bool false))) oNx) (oRet (fAndV (fCall m_is_within (fCons (fBin ixD (fBin ixD (fVarT 1) (fC (.int 1))) (fC (.int 0))) (fCons (fC (.int 0)) (fCons (fBin ixD (fVarT 0) (fC (.int 0))) fNil)))) (fCall m_is_within (fCons (fBin ixD (fBin ixD (fVarT 1) (fC (.int 1))) (fC (.int 1))) (fCons (fC (.int 0)) (fCons (fBin ixD (fVarT 0) (fC (.int 0))) fNil))))))))
def m_is_ask : Fn := runF 2 2 u_is_ask
def u_look_asks : Sg → Out := (oSeq (oEx (fCall m_checked_game (fCons (fVar 0) fNil))) (oSeq (oIf (fOr (fNot (fTru (fIsi "list" (fVarT 1)))) (fB (fBin gtD (fUn lenD (fVarT 1)) (fC (.int 8))))) oNo oNx) (oFor (fUn enD (fVar 1)) (gT 2 (gsC (gN 2) (gsC (gN 3) gs0))) (oIf (fNot (fTru (fCall m_is_ask (fCons (fVar 0) (fCons (fVar 3) fNil))))) oNo oNx))))
def m_look_asks : Fn := runF 2 4 u_look_asks
def u_fits : Sg → Out := (oRet (fNotT (fL (fLc [2] (fUn itD (fVar 1)) (gN 2) (fB (fBin neD (fCall m_answered (fCons (fVar 0) (fCons (fBin ixD (fVarT 2) (fC (.int 0))) fNil))) (fBin ixD (fVarT 2) (fC (.int 1))))) (fVar 2)))))
def m_fits : Fn := runF 2 3 u_fits
def u_left_by : Sg → Out := (oRetO (fLc [2] (fUn itD (fCall m_listed (fCons (fVar 0) fNil))) (gN 2) (fTru (fCall m_fits (fCons (fVar 2) (fCons (fVar 1) fNil)))) (fVar 2)))
def m_left_by : Fn := runF 2 3 u_left_by
def u_what_fits : Sg → Out := (oSeq (oEx (fCall m_look_asks (fCons (fVar 0) (fCons (fVar 1) fNil)))) (oRet (fCall m_left_by (fCons (fVar 0) (fCons (fVar 1) fNil)))))
def m_what_fits : Fn := runF 2 2 u_what_fits
def u_choices (r_ : Fn) : Sg → Out := (oSeq (oIf (fB (fBin eqD (fVarT 1) (fC (.int 0)))) (oRetO (fLst (fCons (fTup fNil) fNil))) oNx) (oSeq (oSetO 2 (fLst fNil)) (oSeq (oFor (fRng2 (fBin subD (fVarT 1) (fC (.int 1))) (fVarT 0)) (gN 3) (oOwn 2 (fL (fLc [4] (fUn itD (fCall r_ (fCons (fVar 3) (fCons (fBin subD (fVarT 1) (fC (.int 1))) fNil)))) (gN 4) tYesD (fBin addD (fVarT 4) (fTup (fCons (fVar 3) fNil))))) extF)) (oRetO (fUn srtD (fVarT 2))))))
def n_choices : Nat → Fn
  | 0 => runF 2 5 oNo
  | n + 1 => runF 2 5 (u_choices (n_choices n))
def m_choices : Fn := n_choices 8
def u_why_clash : Sg → Out := (oSeq (oIf (fTru (fCall m_what_fits (fCons (fVar 0) (fCons (fVar 1) fNil)))) (oRet (fC .none)) oNx) (oFor (fRng2 (fC (.int 1)) (fBin addD (fUn lenD (fVarT 1)) (fC (.int 1)))) (gN 2) (oFor (fUn itD (fCall m_choices (fCons (fUn lenD (fVarT 1)) (fCons (fVar 2) fNil)))) (gN 3) (oIf (fNot (fTru (fCall m_left_by (fCons (fVar 0) (fCons (fL (fLc [4] (fUn itD (fVar 3)) (gN 4) tYesD (fBin ixD (fVarT 1) (fVarT 4)))) fNil))))) (oRetO (fUn listD (fVarT 3))) oNx))))
def m_why_clash : Fn := runF 2 5 u_why_clash
def u_needless : Sg → Out := (oSeq (oSet 2 (fCall m_what_fits (fCons (fVar 0) (fCons (fVar 1) fNil)))) (oSeq (oSetO 3 (fLst fNil)) (oSeq (oFor (fUn rng1 (fUn lenD (fVarT 1))) (gN 4) (oIf (fB (fBin eqD (fCall m_left_by (fCons (fVar 0) (fCons (fBin addD (fSl (fVarT 1) fNone (fSome (fVarT 4))) (fSl (fVarT 1) (fSome (fBin addD (fVarT 4) (fC (.int 1)))) fNone)) fNil))) (fVarT 2))) (oOwn 3 (fVar 4) appF) oNx)) (oRetV 3))))
def m_needless : Fn := runF 2 5 u_needless
def u_settled : Sg → Out := (oSeq (oSet 2 (fCall m_what_fits (fCons (fVar 0) (fCons (fVar 1) fNil)))) (oSeq (oIf (fNot (fTru (fVarT 2))) (oRs 4) oNx) (oSeq (oIf (fB (fBin gtD (fUn lenD (fVarT 2)) (fC (.int 1)))) (oRet (fC .none)) oNx) (oRet (fBin ixD (fVarT 2) (fC (.int 0)))))))
def m_settled : Fn := runF 2 3 u_settled
def u_law_deed : Sg → Out := (oSeq (oIf (fB (fBin eqD (fVarT 0) (fC (.int 0)))) (oRet (fCall m_checked_game (fCons (fVar 1) fNil))) oNx) (oSeq (oIf (fB (fBin eqD (fVarT 0) (fC (.int 1)))) (oRet (fCall m_all_codes (fCons (fVar 1) fNil))) oNx) (oSeq (oIf (fB (fBin eqD (fVarT 0) (fC (.int 2)))) (oRet (fCall m_all_answers (fCons (fVar 1) fNil))) oNx) (oSeq (oIf (fB (fBin eqD (fVarT 0) (fC (.int 3)))) (oRet (fCall m_answer (fCons (fVar 1) (fCons (fC .none) (fCons (fC .none) fNil))))) oNx) (oSeq (oIf (fB (fBin eqD (fVarT 0) (fC (.int 4)))) (oRet (fCall m_what_fits (fCons (fVar 1) (fCons (fC .none) fNil)))) oNx) (oSeq (oIf (fB (fBin eqD (fVarT 0) (fC (.int 5)))) (oRet (fCall m_why_clash (fCons (fVar 1) (fCons (fC .none) fNil)))) oNx) (oSeq (oIf (fB (fBin eqD (fVarT 0) (fC (.int 6)))) (oRet (fCall m_needless (fCons (fVar 1) (fCons (fC .none) fNil)))) oNx) (oRet (fCall m_settled (fCons (fVar 1) (fCons (fC .none) fNil)))))))))))
def m_law_deed : Fn := runF 2 2 u_law_deed
def u_parts_by : Sg → Out := (oSeq (oSetX 2 fX0) (oSeq (oFor (fUn itD (fVar 0)) (gN 3) (oSeq (oSet 4 (fGetK (fVarT 2) (fCall m_answered (fCons (fVar 3) (fCons (fVar 1) fNil))) (fL (fLst fNil)))) (oStoreK 2 (fBin addD (fVarT 4) (fL (fLst (fCons (fVar 3) fNil)))) (fCall m_answered (fCons (fVar 3) (fCons (fVar 1) fNil)))))) (oRetV 2)))
def m_parts_by : Fn := runF 2 5 u_parts_by
def u_split : Sg → Out := (oSeq (oSet 3 (fCall m_what_fits (fCons (fVar 0) (fCons (fVar 1) fNil)))) (oSeq (oEx (fCall m_look_code (fCons (fVar 0) (fCons (fVar 2) fNil)))) (oSeq (oSet 4 (fCall m_parts_by (fCons (fVar 3) (fCons (fVar 2) fNil)))) (oRetO (fLc [5] (fUn itD (fL (fUn srtDk (fVarT 4)))) (gN 5) tYesD (fTup (fCons (fVar 5) (fCons (fUn lenD (fIxK (fVarT 4) (fVar 5))) fNil))))))))
def m_split : Fn := runF 3 6 u_split
def u_worst : Sg → Out := (oSeq (oSet 2 (fCall m_parts_by (fCons (fVar 0) (fCons (fVar 1) fNil)))) (oRet (fUn maxA (fL (fLc [3] (fUn keysR (fVar 2)) (gN 3) tYesD (fUn lenD (fIxK (fVarT 2) (fVar 3))))))))
def m_worst : Fn := runF 2 4 u_worst
def u_best_of : Sg → Out := (oSeq (oSetO 2 (fLc [3] (fUn itD (fCall m_listed (fCons (fVar 0) fNil))) (gN 3) tYesD (fTup (fCons (fCall m_worst (fCons (fVar 1) (fCons (fVar 3) fNil))) (fCons (fUn intD (fBin ninD (fVarT 3) (fVarT 1))) (fCons (fVar 3) fNil)))))) (oRet (fBin ixD (fUn minA (fVarT 2)) (fC (.int 2)))))
def m_best_of : Fn := runF 2 4 u_best_of
def u_look_left : Sg → Out := (oSeq (oSet 2 (fCall m_what_fits (fCons (fVar 0) (fCons (fVar 1) fNil)))) (oSeq (oIf (fNot (fTru (fVarT 2))) (oRs 4) oNx) (oRet (fVar 2))))
def m_look_left : Fn := runF 2 3 u_look_left
def u_best_guess : Sg → Out := (oRet (fCall m_best_of (fCons (fVar 0) (fCons (fCall m_look_left (fCons (fVar 0) (fCons (fVar 1) fNil))) fNil))))
def m_best_guess : Fn := runF 2 2 u_best_guess
def u_played : Sg → Out := (oSeq (oSet 2 (fCall m_what_fits (fCons (fVar 0) (fCons (fL (fLst fNil)) fNil)))) (oSeq (oEx (fCall m_look_code (fCons (fVar 0) (fCons (fVar 1) fNil)))) (oSeq (oSetO 3 (fLst fNil)) (oSeq (whileD (fB (fBin gtD (fUn lenD (fVarT 2)) (fC (.int 1)))) (oSeq (oSet 4 (fCall m_best_of (fCons (fVar 0) (fCons (fVar 2) fNil)))) (oSeq (oOwn 3 (fTup (fCons (fVar 4) (fCons (fCall m_answered (fCons (fVar 1) (fCons (fVar 4) fNil))) fNil))) appF) (oSet 2 (fIxK (fCall m_parts_by (fCons (fVar 2) (fCons (fVar 4) fNil))) (fCall m_answered (fCons (fVar 1) (fCons (fVar 4) fNil))))))) 1000) (oRetV 3)))))
def m_played : Fn := runF 2 5 u_played
def u_look_planned : Sg → Out := (oSeq (oSet 2 (fCall m_look_left (fCons (fVar 0) (fCons (fVar 1) fNil)))) (oSeq (oIf (fB (fBin gtD (fUn lenD (fCall m_listed (fCons (fVar 0) fNil))) (fC (.int 16)))) (oRs 5) oNx) (oRet (fVar 2))))
def m_look_planned : Fn := runF 2 3 u_look_planned
def u_a_plan : Sg → Out := (oSeq (oSet 2 (fCall m_look_planned (fCons (fVar 0) (fCons (fVar 1) fNil)))) oNo)
def m_a_plan : Fn := runF 2 3 u_a_plan
def u_look_guesses : Sg → Out := (oSeq (oEx (fCall m_checked_game (fCons (fVar 0) fNil))) (oSeq (oIf (fOr (fNot (fTru (fIsi "list" (fVarT 1)))) (fB (fBin gtD (fUn lenD (fVarT 1)) (fC (.int 8))))) oNo oNx) (oFor (fUn enD (fVar 1)) (gT 2 (gsC (gN 2) (gsC (gN 3) gs0))) (oIf (fNot (fTru (fCall m_is_code (fCons (fVar 0) (fCons (fVar 3) fNil))))) oNo oNx))))
def m_look_guesses : Fn := runF 2 4 u_look_guesses
def u_rows_by : Sg → Out := (oSeq (oSetX 2 fX0) (oSeq (oFor (fUn itD (fCall m_listed (fCons (fVar 0) fNil))) (gN 3) (oSeq (oSet 4 (fUn tupleD (fL (fLc [5] (fUn itD (fVar 1)) (gN 5) tYesD (fCall m_answered (fCons (fVar 3) (fCons (fVar 5) fNil))))))) (oStoreK 2 (fBin addD (fGetK (fVarT 2) (fVar 4) (fL (fLst fNil))) (fL (fLst (fCons (fVar 3) fNil)))) (fVar 4)))) (oRetV 2)))
def m_rows_by : Fn := runF 2 6 u_rows_by
def u_alike_by : Sg → Out := (oSeq (oEx (fCall m_look_guesses (fCons (fVar 0) (fCons (fVar 1) fNil)))) (oSeq (oSetO 2 (fLc [3] (fUn valsR (fCall m_rows_by (fCons (fVar 0) (fCons (fVar 1) fNil)))) (gN 3) (fB (fBin gtD (fUn lenD (fVarT 3)) (fC (.int 1)))) (fSl (fVarT 3) fNone (fSome (fC (.int 2)))))) (oSeq (oIf (fNot (fTru (fVarT 2))) (oRet (fC .none)) oNx) (oRet (fUn tupleD (fUn minA (fVarT 2)))))))
def m_alike_by : Fn := runF 2 4 u_alike_by
def u_settle_all : Sg → Out := (oRet (fBin isN (fCall m_alike_by (fCons (fVar 0) (fCons (fVar 1) fNil))) (fC .none)))
def m_settle_all : Fn := runF 2 2 u_settle_all
def u_read_v2 : Sg → Out := (oSeq (oEx (fCall m_checked_game (fCons (fVar 0) fNil))) oNo)
def m_read_v2 : Fn := runF 2 5 u_read_v2
def u_law_more : Sg → Out := (oSeq (oIf (fB (fBin eqD (fVarT 0) (fC (.int 0)))) (oRet (fCall m_split (fCons (fVar 1) (fCons (fC .none) (fCons (fC .none) fNil))))) oNx) (oSeq (oIf (fB (fBin eqD (fVarT 0) (fC (.int 1)))) (oRet (fCall m_best_guess (fCons (fVar 1) (fCons (fC .none) fNil)))) oNx) (oSeq (oIf (fB (fBin eqD (fVarT 0) (fC (.int 2)))) (oRet (fCall m_played (fCons (fVar 1) (fCons (fC .none) fNil)))) oNx) (oSeq (oIf (fB (fBin eqD (fVarT 0) (fC (.int 3)))) (oRet (fCall m_a_plan (fCons (fVar 1) (fCons (fC .none) fNil)))) oNx) (oSeq (oIf (fB (fBin eqD (fVarT 0) (fC (.int 4)))) (oRet (fCall m_settle_all (fCons (fVar 1) (fCons (fC .none) fNil)))) oNx) (oRet (fCall m_read_v2 (fCons (fVar 1) (fCons (fC .none) fNil)))))))))
def m_law_more : Fn := runF 2 2 u_law_more
def u_foe_answer : Sg → Out := (oSeq (oSet 3 (fCall m_what_fits (fCons (fVar 0) (fCons (fVar 1) fNil)))) (oSeq (oEx (fCall m_look_code (fCons (fVar 0) (fCons (fVar 2) fNil)))) (oSeq (oEx (fCall m_look_left (fCons (fVar 0) (fCons (fVar 1) fNil)))) (oSeq (oSet 4 (fCall m_parts_by (fCons (fVar 3) (fCons (fVar 2) fNil)))) (oSeq (oSet 5 (fUn maxA (fL (fLc [6] (fUn keysR (fVar 4)) (gN 6) tYesD (fUn lenD (fIxK (fVarT 4) (fVar 6))))))) (oRet (fUn minA (fL (fLc [6] (fUn keysR (fVar 4)) (gN 6) (fB (fBin eqD (fUn lenD (fIxK (fVarT 4) (fVar 6))) (fVarT 5))) (fVar 6))))))))))
def m_foe_answer : Fn := runF 3 7 u_foe_answer
def u_least_guess_like : Sg → Out := (oSeq (oEx (fCall m_checked_game (fCons (fVar 0) fNil))) (oSeq (oEx (fCall m_look_code (fCons (fVar 0) (fCons (fVar 1) fNil)))) oNo))
def m_least_guess_like : Fn := runF 2 5 u_least_guess_like
def u_law_by_code : Sg → Out := (oSeq (oIf (fB (fBin eqD (fVarT 0) (fC (.int 0)))) (oRet (fCall m_answer (fCons (fVar 1) (fCons (fVar 3) (fCons (fVar 2) fNil))))) oNx) (oSeq (oIf (fB (fBin eqD (fVarT 0) (fC (.int 1)))) (oRet (fCall m_answer (fCons (fVar 1) (fCons (fVar 2) (fCons (fVar 3) fNil))))) oNx) (oSeq (oIf (fB (fBin eqD (fVarT 0) (fC (.int 2)))) (oRet (fCall m_split (fCons (fVar 1) (fCons (fL (fLst fNil)) (fCons (fVar 3) fNil))))) oNx) (oSeq (oIf (fB (fBin eqD (fVarT 0) (fC (.int 3)))) (oRet (fCall m_foe_answer (fCons (fVar 1) (fCons (fL (fLst fNil)) (fCons (fVar 3) fNil))))) oNx) (oSeq (oIf (fB (fBin eqD (fVarT 0) (fC (.int 4)))) (oRet (fCall m_played (fCons (fVar 1) (fCons (fVar 3) fNil)))) oNx) (oRet (fCall m_least_guess_like (fCons (fVar 1) (fCons (fVar 3) fNil)))))))))
def m_law_by_code : Fn := runF 4 4 u_law_by_code
def u_law_told_v5 : Sg → Out := (oSeq (oTry [(2, [false, true, true]), (1, [true, false, true]), (4, [false, false, true]), (5, [false, false, true])] (oIf (fB (fBin eqD (fVarT 0) (fC (.int 0)))) (oEx (fCall m_law_deed (fCons (fVar 1) (fCons (fVar 4) fNil)))) (oIf (fB (fBin eqD (fVarT 0) (fC (.int 1)))) (oEx (fCall m_law_more (fCons (fVar 1) (fCons (fVar 4) fNil)))) (oEx (fCall m_law_by_code (fCons (fVar 1) (fCons (fVar 2) (fCons (fVar 3) (fCons (fVar 4) fNil))))))))) (oRetO (fLst fNil)))
def m_law_told_v5 : Fn := runF 5 6 u_law_told_v5
def u_law_code : Sg → Out := (oSeq (oSetO 2 (fLst fNil)) (oSeq (oFor (fUn rng1 (fBin ixD (fVarT 0) (fC (.int 0)))) (gN 3) (oOwn 2 (fCall m_law_mix (fCons (fBin addD (fBin addD (fVarT 1) (fBin mulD (fBin mulD (fC (.int 31)) (fVarT 3)) (fVarT 3))) (fBin mulD (fC (.int 7)) (fVarT 3))) (fCons (fC (.int 9967)) (fCons (fBin ixD (fVarT 0) (fC (.int 1))) fNil)))) appF)) (oRet (fUn tupleD (fVarT 2)))))
def m_law_code : Fn := runF 2 4 u_law_code
def u_law_k01 : Sg → Out := (oSeq (oSet 1 (fCall m_law_game (fCons (fVar 0) (fCons (fC (.int 2)) fNil))))
    (oSeq (oIf (fOr (fB (fBin neD (fCall m_checked_game (fCons (fVar 1) fNil)) (fVarT 1))) (fB (fBin neD (fCall m_all_codes (fCons (fVar 1) fNil)) (fCall m_law_codes (fCons (fVar 1) fNil))))) (oRet (fC (.bool false))) oNx)
    (oSeq (oSet 2 (fL (fLst (fCons (fC .none) (fCons (fTup (fCons (fC (.int 0)) (fCons (fC (.int 3)) fNil))) (fCons (fTup (fCons (fC (.int 3)) (fCons (fC (.int 0)) fNil))) (fCons (fTup (fCons (fC (.int 6)) (fCons (fC (.int 2)) fNil))) (fCons (fTup (fCons (fC (.int 2)) (fCons (fC (.int 9)) fNil))) (fCons (fTup (fCons (fC (.int 4)) (fCons (fC (.int 5)) fNil))) (fCons (fTup (fCons (fC (.int 5)) (fCons (fC (.int 4)) fNil))) (fCons (fL (fLst (fCons (fC (.int 2)) (fCons (fC (.int 3)) fNil)))) (fCons (fTup (fCons (fC (.int 2)) fNil)) (fCons (fTup (fCons (fC (.int 2)) (fCons (fC (.int 3)) (fCons (fC (.int 4)) fNil)))) (fCons (fTup (fCons (fC (.bool true)) (fCons (fC (.int 3)) fNil))) (fCons (fTup (fCons (fC (.int 3)) (fCons (fC (.str "2")) fNil))) (fCons (fC (.str "23")) (fCons (fC (.int 23)) fNil)))))))))))))))))
    (oSeq (oSet 3 (fBin ixD (fVarT 2) (fBin modD (fCall m_law_cell (fCons (fVar 0) (fCons (fC (.int 0)) fNil))) (fC (.int 14)))))
    (oFg [2] (oSeq (oFor (fUn itD (fL (fLst (fCons (fTup (fCons (fC (.int 0)) (fCons (fC (.int 8)) fNil))) (fCons (fTup (fCons (fC (.int 1)) (fCons (fC (.int 6)) fNil))) fNil))))) (gT 2 (gsC (gN 4) (gsC (gN 5) gs0))) (oIf (fTru (fL (fLc [8] (fUn rng1 (fVarT 5)) (gN 8) (fB (fBin neD (fCall m_law_told_v5 (fCons (fVar 4) (fCons (fVar 8) (fCons (fVar 1) (fCons (fC .none) (fCons (fVar 3) fNil)))))) (fL (fLst (fCons (fC (.bool true)) (fCons (fC (.bool false)) (fCons (fC (.bool true)) fNil))))))) (fVar 8)))) (oRet (fC (.bool false))) oNx))
    (oFg [4, 5] (oSeq (oSet 6 (fCall m_law_code (fCons (fVar 1) (fCons (fCall m_law_cell (fCons (fVar 0) (fCons (fC (.int 3)) fNil))) fNil))))
    (oSeq (oSet 7 (fL (fLst (fCons (fC .none) (fCons (fL (fUn listD (fVarT 6))) (fCons (fBin addD (fVarT 6) (fTup (fCons (fC (.int 0)) fNil))) (fCons (fSl (fVarT 6) (fSome (fC (.int 1))) fNone) (fCons (fBin addD (fSl (fVarT 6) (fSome (fC (.int 1))) fNone) (fTup (fCons (fBin ixD (fVarT 1) (fC (.int 1))) fNil))) (fCons (fBin addD (fSl (fVarT 6) (fSome (fC (.int 1))) fNone) (fTup (fCons (fUn negD (fC (.int 1))) fNil))) (fCons (fBin addD (fSl (fVarT 6) (fSome (fC (.int 1))) fNone) (fTup (fCons (fC (.bool false)) fNil))) fNil))))))))))
    (oSeq (oSet 7 (fBin addD (fVarT 7) (fL (fLst (fCons (fBin addD (fSl (fVarT 6) (fSome (fC (.int 1))) fNone) (fTup (fCons (fC (.str "0")) fNil))) (fCons (fBin mulD (fC (.str "a")) (fBin ixD (fVarT 1) (fC (.int 0)))) (fCons (fBin addD (fSl (fVarT 6) (fSome (fC (.int 1))) fNone) (fTup (fCons (fC .none) fNil))) fNil)))))))
    (oSeq (oSet 3 (fBin ixD (fVarT 7) (fBin modD (fCall m_law_cell (fCons (fVar 0) (fCons (fC (.int 1)) fNil))) (fC (.int 10)))))
    (oFg [0, 7] (oRet (fBin eqD (fL (fLc [8] (fUn rng1 (fC (.int 6))) (gN 8) (fB (fBin neD (fCall m_law_told_v5 (fCons (fC (.int 2)) (fCons (fVar 8) (fCons (fVar 1) (fCons (fVar 6) (fCons (fVar 3) fNil)))))) (fL (fLst (fCons (fC (.bool false)) (fCons (fC (.bool true)) (fCons (fC (.bool true)) fNil))))))) (fVar 8))) (fL (fLst fNil))))))))))))))))
def m_law_k01 : Fn := runF 1 9 u_law_k01
def u_law_answer : Sg → Out := (oSeq (oSet 2 (fC (.int 0))) (oSeq (oSetO 3 (fLst fNil)) (oSeq (oSetO 4 (fLst fNil)) (oSeq (oFor (fZip (fVar 0) (fVar 1)) (gT 2 (gsC (gN 5) (gsC (gN 6) gs0))) (oIf (fB (fBin eqD (fVarT 5) (fVarT 6))) (oSet 2 (fBin addD (fVarT 2) (fC (.int 1)))) (oSeq (oOwn 3 (fVar 5) appF) (oOwn 4 (fVar 6) appF)))) (oSeq (oSet 7 (fC (.int 0))) (oSeq (oFz 3 (oFor (fUn itD (fVar 3)) (gN 8) (oIf (fB (fBin inD (fVarT 8) (fVarT 4))) (oSeq (oOwn 4 (fVar 8) remF) (oSet 7 (fBin addD (fVarT 7) (fC (.int 1))))) oNx))) (oRet (fTup (fCons (fVar 2) (fCons (fVar 7) fNil))))))))))
def m_law_answer : Fn := runF 2 9 u_law_answer
def u_law_whole : Sg → Out := (oRet (fAndV (fIsi "int" (fVarT 0)) (fNotT (fIsi "bool" (fVarT 0)))))
def m_law_whole : Fn := runF 1 1 u_law_whole
def u_law_k02 : Sg → Out := (oSeq (oSet 1 (fCall m_law_game (fCons (fVar 0) (fCons (fC (.int 2)) fNil))))
    (oSeq (oSet 2 (fCall m_law_code (fCons (fVar 1) (fCons (fCall m_law_cell (fCons (fVar 0) (fCons (fC (.int 0)) fNil))) fNil))))
    (oSeq (oSet 3 (fCall m_law_code (fCons (fVar 1) (fCons (fCall m_law_cell (fCons (fVar 0) (fCons (fC (.int 1)) fNil))) fNil))))
    (oSeq (oIf (fB (fBin eqD (fBin modD (fCall m_law_cell (fCons (fVar 0) (fCons (fC (.int 1)) fNil))) (fC (.int 3))) (fC (.int 1)))) (oSeq (oSet 4 (fBin modD (fCall m_law_cell (fCons (fVar 0) (fCons (fC (.int 0)) fNil))) (fBin ixD (fVarT 1) (fC (.int 0))))) (oSet 3 (fBin addD (fSl (fVarT 2) (fSome (fVarT 4)) fNone) (fSl (fVarT 2) fNone (fSome (fVarT 4)))))) oNx)
    (oFg [0, 4] (oSeq (oSet 5 (fCall m_answer (fCons (fVar 1) (fCons (fVar 2) (fCons (fVar 3) fNil)))))
    (oSeq (oIf (fOr (fNot (fTru (fIsi "tuple" (fVarT 5)))) (fB (fBin neD (fVarT 5) (fCall m_law_answer (fCons (fVar 2) (fCons (fVar 3) fNil)))))) (oRet (fC (.bool false))) oNx)
    (oSeq (oIf (fTru (fL (fLc [6] (fUn itD (fVar 5)) (gN 6) (fNot (fTru (fCall m_law_whole (fCons (fVar 6) fNil)))) (fVar 6)))) (oRet (fC (.bool false))) oNx)
    (oFg [6] (oSeq (oIf (fOr (fB (fBin neD (fCall m_answer (fCons (fVar 1) (fCons (fVar 3) (fCons (fVar 2) fNil)))) (fVarT 5))) (fB (fBin neD (fBin eqD (fVarT 5) (fTup (fCons (fBin ixD (fVarT 1) (fC (.int 0))) (fCons (fC (.int 0)) fNil)))) (fBin eqD (fVarT 2) (fVarT 3))))) (oRet (fC (.bool false))) oNx)
    (oFg [2, 3] (oRet (fOrV (fAndV (fBin leD (fUn sumD (fVarT 5)) (fBin ixD (fVarT 1) (fC (.int 0)))) (fBin neD (fVarT 5) (fTup (fCons (fBin subD (fBin ixD (fVarT 1) (fC (.int 0))) (fC (.int 1))) (fCons (fC (.int 1)) fNil))))) (fAndV (fBin eqD (fBin ixD (fVarT 1) (fC (.int 0))) (fC (.int 1))) (fBin eqD (fVarT 5) (fTup (fCons (fC (.int 0)) (fCons (fC (.int 0)) fNil))))))))))))))))))
def m_law_k02 : Fn := runF 1 7 u_law_k02
def u_law_k03 : Sg → Out := (oSeq (oSet 1 (fCall m_law_game (fCons (fVar 0) (fCons (fC (.int 0)) fNil))))
    (oFg [0] (oSeq (oSet 2 (fCall m_law_codes (fCons (fVar 1) fNil)))
    (oSeq (oSetX 3 fX0)
    (oSeq (oFor (fUn itD (fVar 2)) (gN 4) (oFor (fUn itD (fVar 2)) (gN 5) (oStoreK 3 (fC (.bool true)) (fCall m_law_answer (fCons (fVar 4) (fCons (fVar 5) fNil))))))
    (oFg [2, 4, 5] (oSeq (oSet 6 (fCall m_all_answers (fCons (fVar 1) fNil)))
    (oSeq (oIf (fOr (fNot (fTru (fIsi "list" (fVarT 6)))) (fB (fBin neD (fVarT 6) (fL (fUn srtDk (fVarT 3)))))) (oRet (fC (.bool false))) oNx)
    (oFg [3] (oSeq (oIf (fB (fBin leD (fBin ixD (fVarT 1) (fC (.int 1))) (fBin ixD (fVarT 1) (fC (.int 0))))) (oRet (fBin leD (fUn lenD (fVarT 6)) (fBin fdivD (fBin mulD (fBin addD (fBin ixD (fVarT 1) (fC (.int 0))) (fC (.int 1))) (fBin addD (fBin ixD (fVarT 1) (fC (.int 0))) (fC (.int 2)))) (fC (.int 2))))) oNx)
    (oSeq (oSet 7 (fL (fLst fNil)))
    (oSeq (oFor (fUn rng1 (fBin addD (fBin ixD (fVarT 1) (fC (.int 0))) (fC (.int 1)))) (gN 8) (oSet 7 (fBin addD (fVarT 7) (fL (fLc [9] (fUn rng1 (fBin addD (fBin subD (fBin ixD (fVarT 1) (fC (.int 0))) (fVarT 8)) (fC (.int 1)))) (gN 9) (fB (fBin neD (fTup (fCons (fVar 8) (fCons (fVar 9) fNil))) (fTup (fCons (fBin subD (fBin ixD (fVarT 1) (fC (.int 0))) (fC (.int 1))) (fCons (fC (.int 1)) fNil))))) (fTup (fCons (fVar 8) (fCons (fVar 9) fNil))))))))
    (oFg [1, 8, 9] (oRet (fBin eqD (fVarT 6) (fVarT 7))))))))))))))))
def m_law_k03 : Fn := runF 1 10 u_law_k03
def u_law_asks : Sg → Out := (oSeq (oSet 3 (fCall m_law_code (fCons (fVar 2) (fCons (fCall m_law_cell (fCons (fVar 0) (fCons (fVar 1) fNil))) fNil)))) (oSeq (oSetO 4 (fLst fNil)) (oSeq (oFor (fUn rng1 (fCall m_law_mix (fCons (fCall m_law_cell (fCons (fVar 0) (fCons (fBin addD (fVarT 1) (fC (.int 1))) fNil))) (fCons (fC (.int 9949)) (fCons (fC (.int 5)) fNil))))) (gN 5) (oSeq (oSet 6 (fBin addD (fCall m_law_cell (fCons (fVar 0) (fCons (fBin addD (fBin addD (fVarT 1) (fC (.int 2))) (fVarT 5)) fNil))) (fBin mulD (fBin mulD (fC (.int 13)) (fVarT 5)) (fVarT 5)))) (oSeq (oSet 7 (fCall m_law_code (fCons (fVar 2) (fCons (fVar 6) fNil)))) (oSeq (oSet 8 (fCall m_law_answer (fCons (fVar 3) (fCons (fVar 7) fNil)))) (oSeq (oIf (fB (fBin eqD (fCall m_law_mix (fCons (fVar 6) (fCons (fC (.int 9941)) (fCons (fC (.int 7)) fNil)))) (fC (.int 1)))) (oSet 8 (fTup (fCons (fCall m_law_mix (fCons (fVar 6) (fCons (fC (.int 9931)) (fCons (fBin addD (fBin ixD (fVarT 2) (fC (.int 0))) (fC (.int 1))) fNil)))) (fCons (fCall m_law_mix (fCons (fVar 6) (fCons (fC (.int 9929)) (fCons (fBin addD (fBin ixD (fVarT 2) (fC (.int 0))) (fC (.int 1))) fNil)))) fNil)))) oNx) (oOwn 4 (fTup (fCons (fVar 7) (fCons (fVar 8) fNil))) appF)))))) (oRetV 4))))
def m_law_asks : Fn := runF 3 9 u_law_asks
def u_law_left : Sg → Out := (oRetO (fLc [2] (fUn itD (fCall m_law_codes (fCons (fVar 0) fNil))) (gN 2) (fNot (fTru (fL (fLc [3] (fUn itD (fVar 1)) (gN 3) (fB (fBin neD (fCall m_law_answer (fCons (fVar 2) (fCons (fBin ixD (fVarT 3) (fC (.int 0))) fNil))) (fBin ixD (fVarT 3) (fC (.int 1))))) (fVar 3))))) (fVar 2)))
def m_law_left : Fn := runF 2 4 u_law_left
def u_law_told : Sg → Out := (oTry [(1, [false, true]), (4, [true, true])] (oRet (fCall m_settled (fCons (fVar 0) (fCons (fVar 1) fNil)))))
def m_law_told : Fn := runF 2 3 u_law_told
def u_law_k04 : Sg → Out := (oSeq (oSet 1 (fCall m_law_game (fCons (fVar 0) (fCons (fC (.int 0)) fNil))))
    (oSeq (oSet 2 (fCall m_law_asks (fCons (fVar 0) (fCons (fC (.int 1)) (fCons (fVar 1) fNil)))))
    (oFg [0] (oSeq (oSet 3 (fCall m_law_left (fCons (fVar 1) (fCons (fVar 2) fNil))))
    (oSeq (oSet 4 (fCall m_what_fits (fCons (fVar 1) (fCons (fL (fUn listD (fVarT 2))) fNil))))
    (oSeq (oIf (fOr (fNot (fTru (fIsi "list" (fVarT 4)))) (fB (fBin neD (fVarT 4) (fVarT 3)))) (oRet (fC (.bool false))) oNx)
    (oFg [4] (oSeq (oSet 5 (fCall m_law_told (fCons (fVar 1) (fCons (fVar 2) fNil))))
    (oFg [1, 2] (oSeq (oIf (fB (fBin eqD (fVarT 3) (fL (fLst fNil)))) (oRet (fBin eqD (fVarT 5) (fL (fLst (fCons (fC (.bool true)) (fCons (fC (.bool true)) fNil)))))) oNx)
    (oSeq (oIf (fB (fBin gtD (fUn lenD (fVarT 3)) (fC (.int 1)))) (oRet (fBin isN (fVarT 5) (fC .none))) oNx)
    (oRet (fAndV (fBin eqD (fVarT 5) (fBin ixD (fVarT 3) (fC (.int 0)))) (fIsi "tuple" (fVarT 5)))))))))))))))
def m_law_k04 : Fn := runF 1 6 u_law_k04
def u_law_k05 : Sg → Out := (oSeq (oSet 1 (fCall m_law_game (fCons (fVar 0) (fCons (fC (.int 1)) fNil))))
    (oSeq (oSetO 2 (fCallO m_law_asks (fCons (fVar 0) (fCons (fC (.int 2)) (fCons (fVar 1) fNil)))))
    (oSeq (oIf (fAnd (fTru (fVarT 2)) (fB (fBin eqD (fBin modD (fCall m_law_cell (fCons (fVar 0) (fCons (fC (.int 0)) fNil))) (fC (.int 2))) (fC (.int 1))))) (oSeq (oSet 3 (fBin ixD (fBin ixD (fVarT 2) (fBin modD (fCall m_law_cell (fCons (fVar 0) (fCons (fC (.int 0)) fNil))) (fUn lenD (fVarT 2)))) (fC (.int 0)))) (oSeq (oSet 4 (fCall m_law_code (fCons (fVar 1) (fCons (fCall m_law_cell (fCons (fVar 0) (fCons (fC (.int 0)) fNil))) fNil)))) (oOwn 2 (fTup (fCons (fVar 3) (fCons (fCall m_law_answer (fCons (fVar 4) (fCons (fVar 3) fNil))) fNil))) appF))) oNx)
    (oFg [0, 3] (oSeq (oFz 2 (oSet 5 (fCall m_why_clash (fCons (fVar 1) (fCons (fVar 2) fNil)))))
    (oSeq (oFz 2 (oIf (fTru (fCall m_law_left (fCons (fVar 1) (fCons (fVar 2) fNil)))) (oRet (fBin isN (fVarT 5) (fC .none))) oNx))
    (oSeq (oSet 6 (fL (fLst (fCons (fL (fLst fNil)) fNil))))
    (oSeq (oFor (fUn rng1 (fUn lenD (fVarT 2))) (gN 7) (oSeq (oSet 4 (fL (fLst fNil))) (oSeq (oFor (fUn itD (fVar 6)) (gN 8) (oSet 4 (fBin addD (fVarT 4) (fL (fLc [9] (fUn rng1 (fUn lenD (fVarT 2))) (gN 9) (fOr (fNot (fTru (fVarT 8))) (fB (fBin gtD (fVarT 9) (fBin ixD (fVarT 8) (fUn negD (fC (.int 1))))))) (fBin addD (fVarT 8) (fL (fLst (fCons (fVar 9) fNil))))))))) (oSeq (oSet 6 (fVar 4)) (oFor (fUn itD (fVar 6)) (gN 8) (oIf (fNot (fTru (fCall m_law_left (fCons (fVar 1) (fCons (fL (fLc [9] (fUn itD (fVar 8)) (gN 9) tYesD (fBin ixD (fVarT 2) (fVarT 9)))) fNil))))) (oRet (fAndV (fIsi "list" (fVarT 5)) (fBin eqD (fVarT 5) (fVarT 8)))) oNx))))))
    (oFg [1, 2, 4, 5, 6, 7, 8, 9] (oRet (fC (.bool false))))))))))))
def m_law_k05 : Fn := runF 1 10 u_law_k05
def u_law_k06 : Sg → Out := (oSeq (oSet 1 (fCall m_law_game (fCons (fVar 0) (fCons (fC (.int 1)) fNil))))
    (oSeq (oSetO 2 (fCallO m_law_asks (fCons (fVar 0) (fCons (fC (.int 2)) (fCons (fVar 1) fNil)))))
    (oSeq (oIf (fAnd (fTru (fVarT 2)) (fB (fBin eqD (fBin modD (fCall m_law_cell (fCons (fVar 0) (fCons (fC (.int 0)) fNil))) (fC (.int 2))) (fC (.int 1))))) (oOwn 2 (fBin ixD (fVarT 2) (fBin modD (fCall m_law_cell (fCons (fVar 0) (fCons (fC (.int 0)) fNil))) (fUn lenD (fVarT 2)))) appF) oNx)
    (oFg [0] (oSeq (oFz 2 (oSet 3 (fCall m_law_left (fCons (fVar 1) (fCons (fVar 2) fNil)))))
    (oSeq (oSetO 4 (fLc [6] (fUn rng1 (fUn lenD (fVarT 2))) (gN 6) (fB (fBin eqD (fCall m_law_left (fCons (fVar 1) (fCons (fBin addD (fSl (fVarT 2) fNone (fSome (fVarT 6))) (fSl (fVarT 2) (fSome (fBin addD (fVarT 6) (fC (.int 1)))) fNone)) fNil))) (fVarT 3))) (fVar 6)))
    (oFg [3] (oSeq (oFz 2 (oSet 5 (fCall m_needless (fCons (fVar 1) (fCons (fVar 2) fNil)))))
    (oFg [1] (oSeq (oIf (fOr (fNot (fTru (fIsi "list" (fVarT 5)))) (fB (fBin neD (fVarT 5) (fVarT 4)))) (oRet (fC (.bool false))) oNx)
    (oFg [4] (oRet (fBin eqD (fL (fLc [6] (fUn rng1 (fUn lenD (fVarT 2))) (gN 6) (fAnd (fB (fBin gtD (fCntL (fVarT 2) (fBin ixD (fVarT 2) (fVarT 6))) (fC (.int 1)))) (fB (fBin ninD (fVarT 6) (fVarT 5)))) (fVar 6))) (fL (fLst fNil)))))))))))))))
def m_law_k06 : Fn := runF 1 7 u_law_k06
def u_look_asks_v2 : Sg → Out := (oSeq (oEx (fCall m_checked_game (fCons (fVar 0) fNil))) (oSeq (oIf (fOr (fNot (fTru (fIsi "list" (fVarT 1)))) (fB (fBin gtD (fUn lenD (fVarT 1)) (fC (.int 8))))) (oRsA 3 (fC (.int 0))) oNx) (oFor (fUn enD (fVar 1)) (gT 2 (gsC (gN 2) (gsC (gN 3) gs0))) (oIf (fNot (fTru (fCall m_is_ask (fCons (fVar 0) (fCons (fVar 3) fNil))))) (oRsA 3 (fVar 2)) oNx))))
def m_look_asks_v2 : Fn := runF 2 4 u_look_asks_v2
def u_what_fits_v2 : Sg → Out := (oSeq (oEx (fCall m_look_asks_v2 (fCons (fVar 0) (fCons (fVar 1) fNil)))) (oRet (fCall m_left_by (fCons (fVar 0) (fCons (fVar 1) fNil)))))
def m_what_fits_v2 : Fn := runF 2 2 u_what_fits_v2
def u_settled_v2 : Sg → Out := (oSeq (oSet 2 (fCall m_what_fits_v2 (fCons (fVar 0) (fCons (fVar 1) fNil)))) (oSeq (oIf (fNot (fTru (fVarT 2))) (oRs 4) oNx) (oSeq (oIf (fB (fBin gtD (fUn lenD (fVarT 2)) (fC (.int 1)))) (oRet (fC .none)) oNx) (oRet (fBin ixD (fVarT 2) (fC (.int 0)))))))
def m_settled_v2 : Fn := runF 2 3 u_settled_v2
def u_why_clash_v2 : Sg → Out := (oSeq (oIf (fTru (fCall m_what_fits_v2 (fCons (fVar 0) (fCons (fVar 1) fNil)))) (oRet (fC .none)) oNx) (oFor (fRng2 (fC (.int 1)) (fBin addD (fUn lenD (fVarT 1)) (fC (.int 1)))) (gN 2) (oFor (fUn itD (fCall m_choices (fCons (fUn lenD (fVarT 1)) (fCons (fVar 2) fNil)))) (gN 3) (oIf (fNot (fTru (fCall m_left_by (fCons (fVar 0) (fCons (fL (fLc [4] (fUn itD (fVar 3)) (gN 4) tYesD (fBin ixD (fVarT 1) (fVarT 4)))) fNil))))) (oRetO (fUn listD (fVarT 3))) oNx))))
def m_why_clash_v2 : Fn := runF 2 5 u_why_clash_v2
def u_needless_v2 : Sg → Out := (oSeq (oSet 2 (fCall m_what_fits_v2 (fCons (fVar 0) (fCons (fVar 1) fNil)))) (oSeq (oSetO 3 (fLst fNil)) (oSeq (oFor (fUn rng1 (fUn lenD (fVarT 1))) (gN 4) (oIf (fB (fBin eqD (fCall m_left_by (fCons (fVar 0) (fCons (fBin addD (fSl (fVarT 1) fNone (fSome (fVarT 4))) (fSl (fVarT 1) (fSome (fBin addD (fVarT 4) (fC (.int 1)))) fNone)) fNil))) (fVarT 2))) (oOwn 3 (fVar 4) appF) oNx)) (oRetV 3))))
def m_needless_v2 : Fn := runF 2 5 u_needless_v2
def u_split_v2 : Sg → Out := (oSeq (oSet 3 (fCall m_what_fits_v2 (fCons (fVar 0) (fCons (fVar 1) fNil)))) (oSeq (oEx (fCall m_look_code (fCons (fVar 0) (fCons (fVar 2) fNil)))) (oSeq (oSet 4 (fCall m_parts_by (fCons (fVar 3) (fCons (fVar 2) fNil)))) (oRetO (fLc [5] (fUn itD (fL (fUn srtDk (fVarT 4)))) (gN 5) tYesD (fTup (fCons (fVar 5) (fCons (fUn lenD (fIxK (fVarT 4) (fVar 5))) fNil))))))))
def m_split_v2 : Fn := runF 3 6 u_split_v2
def u_look_left_v2 : Sg → Out := (oSeq (oSet 2 (fCall m_what_fits_v2 (fCons (fVar 0) (fCons (fVar 1) fNil)))) (oSeq (oIf (fNot (fTru (fVarT 2))) (oRs 4) oNx) (oRet (fVar 2))))
def m_look_left_v2 : Fn := runF 2 3 u_look_left_v2
def u_foe_answer_v2 : Sg → Out := (oSeq (oSet 3 (fCall m_what_fits_v2 (fCons (fVar 0) (fCons (fVar 1) fNil)))) (oSeq (oEx (fCall m_look_code (fCons (fVar 0) (fCons (fVar 2) fNil)))) (oSeq (oEx (fCall m_look_left_v2 (fCons (fVar 0) (fCons (fVar 1) fNil)))) (oSeq (oSet 4 (fCall m_parts_by (fCons (fVar 3) (fCons (fVar 2) fNil)))) (oSeq (oSet 5 (fUn maxA (fL (fLc [6] (fUn keysR (fVar 4)) (gN 6) tYesD (fUn lenD (fIxK (fVarT 4) (fVar 6))))))) (oRet (fUn minA (fL (fLc [6] (fUn keysR (fVar 4)) (gN 6) (fB (fBin eqD (fUn lenD (fIxK (fVarT 4) (fVar 6))) (fVarT 5))) (fVar 6))))))))))
def m_foe_answer_v2 : Fn := runF 3 7 u_foe_answer_v2
def u_law_deed_v4 : Sg → Out := (oSeq (oIf (fB (fBin eqD (fVarT 0) (fC (.int 0)))) (oRet (fCall m_what_fits_v2 (fCons (fVar 1) (fCons (fVar 2) fNil)))) oNx) (oSeq (oIf (fB (fBin eqD (fVarT 0) (fC (.int 1)))) (oRet (fCall m_settled_v2 (fCons (fVar 1) (fCons (fVar 2) fNil)))) oNx) (oSeq (oIf (fB (fBin eqD (fVarT 0) (fC (.int 2)))) (oRet (fCall m_why_clash_v2 (fCons (fVar 1) (fCons (fVar 2) fNil)))) oNx) (oSeq (oIf (fB (fBin eqD (fVarT 0) (fC (.int 3)))) (oRet (fCall m_needless_v2 (fCons (fVar 1) (fCons (fVar 2) fNil)))) oNx) (oSeq (oIf (fB (fBin eqD (fVarT 0) (fC (.int 4)))) (oRet (fCall m_split_v2 (fCons (fVar 1) (fCons (fVar 2) (fCons (fC .none) fNil))))) oNx) (oRet (fCall m_foe_answer_v2 (fCons (fVar 1) (fCons (fVar 2) (fCons (fC .none) fNil))))))))))
def m_law_deed_v4 : Fn := runF 3 3 u_law_deed_v4
def u_best_guess_v2 : Sg → Out := (oRet (fCall m_best_of (fCons (fVar 0) (fCons (fCall m_look_left_v2 (fCons (fVar 0) (fCons (fVar 1) fNil))) fNil))))
def m_best_guess_v2 : Fn := runF 2 2 u_best_guess_v2
def u_look_planned_v2 : Sg → Out := (oSeq (oSet 2 (fCall m_look_left_v2 (fCons (fVar 0) (fCons (fVar 1) fNil)))) (oSeq (oIf (fB (fBin gtD (fUn lenD (fCall m_listed (fCons (fVar 0) fNil))) (fC (.int 16)))) (oRs 5) oNx) (oRet (fVar 2))))
def m_look_planned_v2 : Fn := runF 2 3 u_look_planned_v2
def u_fewest_asks : Sg → Out := (oSeq (oSet 2 (fCall m_look_planned_v2 (fCons (fVar 0) (fCons (fVar 1) fNil)))) oNo)
def m_fewest_asks : Fn := runF 2 4 u_fewest_asks
def u_a_plan_v2 : Sg → Out := (oSeq (oSet 2 (fCall m_look_planned_v2 (fCons (fVar 0) (fCons (fVar 1) fNil)))) oNo)
def m_a_plan_v2 : Fn := runF 2 3 u_a_plan_v2
def u_is_order : Sg → Out := (oSeq (oIf (fOr (fNot (fTru (fIsi "tuple" (fVarT 0)))) (fB (fBin neD (fUn lenD (fVarT 0)) (fVarT 1)))) (oRet (fC (.bool false))) oNx) (oSeq (oIf (fTru (fL (fLc [2] (fUn itD (fVar 0)) (gN 2) (fOr (fNot (fTru (fIsi "int" (fVarT 2)))) (fTru (fIsi "bool" (fVarT 2)))) (fVar 2)))) (oRet (fC (.bool false))) oNx) (oRet (fBin eqD (fL (fUn srtTI (fVarT 0))) (fL (fUn rng1 (fVarT 1)))))))
def m_is_order : Fn := runF 2 3 u_is_order
def u_renamed_code : Sg → Out := (oSeq (oSetO 3 (fLc [5] (fUn itD (fVar 1)) (gN 5) tYesD (fC (.int 0)))) (oSeq (oFor (fUn enD (fVar 1)) (gT 2 (gsC (gN 4) (gsC (gN 5) gs0))) (oStore 3 (fBin ixD (fVarT 2) (fBin ixD (fVarT 0) (fVarT 4))) (fVarT 5))) (oRet (fUn tupleD (fVarT 3)))))
def m_renamed_code : Fn := runF 3 6 u_renamed_code
def u_renamed_v2 : Sg → Out := (oSeq (oEx (fCall m_look_asks_v2 (fCons (fVar 0) (fCons (fVar 1) fNil)))) (oSeq (oIf (fOr (fNot (fTru (fCall m_is_order (fCons (fVar 2) (fCons (fBin ixD (fVarT 0) (fC (.int 0))) fNil))))) (fNot (fTru (fCall m_is_order (fCons (fVar 3) (fCons (fBin ixD (fVarT 0) (fC (.int 1))) fNil)))))) (oRs 2) oNx) (oRetO (fLc [4, 5] (fUn itD (fVar 1)) (gT 2 (gsC (gN 4) (gsC (gN 5) gs0))) tYesD (fTup (fCons (fCall m_renamed_code (fCons (fVar 4) (fCons (fVar 2) (fCons (fVar 3) fNil)))) (fCons (fVar 5) fNil)))))))
def m_renamed_v2 : Fn := runF 4 6 u_renamed_v2
def u_shown_v2 : Sg → Out := (oSeq (oEx (fCall m_look_asks_v2 (fCons (fVar 0) (fCons (fVar 1) fNil)))) (oSeq (oSet 2 (fC (.str ""))) (oSeq (oFor (fUn itD (fVar 1)) (gT 2 (gsC (gN 3) (gsC (gN 4) gs0))) (oSet 2 (fBin addD (fBin addD (fBin addD (fBin addD (fBin addD (fBin addD (fVarT 2) (fM1 joinS (fC (.str "")) (fL (fLc [5] (fUn itD (fVar 3)) (gN 5) tYesD (fBin ixD (fC (.str "abcdefgh")) (fVarT 5)))))) (fC (.str " "))) (fUn strD (fBin ixD (fVarT 4) (fC (.int 0))))) (fC (.str " "))) (fUn strD (fBin ixD (fVarT 4) (fC (.int 1))))) (fC (.str "\n"))))) (oRet (fVar 2)))))
def m_shown_v2 : Fn := runF 2 6 u_shown_v2
def u_law_more_v2 : Sg → Out := (oSeq (oIf (fB (fBin eqD (fVarT 0) (fC (.int 0)))) (oRet (fCall m_best_guess_v2 (fCons (fVar 1) (fCons (fVar 2) fNil)))) oNx) (oSeq (oIf (fB (fBin eqD (fVarT 0) (fC (.int 1)))) (oRet (fCall m_fewest_asks (fCons (fVar 1) (fCons (fVar 2) fNil)))) oNx) (oSeq (oIf (fB (fBin eqD (fVarT 0) (fC (.int 2)))) (oRet (fCall m_a_plan_v2 (fCons (fVar 1) (fCons (fVar 2) fNil)))) oNx) (oSeq (oIf (fB (fBin eqD (fVarT 0) (fC (.int 3)))) (oRet (fCall m_renamed_v2 (fCons (fVar 1) (fCons (fVar 2) (fCons (fC .none) (fCons (fC .none) fNil)))))) oNx) (oRet (fCall m_shown_v2 (fCons (fVar 1) (fCons (fVar 2) fNil))))))))
def m_law_more_v2 : Fn := runF 3 3 u_law_more_v2
def u_look_guesses_v2 : Sg → Out := (oSeq (oEx (fCall m_checked_game (fCons (fVar 0) fNil))) (oSeq (oIf (fOr (fNot (fTru (fIsi "list" (fVarT 1)))) (fB (fBin gtD (fUn lenD (fVarT 1)) (fC (.int 8))))) (oRsA 3 (fC (.int 0))) oNx) (oFor (fUn enD (fVar 1)) (gT 2 (gsC (gN 2) (gsC (gN 3) gs0))) (oIf (fNot (fTru (fCall m_is_code (fCons (fVar 0) (fCons (fVar 3) fNil))))) (oRsA 3 (fVar 2)) oNx))))
def m_look_guesses_v2 : Fn := runF 2 4 u_look_guesses_v2
def u_alike_by_v2 : Sg → Out := (oSeq (oEx (fCall m_look_guesses_v2 (fCons (fVar 0) (fCons (fVar 1) fNil)))) (oSeq (oSetO 2 (fLc [3] (fUn valsR (fCall m_rows_by (fCons (fVar 0) (fCons (fVar 1) fNil)))) (gN 3) (fB (fBin gtD (fUn lenD (fVarT 3)) (fC (.int 1)))) (fSl (fVarT 3) fNone (fSome (fC (.int 2)))))) (oSeq (oIf (fNot (fTru (fVarT 2))) (oRet (fC .none)) oNx) (oRet (fUn tupleD (fUn minA (fVarT 2)))))))
def m_alike_by_v2 : Fn := runF 2 4 u_alike_by_v2
def u_settle_all_v2 : Sg → Out := (oRet (fBin isN (fCall m_alike_by_v2 (fCons (fVar 0) (fCons (fVar 1) fNil))) (fC .none)))
def m_settle_all_v2 : Fn := runF 2 2 u_settle_all_v2
def u_law_told_v6 : Sg → Out := (oSeq (oTryA 3 true true (oIf (fB (fBin eqD (fVarT 0) (fC (.int 0)))) (oEx (fCall m_law_deed_v4 (fCons (fVar 1) (fCons (fVar 2) (fCons (fVar 3) fNil))))) (oIf (fB (fBin eqD (fVarT 0) (fC (.int 1)))) (oEx (fCall m_law_more_v2 (fCons (fVar 1) (fCons (fVar 2) (fCons (fVar 3) fNil))))) (oIf (fB (fBin eqD (fVarT 1) (fC (.int 0)))) (oEx (fCall m_settle_all_v2 (fCons (fVar 2) (fCons (fVar 3) fNil)))) (oEx (fCall m_alike_by_v2 (fCons (fVar 2) (fCons (fVar 3) fNil)))))))) (oRetO (fLst fNil)))
def m_law_told_v6 : Fn := runF 4 5 u_law_told_v6
def u_law_k07 : Sg → Out := (oSeq (oSet 1 (fCall m_law_game (fCons (fVar 0) (fCons (fC (.int 2)) fNil))))
    (oSeq (oSet 2 (fCall m_law_asks (fCons (fVar 0) (fCons (fC (.int 3)) (fCons (fVar 1) fNil)))))
    (oSeq (oSet 3 (fCall m_law_code (fCons (fVar 1) (fCons (fCall m_law_cell (fCons (fVar 0) (fCons (fC (.int 0)) fNil))) fNil))))
    (oSeq (oSet 4 (fBin modD (fCall m_law_cell (fCons (fVar 0) (fCons (fC (.int 1)) fNil))) (fBin addD (fUn lenD (fVarT 2)) (fC (.int 1)))))
    (oSeq (oSet 5 (fL (fLst (fCons (fC .none) (fCons (fVar 3) (fCons (fTup (fCons (fVar 3) fNil)) (fCons (fL (fLst (fCons (fVar 3) (fCons (fTup (fCons (fC (.int 0)) (fCons (fC (.int 0)) fNil))) fNil)))) (fCons (fTup (fCons (fVar 3) (fCons (fTup (fCons (fC (.int 0)) (fCons (fC (.int 0)) fNil))) (fCons (fC (.int 0)) fNil)))) (fCons (fTup (fCons (fBin addD (fVarT 3) (fTup (fCons (fC (.int 0)) fNil))) (fCons (fTup (fCons (fC (.int 0)) (fCons (fC (.int 0)) fNil))) fNil))) (fCons (fTup (fCons (fVar 3) (fCons (fL (fLst (fCons (fC (.int 0)) (fCons (fC (.int 0)) fNil)))) fNil))) (fCons (fTup (fCons (fVar 3) (fCons (fTup (fCons (fC (.int 0)) fNil)) fNil))) fNil)))))))))))
    (oSeq (oSet 5 (fBin addD (fVarT 5) (fL (fLst (fCons (fTup (fCons (fVar 3) (fCons (fTup (fCons (fBin addD (fBin ixD (fVarT 1) (fC (.int 0))) (fC (.int 1))) (fCons (fC (.int 0)) fNil))) fNil))) (fCons (fTup (fCons (fVar 3) (fCons (fTup (fCons (fC (.int 0)) (fCons (fUn negD (fC (.int 1))) fNil))) fNil))) (fCons (fTup (fCons (fVar 3) (fCons (fTup (fCons (fC (.int 0)) (fCons (fC (.bool true)) fNil))) fNil))) (fCons (fTup (fCons (fC .none) (fCons (fTup (fCons (fC (.int 0)) (fCons (fC (.int 0)) fNil))) fNil))) fNil))))))))
    (oSeq (oSet 6 (fBin addD (fBin addD (fSl (fVarT 2) fNone (fSome (fVarT 4))) (fL (fLst (fCons (fBin ixD (fVarT 5) (fBin modD (fCall m_law_cell (fCons (fVar 0) (fCons (fC (.int 0)) fNil))) (fC (.int 12)))) fNil)))) (fSl (fVarT 2) (fSome (fVarT 4)) fNone)))
    (oSeq (oSet 7 (fL (fLst (fCons (fTup (fCons (fVar 6) (fCons (fVar 4) fNil))) (fCons (fTup (fCons (fUn tupleD (fVarT 2)) (fCons (fC (.int 0)) fNil))) (fCons (fTup (fCons (fC .none) (fCons (fC (.int 0)) fNil))) (fCons (fTup (fCons (fBin mulD (fL (fLst (fCons (fTup (fCons (fVar 3) (fCons (fTup (fCons (fC (.int 0)) (fCons (fC (.int 0)) fNil))) fNil))) fNil))) (fC (.int 9))) (fCons (fC (.int 0)) fNil))) (fCons (fTup (fCons (fBin addD (fVarT 6) (fL (fLst (fCons (fC .none) fNil)))) (fCons (fVar 4) fNil))) (fCons (fTup (fCons (fVar 6) (fCons (fVar 4) fNil))) fNil)))))))))
    (oSeq (oAsg (fBin ixD (fVarT 7) (fBin modD (fCall m_law_cell (fCons (fVar 0) (fCons (fC (.int 1)) fNil))) (fC (.int 6)))) (gT 2 (gsC (gN 8) (gsC (gN 9) gs0))))
    (oSeq (oFor (fUn itD (fL (fLst (fCons (fTup (fCons (fC (.int 0)) (fCons (fC (.int 6)) fNil))) (fCons (fTup (fCons (fC (.int 1)) (fCons (fC (.int 5)) fNil))) fNil))))) (gT 2 (gsC (gN 10) (gsC (gN 11) gs0))) (oIf (fTru (fL (fLc [13] (fUn rng1 (fVarT 11)) (gN 13) (fB (fBin neD (fCall m_law_told_v6 (fCons (fVar 10) (fCons (fVar 13) (fCons (fVar 1) (fCons (fVar 8) fNil))))) (fL (fLst (fCons (fC (.bool true)) (fCons (fC (.bool true)) (fCons (fVar 9) fNil))))))) (fVar 13)))) (oRet (fC (.bool false))) oNx))
    (oFg [10, 11] (oSeq (oSetO 12 (fLc [14] (fUn itD (fVar 2)) (gN 14) tYesD (fBin ixD (fVarT 14) (fC (.int 0)))))
    (oFg [2, 14] (oSeq (oSet 5 (fL (fLst (fCons (fC .none) (fCons (fL (fUn listD (fVarT 3))) (fCons (fBin addD (fVarT 3) (fTup (fCons (fC (.int 0)) fNil))) (fCons (fSl (fVarT 3) (fSome (fC (.int 1))) fNone) (fCons (fTup (fCons (fVar 3) (fCons (fTup (fCons (fC (.int 0)) (fCons (fC (.int 0)) fNil))) fNil))) fNil))))))))
    (oSeq (oSet 6 (fBin addD (fBin addD (fSl (fVarT 12) fNone (fSome (fVarT 4))) (fL (fLst (fCons (fBin ixD (fVarT 5) (fBin modD (fCall m_law_cell (fCons (fVar 0) (fCons (fC (.int 0)) fNil))) (fC (.int 5)))) fNil)))) (fSl (fVarT 12) (fSome (fVarT 4)) fNone)))
    (oFg [5] (oSeq (oSet 7 (fL (fLst (fCons (fTup (fCons (fVar 6) (fCons (fVar 4) fNil))) (fCons (fTup (fCons (fUn tupleD (fVarT 12)) (fCons (fC (.int 0)) fNil))) (fCons (fTup (fCons (fBin mulD (fL (fLst (fCons (fVar 3) fNil))) (fC (.int 9))) (fCons (fC (.int 0)) fNil))) (fCons (fTup (fCons (fBin addD (fVarT 6) (fL (fLst (fCons (fC .none) fNil)))) (fCons (fVar 4) fNil))) fNil)))))))
    (oFg [3, 4, 6, 12] (oSeq (oAsg (fBin ixD (fVarT 7) (fBin modD (fCall m_law_cell (fCons (fVar 0) (fCons (fC (.int 1)) fNil))) (fC (.int 4)))) (gT 2 (gsC (gN 8) (gsC (gN 9) gs0))))
    (oFg [0, 7] (oRet (fBin eqD (fL (fLc [13] (fUn rng1 (fC (.int 2))) (gN 13) (fB (fBin neD (fCall m_law_told_v6 (fCons (fC (.int 2)) (fCons (fVar 13) (fCons (fVar 1) (fCons (fVar 8) fNil))))) (fL (fLst (fCons (fC (.bool true)) (fCons (fC (.bool true)) (fCons (fVar 9) fNil))))))) (fVar 13))) (fL (fLst fNil))))))))))))))))))))))))
def m_law_k07 : Fn := runF 1 15 u_law_k07
def m_law_parts : Fn := partsD m_law_answer
def u_law_told_v2 : Sg → Out := (oTry [(2, [false, true]), (1, [false, true]), (4, [true, true])] (oRet (fCall m_foe_answer (fCons (fVar 0) (fCons (fVar 1) (fCons (fVar 2) fNil))))))
def m_law_told_v2 : Fn := runF 3 4 u_law_told_v2
def u_law_k08 : Sg → Out := (oSeq (oSet 1 (fCall m_law_game (fCons (fVar 0) (fCons (fC (.int 1)) fNil))))
    (oSeq (oSet 2 (fCall m_law_asks (fCons (fVar 0) (fCons (fC (.int 2)) (fCons (fVar 1) fNil)))))
    (oSeq (oSet 3 (fCall m_law_code (fCons (fVar 1) (fCons (fCall m_law_cell (fCons (fVar 0) (fCons (fC (.int 0)) fNil))) fNil))))
    (oFg [0] (oSeq (oSet 4 (fCall m_law_parts (fCons (fCall m_law_left (fCons (fVar 1) (fCons (fVar 2) fNil))) (fCons (fVar 3) fNil))))
    (oSeq (oSet 5 (fCall m_split (fCons (fVar 1) (fCons (fVar 2) (fCons (fVar 3) fNil)))))
    (oSeq (oIf (fOr (fNot (fTru (fIsi "list" (fVarT 5)))) (fB (fBin neD (fVarT 5) (fL (fLc [8] (fUn itD (fL (fUn srtDk (fVarT 4)))) (gN 8) tYesD (fTup (fCons (fVar 8) (fCons (fUn lenD (fIxK (fVarT 4) (fVar 8))) fNil)))))))) (oRet (fC (.bool false))) oNx)
    (oSeq (oSet 6 (fCall m_law_told_v2 (fCons (fVar 1) (fCons (fVar 2) (fCons (fVar 3) fNil)))))
    (oFg [1, 2, 3] (oSeq (oIf (fB (fUn isE (fVarT 4))) (oRet (fBin eqD (fVarT 6) (fL (fLst (fCons (fC (.bool true)) (fCons (fC (.bool true)) fNil)))))) oNx)
    (oFg [4] (oSeq (oSet 7 (fUn maxA (fL (fLc [8, 9] (fUn itD (fVar 5)) (gT 2 (gsC (gN 8) (gsC (gN 9) gs0))) tYesD (fVar 9)))))
    (oRet (fBin eqD (fVarT 6) (fBin ixD (fL (fLc [8, 9] (fUn itD (fVar 5)) (gT 2 (gsC (gN 8) (gsC (gN 9) gs0))) (fB (fBin eqD (fVarT 9) (fVarT 7))) (fVar 8))) (fC (.int 0)))))))))))))))))
def m_law_k08 : Fn := runF 1 10 u_law_k08
def u_law_told_v3 : Sg → Out := (oTry [(1, [false, true]), (4, [true, true])] (oRet (fCall m_best_guess (fCons (fVar 0) (fCons (fVar 1) fNil)))))
def m_law_told_v3 : Fn := runF 2 3 u_law_told_v3
def u_law_k09 : Sg → Out := (oSeq (oSet 1 (fBin ixD (fL (fLst (fCons (fTup (fCons (fC (.int 2)) (fCons (fC (.int 3)) fNil))) (fCons (fTup (fCons (fC (.int 3)) (fCons (fC (.int 2)) fNil))) (fCons (fTup (fCons (fC (.int 3)) (fCons (fC (.int 3)) fNil))) (fCons (fTup (fCons (fC (.int 2)) (fCons (fC (.int 4)) fNil))) (fCons (fTup (fCons (fC (.int 4)) (fCons (fC (.int 2)) fNil))) (fCons (fTup (fCons (fC (.int 1)) (fCons (fC (.int 5)) fNil))) (fCons (fTup (fCons (fC (.int 2)) (fCons (fC (.int 5)) fNil))) fNil))))))))) (fCall m_law_mix (fCons (fCall m_law_cell (fCons (fVar 0) (fCons (fC (.int 0)) fNil))) (fCons (fC (.int 9973)) (fCons (fC (.int 7)) fNil))))))
    (oSeq (oSet 2 (fCall m_law_asks (fCons (fVar 0) (fCons (fC (.int 1)) (fCons (fVar 1) fNil)))))
    (oFg [0] (oSeq (oSet 3 (fCall m_law_left (fCons (fVar 1) (fCons (fVar 2) fNil))))
    (oSeq (oSet 4 (fCall m_law_told_v3 (fCons (fVar 1) (fCons (fVar 2) fNil))))
    (oFg [2] (oSeq (oIf (fB (fBin eqD (fVarT 3) (fL (fLst fNil)))) (oRet (fBin eqD (fVarT 4) (fL (fLst (fCons (fC (.bool true)) (fCons (fC (.bool true)) fNil)))))) oNx)
    (oSeq (oSetO 5 (fLst fNil))
    (oSeq (oFor (fUn itD (fCall m_law_codes (fCons (fVar 1) fNil))) (gN 6) (oSeq (oSet 7 (fCall m_law_parts (fCons (fVar 3) (fCons (fVar 6) fNil)))) (oOwn 5 (fTup (fCons (fUn maxA (fL (fLc [8] (fUn keysR (fVar 7)) (gN 8) tYesD (fUn lenD (fIxK (fVarT 7) (fVar 8)))))) (fCons (fBin ninD (fVarT 6) (fVarT 3)) (fCons (fVar 6) fNil)))) appF)))
    (oFg [1, 3, 6, 7, 8] (oRet (fAndV (fIsi "tuple" (fVarT 4)) (fBin eqD (fVarT 4) (fBin ixD (fUn minA (fVarT 5)) (fC (.int 2))))))))))))))))
def m_law_k09 : Fn := runF 1 9 u_law_k09
def u_law_k10 : Sg → Out := (oSeq (oSet 1 (fBin ixD (fL (fLst (fCons (fTup (fCons (fC (.int 2)) (fCons (fC (.int 3)) fNil))) (fCons (fTup (fCons (fC (.int 3)) (fCons (fC (.int 2)) fNil))) (fCons (fTup (fCons (fC (.int 3)) (fCons (fC (.int 3)) fNil))) (fCons (fTup (fCons (fC (.int 2)) (fCons (fC (.int 4)) fNil))) (fCons (fTup (fCons (fC (.int 4)) (fCons (fC (.int 2)) fNil))) (fCons (fTup (fCons (fC (.int 1)) (fCons (fC (.int 5)) fNil))) (fCons (fTup (fCons (fC (.int 2)) (fCons (fC (.int 5)) fNil))) fNil))))))))) (fCall m_law_mix (fCons (fCall m_law_cell (fCons (fVar 0) (fCons (fC (.int 0)) fNil))) (fCons (fC (.int 9973)) (fCons (fC (.int 7)) fNil))))))
    (oSeq (oIf (fB (fBin eqD (fBin modD (fCall m_law_cell (fCons (fVar 0) (fCons (fC (.int 1)) fNil))) (fC (.int 16))) (fC (.int 1)))) (oSet 1 (fTup (fCons (fBin addD (fBin modD (fCall m_law_cell (fCons (fVar 0) (fCons (fC (.int 2)) fNil))) (fC (.int 5))) (fC (.int 1))) (fCons (fC (.int 1)) fNil)))) oNx)
    (oSeq (oSet 2 (fCall m_law_code (fCons (fVar 1) (fCons (fCall m_law_cell (fCons (fVar 0) (fCons (fC (.int 2)) fNil))) fNil))))
    (oFg [0] (oSeq (oSet 3 (fCall m_played (fCons (fVar 1) (fCons (fVar 2) fNil))))
    (oSeq (oIf (fOr (fNot (fTru (fIsi "list" (fVarT 3)))) (fOr (fB (fBin neD (fCall m_settled (fCons (fVar 1) (fCons (fVar 3) fNil))) (fVarT 2))) (fB (fBin notN (fCall m_why_clash (fCons (fVar 1) (fCons (fVar 3) fNil))) (fC .none))))) (oRet (fC (.bool false))) oNx)
    (oSeq (oSet 4 (fUn lenD (fCall m_all_codes (fCons (fVar 1) fNil))))
    (oSeq (oIf (fB (fBin eqD (fVarT 4) (fC (.int 1)))) (oRet (fBin eqD (fVarT 3) (fL (fLst fNil)))) oNx)
    (oSeq (oFor (fUn rng1 (fUn lenD (fVarT 3))) (gN 5) (oSeq (oSet 6 (fSl (fVarT 3) fNone (fSome (fVarT 5)))) (oSeq (oIf (fOr (fB (fBin neD (fBin ixD (fBin ixD (fVarT 3) (fVarT 5)) (fC (.int 0))) (fCall m_best_guess (fCons (fVar 1) (fCons (fVar 6) fNil))))) (fB (fBin neD (fBin ixD (fBin ixD (fVarT 3) (fVarT 5)) (fC (.int 1))) (fCall m_law_answer (fCons (fVar 2) (fCons (fBin ixD (fBin ixD (fVarT 3) (fVarT 5)) (fC (.int 0))) fNil)))))) (oRet (fC (.bool false))) oNx) (oSeq (oSet 7 (fUn lenD (fCall m_what_fits (fCons (fVar 1) (fCons (fSl (fVarT 3) fNone (fSome (fBin addD (fVarT 5) (fC (.int 1))))) fNil))))) (oSeq (oIf (fOr (fB (fBin notN (fCall m_settled (fCons (fVar 1) (fCons (fVar 6) fNil))) (fC .none))) (fB (fBin geD (fVarT 7) (fVarT 4)))) (oRet (fC (.bool false))) oNx) (oSeq (oIf (fB (fBin ninD (fTup (fCons (fBin ixD (fBin ixD (fVarT 3) (fVarT 5)) (fC (.int 1))) (fCons (fVar 7) fNil))) (fCall m_split (fCons (fVar 1) (fCons (fVar 6) (fCons (fBin ixD (fBin ixD (fVarT 3) (fVarT 5)) (fC (.int 0))) fNil)))))) (oRet (fC (.bool false))) oNx) (oSet 4 (fVar 7))))))))
    (oFg [1, 2, 5, 6, 7] (oRet (fAndV (fBin eqD (fVarT 4) (fC (.int 1))) (fBin neD (fVarT 3) (fL (fLst fNil)))))))))))))))
def m_law_k10 : Fn := runF 1 8 u_law_k10
def u_law_small : Sg → Out := (oSeq (oSet 2 (fL (fLst (fCons (fTup (fCons (fC (.int 2)) (fCons (fC (.int 3)) fNil))) (fCons (fTup (fCons (fC (.int 3)) (fCons (fC (.int 2)) fNil))) (fCons (fTup (fCons (fC (.int 2)) (fCons (fC (.int 4)) fNil))) (fCons (fTup (fCons (fC (.int 4)) (fCons (fC (.int 2)) fNil))) (fCons (fTup (fCons (fC (.int 1)) (fCons (fC (.int 5)) fNil))) (fCons (fTup (fCons (fC (.int 2)) (fCons (fC (.int 2)) fNil))) (fCons (fTup (fCons (fC (.int 1)) (fCons (fC (.int 3)) fNil))) (fCons (fTup (fCons (fC (.int 2)) (fCons (fC (.int 3)) fNil))) fNil))))))))))) (oRet (fBin ixD (fVarT 2) (fCall m_law_mix (fCons (fCall m_law_cell (fCons (fVar 0) (fCons (fVar 1) fNil))) (fCons (fC (.int 9973)) (fCons (fC (.int 8)) fNil)))))))
def m_law_small : Fn := runF 2 3 u_law_small
def u_first_plan (r_ : FnK) : Sg → OutR := (rSeq (rFor (fUn itD (fCall m_listed (fCons (fVar 0) fNil))) (gN 4) (rSeq (rL (oSet 5 (fCall m_parts_by (fCons (fVar 1) (fCons (fVar 4) fNil))))) (rIf (fB (fBin gtD (fUn lenK (fVarT 5)) (fC (.int 1)))) (rSeq (rL (oSetO 6 (fLst fNil))) (rSeq (rL (oFor (fUn itD (fL (fUn srtDk (fVarT 5)))) (gN 7) (oAppK 6 (kPair (fVar 7) (fK 3 r_ (fCons (fVar 0) (fCons (fIxK (fVarT 5) (fVar 7)) (fCons (fBin subD (fVarT 2) (fC (.int 1))) fNil)))))))) (rFz 6 (rIf (fNot (fTru (fL (fLc [8] (fUn itD (fVar 6)) (gN 8) (fB (fBin isN (fBin ixD (fVarT 8) (fC (.int 1))) (fC .none))) (fVar 8))))) (rRet (fTup (fCons (fVar 4) (fCons (fUn tupleD (fVarT 6)) fNil)))) rNx)))) rNx))) (rRet (fC .none)))
def u_plan_within (q_ : FnK) : Sg → OutR := (rSeq (rIf (fB (fBin eqD (fUn lenD (fVarT 1)) (fC (.int 1)))) (rRet (fBin ixD (fVarT 1) (fC (.int 0)))) rNx) (rSeq (rIf (fB (fBin eqD (fVarT 2) (fC (.int 0)))) (rRet (fC .none)) rNx) (rSeq (rL (oSet 4 (fTup (fCons (fUn tupleD (fVarT 1)) (fCons (fVar 2) fNil))))) (rSeq (rL (oIf (fB (fBin ninKD (fVarT 4) (fVarT 3))) (oStoreMK 3 (fK 3 q_ (fCons (fVar 0) (fCons (fVar 1) (fCons (fVar 2) fNil)))) (fVar 4)) oNx)) (rRet (fIxK (fVarT 3) (fVar 4)))))))
def n_plan_within : Nat → FnK
  | 0 => runK 3 5 (rL oNo)
  | n + 1 => runK 3 5 (u_plan_within (runK 3 9 (u_first_plan (n_plan_within n))))
def m_plan_within : FnK := n_plan_within 7
def u_fewest_asks_v2 : Sg → Out := (oSeq (oSet 2 (fCall m_look_planned (fCons (fVar 0) (fCons (fVar 1) fNil)))) (oSeq (oSet 3 (fC (.int 0))) (oSeq (whileD (fB (fBin isN (fC0 (psi m_plan_within) (fCons (fVar 0) (fCons (fVar 2) (fCons (fVar 3) fNil)))) (fC .none))) (oSet 3 (fBin addD (fVarT 3) (fC (.int 1)))) 1000) (oRet (fVar 3)))))
def m_fewest_asks_v2 : Fn := runF 2 4 u_fewest_asks_v2
def u_a_plan_v3 : Sg → Out := (oSeq (oSet 2 (fCall m_look_planned (fCons (fVar 0) (fCons (fVar 1) fNil)))) (oRet (fC0 (psi m_plan_within) (fCons (fVar 0) (fCons (fVar 2) (fCons (fCall m_fewest_asks_v2 (fCons (fVar 0) (fCons (fVar 1) fNil))) fNil))))))
def m_a_plan_v3 : Fn := runF 2 3 u_a_plan_v3
def u_law_told_v7 : Sg → Out := (oTry [(1, [false, false, true]), (4, [true, false, true]), (5, [false, true, true])] (oSeq (oIf (fB (fBin eqD (fVarT 0) (fC (.int 0)))) (oRet (fCall m_fewest_asks_v2 (fCons (fVar 1) (fCons (fVar 2) fNil)))) oNx) (oRet (fCall m_a_plan_v3 (fCons (fVar 1) (fCons (fVar 2) fNil))))))
def m_law_told_v7 : Fn := runF 3 4 u_law_told_v7
def u_law_deep (r_ : Fn) : Sg → Out := (oSeq (oIf (fAnd (fB (fBin eqD (fUn lenD (fVarT 1)) (fC (.int 1)))) (fB (fBin eqD (fVarT 2) (fBin ixD (fVarT 1) (fC (.int 0)))))) (oRet (fC (.int 0))) oNx) (oSeq (oIf (fOr (fNot (fTru (fIsi "tuple" (fVarT 2)))) (fOr (fB (fBin neD (fUn lenD (fVarT 2)) (fC (.int 2)))) (fB (fBin ninD (fBin ixD (fVarT 2) (fC (.int 0))) (fCall m_law_codes (fCons (fVar 0) fNil)))))) (oRet (fUn negD (fC (.int 1)))) oNx) (oSeq (oSet 3 (fCall m_law_parts (fCons (fVar 1) (fCons (fBin ixD (fVarT 2) (fC (.int 0))) fNil)))) (oSeq (oIf (fOr (fNot (fTru (fIsi "tuple" (fBin ixD (fVarT 2) (fC (.int 1)))))) (fB (fBin neD (fL (fLc [5] (fUn itD (fBin ixD (fVarT 2) (fC (.int 1)))) (gN 5) tYesD (fBin ixD (fVarT 5) (fC (.int 0))))) (fL (fUn srtDk (fVarT 3)))))) (oRet (fUn negD (fC (.int 1)))) oNx) (oSeq (oSetO 4 (fLc [5] (fUn itD (fBin ixD (fVarT 2) (fC (.int 1)))) (gN 5) tYesD (fCall r_ (fCons (fVar 0) (fCons (fIxK (fVarT 3) (fBin ixD (fVarT 5) (fC (.int 0)))) (fCons (fBin ixD (fVarT 5) (fC (.int 1))) fNil)))))) (oSeq (oIf (fB (fBin ltD (fUn minA (fVarT 4)) (fC (.int 0)))) (oRet (fUn negD (fC (.int 1)))) oNx) (oRet (fBin addD (fC (.int 1)) (fUn maxA (fVarT 4))))))))))
def n_law_deep : Nat → Fn
  | 0 => runF 3 6 oNo
  | n + 1 => runF 3 6 (u_law_deep (n_law_deep n))
def m_law_deep : Fn := n_law_deep 8
def u_law_can (r_ : FnK) : Sg → OutR := (rSeq (rIf (fOr (fB (fBin ltD (fUn lenD (fVarT 1)) (fC (.int 2)))) (fB (fBin eqD (fVarT 2) (fC (.int 0))))) (rRet (fBin ltD (fUn lenD (fVarT 1)) (fC (.int 2)))) rNx) (rSeq (rL (oSet 4 (fTup (fCons (fUn tupleD (fVarT 1)) (fCons (fVar 2) fNil))))) (rSeq (rL (oIf (fB (fBin ninKD (fVarT 4) (fVarT 3))) (oSeq (oStoreM 3 (fC (.bool false)) (fVar 4)) (oFor (fUn itD (fCall m_law_codes (fCons (fVar 0) fNil))) (gN 5) (oSeq (oSet 6 (fCall m_law_parts (fCons (fVar 1) (fCons (fVar 5) fNil)))) (oSeq (oSet 7 (fBin ltD (fUn lenK (fVarT 6)) (fC (.int 2)))) (oSeq (oFor (fUn keysR (fVar 6)) (gN 8) (oSetK 7 (kOr (fVar 7) (kNot (fK 3 r_ (fCons (fVar 0) (fCons (fIxK (fVarT 6) (fVar 8)) (fCons (fBin subD (fVarT 2) (fC (.int 1))) fNil)))))))) (oIf (fNot (fTru (fVarT 7))) (oSeq (oStoreM 3 (fC (.bool true)) (fVar 4)) oBk) oNx)))))) oNx)) (rRet (fIxK (fVarT 3) (fVar 4))))))
def n_law_can : Nat → FnK
  | 0 => runK 3 9 (rL oNo)
  | n + 1 => runK 3 9 (u_law_can (n_law_can n))
def m_law_can : FnK := n_law_can 7
def u_law_k11 : Sg → Out := (oSeq (oSet 1 (fCall m_law_small (fCons (fVar 0) (fCons (fC (.int 0)) fNil))))
    (oSeq (oSet 2 (fSl (fCall m_law_asks (fCons (fVar 0) (fCons (fC (.int 1)) (fCons (fVar 1) fNil)))) fNone (fSome (fC (.int 3)))))
    (oSeq (oSet 3 (fCall m_law_left (fCons (fVar 1) (fCons (fVar 2) fNil))))
    (oSeq (oIf (fB (fBin eqD (fVarT 3) (fL (fLst fNil)))) (oRet (fBin eqD (fL (fLc [6] (fUn rng1 (fC (.int 2))) (gN 6) (fB (fBin neD (fCall m_law_told_v7 (fCons (fVar 6) (fCons (fVar 1) (fCons (fVar 2) fNil)))) (fL (fLst (fCons (fC (.bool true)) (fCons (fC (.bool false)) (fCons (fC (.bool true)) fNil))))))) (fVar 6))) (fL (fLst fNil)))) oNx)
    (oSeq (oIf (fB (fBin eqD (fBin modD (fCall m_law_cell (fCons (fVar 0) (fCons (fC (.int 1)) fNil))) (fC (.int 5))) (fC (.int 1)))) (oSeq (oSet 1 (fBin ixD (fL (fLst (fCons (fTup (fCons (fC (.int 3)) (fCons (fC (.int 3)) fNil))) (fCons (fTup (fCons (fC (.int 2)) (fCons (fC (.int 5)) fNil))) (fCons (fTup (fCons (fC (.int 5)) (fCons (fC (.int 2)) fNil))) (fCons (fTup (fCons (fC (.int 3)) (fCons (fC (.int 4)) fNil))) fNil)))))) (fBin modD (fCall m_law_cell (fCons (fVar 0) (fCons (fC (.int 2)) fNil))) (fC (.int 4))))) (oRet (fBin eqD (fL (fLc [6] (fUn rng1 (fC (.int 2))) (gN 6) (fB (fBin neD (fCall m_law_told_v7 (fCons (fVar 6) (fCons (fVar 1) (fCons (fL (fLst fNil)) fNil)))) (fL (fLst (fCons (fC (.bool false)) (fCons (fC (.bool true)) (fCons (fC (.bool true)) fNil))))))) (fVar 6))) (fL (fLst fNil))))) oNx)
    (oFg [0, 6] (oSeq (oSet 4 (fCall m_law_told_v7 (fCons (fC (.int 0)) (fCons (fVar 1) (fCons (fVar 2) fNil)))))
    (oSeq (oSet 5 (fCall m_law_told_v7 (fCons (fC (.int 1)) (fCons (fVar 1) (fCons (fVar 2) fNil)))))
    (oFg [2] (oSeq (oIf (fOr (fNot (fTru (fCall m_law_whole (fCons (fVar 4) fNil)))) (fB (fBin neD (fVarT 4) (fCall m_law_deep (fCons (fVar 1) (fCons (fVar 3) (fCons (fVar 5) fNil))))))) (oRet (fC (.bool false))) oNx)
    (oFg [5] (oRet (fOrV (fBin eqD (fVarT 4) (fC (.int 0))) (fNotT (fC0 (psi m_law_can) (fCons (fVar 1) (fCons (fVar 3) (fCons (fBin subD (fVarT 4) (fC (.int 1))) fNil))))))))))))))))))
def m_law_k11 : Fn := runF 1 7 u_law_k11
def u_fewest_settling : Sg → Out := (oSeq (oSet 1 (fCall m_listed (fCons (fCall m_checked_game (fCons (fVar 0) fNil)) fNil))) (oSeq (oIf (fB (fBin gtD (fUn lenD (fVarT 1)) (fC (.int 16)))) (oRs 5) oNx) (oSeq (oSet 2 (fC (.int 0))) (whileD (fTru (fC (.bool true))) (oSeq (oFor (fUn itD (fCall m_choices (fCons (fUn lenD (fVarT 1)) (fCons (fVar 2) fNil)))) (gN 3) (oSeq (oSetO 4 (fLc [5] (fUn itD (fVar 3)) (gN 5) tYesD (fBin ixD (fVarT 1) (fVarT 5)))) (oFz 4 (oIf (fB (fBin eqD (fUn lenK (fCall m_rows_by (fCons (fVar 0) (fCons (fVar 4) fNil)))) (fUn lenD (fVarT 1)))) (oRetV 4) oNx)))) (oSet 2 (fBin addD (fVarT 2) (fC (.int 1))))) 1000))))
def m_fewest_settling : Fn := runF 1 6 u_fewest_settling
def u_renamed : Sg → Out := (oSeq (oEx (fCall m_look_asks (fCons (fVar 0) (fCons (fVar 1) fNil)))) (oSeq (oIf (fOr (fNot (fTru (fCall m_is_order (fCons (fVar 2) (fCons (fBin ixD (fVarT 0) (fC (.int 0))) fNil))))) (fNot (fTru (fCall m_is_order (fCons (fVar 3) (fCons (fBin ixD (fVarT 0) (fC (.int 1))) fNil)))))) (oRs 2) oNx) (oRetO (fLc [4, 5] (fUn itD (fVar 1)) (gT 2 (gsC (gN 4) (gsC (gN 5) gs0))) tYesD (fTup (fCons (fCall m_renamed_code (fCons (fVar 4) (fCons (fVar 2) (fCons (fVar 3) fNil)))) (fCons (fVar 5) fNil)))))))
def m_renamed : Fn := runF 4 6 u_renamed
def u_law_k12 : Sg → Out := (oSeq (oSet 1 (fCall m_law_small (fCons (fVar 0) (fCons (fC (.int 0)) fNil))))
    (oSeq (oSet 2 (fCall m_law_code (fCons (fVar 1) (fCons (fCall m_law_cell (fCons (fVar 0) (fCons (fC (.int 1)) fNil))) fNil))))
    (oSeq (oSetO 3 (fLst fNil))
    (oSeq (oFor (fUn rng1 (fBin modD (fCall m_law_cell (fCons (fVar 0) (fCons (fC (.int 2)) fNil))) (fC (.int 4)))) (gN 4) (oSeq (oSet 5 (fCall m_law_code (fCons (fVar 1) (fCons (fBin addD (fCall m_law_cell (fCons (fVar 0) (fCons (fBin addD (fC (.int 3)) (fVarT 4)) fNil))) (fBin mulD (fBin mulD (fC (.int 13)) (fVarT 4)) (fVarT 4))) fNil)))) (oOwn 3 (fTup (fCons (fVar 5) (fCons (fCall m_law_answer (fCons (fVar 2) (fCons (fVar 5) fNil))) fNil))) appF)))
    (oSeq (oFz 3 (oSet 6 (fCall m_fewest_asks_v2 (fCons (fVar 1) (fCons (fVar 3) fNil)))))
    (oSeq (oFz 3 (oIf (fB (fBin neD (fBin eqD (fVarT 6) (fC (.int 0))) (fBin eqD (fCall m_settled (fCons (fVar 1) (fCons (fVar 3) fNil))) (fVarT 2)))) (oRet (fC (.bool false))) oNx))
    (oSeq (oSet 5 (fCall m_law_code (fCons (fVar 1) (fCons (fCall m_law_cell (fCons (fVar 0) (fCons (fC (.int 7)) fNil))) fNil))))
    (oSeq (oFz 3 (oSet 7 (fBin addD (fVarT 3) (fL (fLst (fCons (fTup (fCons (fVar 5) (fCons (fCall m_foe_answer (fCons (fVar 1) (fCons (fVar 3) (fCons (fVar 5) fNil)))) fNil))) fNil))))))
    (oSeq (oIf (fOr (fNot (fB (fBin leD (fCall m_fewest_asks_v2 (fCons (fVar 1) (fCons (fVar 7) fNil))) (fVarT 6)))) (fB (fBin gtD (fCall m_fewest_asks_v2 (fCons (fVar 1) (fCons (fBin addD (fVarT 3) (fL (fLst (fCons (fTup (fCons (fVar 5) (fCons (fCall m_law_answer (fCons (fVar 2) (fCons (fVar 5) fNil))) fNil))) fNil)))) fNil))) (fVarT 6)))) (oRet (fC (.bool false))) oNx)
    (oFg [2, 7] (oSeq (oFz 3 (oSetO 8 (fLc [11, 12] (fUn itD (fCall m_split (fCons (fVar 1) (fCons (fVar 3) (fCons (fVar 5) fNil))))) (gT 2 (gsC (gN 11) (gsC (gN 12) gs0))) tYesD (fCall m_fewest_asks_v2 (fCons (fVar 1) (fCons (fBin addD (fVarT 3) (fL (fLst (fCons (fTup (fCons (fVar 5) (fCons (fVar 11) fNil))) fNil)))) fNil))))))
    (oFg [5, 11, 12] (oSeq (oIf (fB (fBin ltD (fBin addD (fC (.int 1)) (fUn maxA (fVarT 8))) (fVarT 6))) (oRet (fC (.bool false))) oNx)
    (oFg [8] (oSeq (oIf (fAnd (fB (fBin eqD (fVarT 3) (fL (fLst fNil)))) (fB (fBin gtD (fVarT 6) (fUn lenD (fCall m_fewest_settling (fCons (fVar 1) fNil)))))) (oRet (fC (.bool false))) oNx)
    (oSeq (oIf (fAnd (fB (fBin eqD (fVarT 3) (fL (fLst fNil)))) (fB (fBin gtD (fVarT 6) (fUn maxA (fL (fLc [13] (fUn itD (fCall m_all_codes (fCons (fVar 1) fNil))) (gN 13) tYesD (fUn lenD (fCall m_played (fCons (fVar 1) (fCons (fVar 13) fNil)))))))))) (oRet (fC (.bool false))) oNx)
    (oFg [13] (oSeq (oSet 9 (fUn tupleD (fL (fLc [4] (fUn rng1 (fBin ixD (fVarT 1) (fC (.int 0)))) (gN 4) tYesD (fBin modD (fBin addD (fVarT 4) (fCall m_law_cell (fCons (fVar 0) (fCons (fC (.int 8)) fNil)))) (fBin ixD (fVarT 1) (fC (.int 0))))))))
    (oSeq (oSet 10 (fUn tupleD (fL (fLc [4] (fUn rng1 (fBin ixD (fVarT 1) (fC (.int 1)))) (gN 4) tYesD (fBin modD (fBin addD (fVarT 4) (fCall m_law_cell (fCons (fVar 0) (fCons (fC (.int 9)) fNil)))) (fBin ixD (fVarT 1) (fC (.int 1))))))))
    (oFg [0, 4] (oFz 3 (oRet (fBin eqD (fCall m_fewest_asks_v2 (fCons (fVar 1) (fCons (fCall m_renamed (fCons (fVar 1) (fCons (fVar 3) (fCons (fVar 9) (fCons (fVar 10) fNil))))) fNil))) (fVarT 6))))))))))))))))))))))))
def m_law_k12 : Fn := runF 1 14 u_law_k12
def u_law_alike : Sg → Out := (oSeq (oSet 2 (fCall m_law_codes (fCons (fVar 0) fNil))) (oSeq (oFor (fUn enD (fVar 2)) (gT 2 (gsC (gN 3) (gsC (gN 4) gs0))) (oFor (fUn itD (fSl (fVarT 2) (fSome (fBin addD (fVarT 3) (fC (.int 1)))) fNone)) (gN 5) (oIf (fNot (fTru (fL (fLc [6] (fUn itD (fVar 1)) (gN 6) (fB (fBin neD (fCall m_law_answer (fCons (fVar 4) (fCons (fVar 6) fNil))) (fCall m_law_answer (fCons (fVar 5) (fCons (fVar 6) fNil))))) (fVar 6))))) (oRet (fTup (fCons (fVar 4) (fCons (fVar 5) fNil)))) oNx))) (oRet (fC .none))))
def m_law_alike : Fn := runF 2 7 u_law_alike
def u_law_too_big : Sg → Out := (oSeq (oTry [(1, [false, true]), (5, [true, true])] (oEx (fCall m_fewest_settling (fCons (fVar 0) fNil)))) (oRetO (fLst fNil)))
def m_law_too_big : Fn := runF 1 2 u_law_too_big
def u_law_k13 : Sg → Out := (oSeq (oSet 1 (fCall m_law_small (fCons (fVar 0) (fCons (fC (.int 0)) fNil))))
    (oSeq (oSetO 2 (fLc [11] (fUn rng1 (fBin modD (fCall m_law_cell (fCons (fVar 0) (fCons (fC (.int 1)) fNil))) (fC (.int 4)))) (gN 11) tYesD (fCall m_law_code (fCons (fVar 1) (fCons (fBin addD (fCall m_law_cell (fCons (fVar 0) (fCons (fBin addD (fC (.int 2)) (fVarT 11)) fNil))) (fBin mulD (fBin mulD (fC (.int 17)) (fVarT 11)) (fVarT 11))) fNil)))))
    (oFg [11] (oSeq (oFz 2 (oSet 3 (fCall m_law_alike (fCons (fVar 1) (fCons (fVar 2) fNil)))))
    (oSeq (oFz 2 (oSet 4 (fCall m_settle_all (fCons (fVar 1) (fCons (fVar 2) fNil)))))
    (oSeq (oFz 2 (oIf (fOr (fB (fBin neD (fCall m_alike_by (fCons (fVar 1) (fCons (fVar 2) fNil))) (fVarT 3))) (fOr (fNot (fTru (fIsi "bool" (fVarT 4)))) (fB (fBin neD (fVarT 4) (fBin isN (fVarT 3) (fC .none)))))) (oRet (fC (.bool false))) oNx))
    (oFg [2, 3, 4] (oSeq (oIf (fB (fBin eqD (fBin modD (fBin fdivD (fCall m_law_cell (fCons (fVar 0) (fCons (fC (.int 1)) fNil))) (fC (.int 4))) (fC (.int 3))) (fC (.int 1)))) (oRet (fBin eqD (fCall m_law_too_big (fCons (fBin ixD (fL (fLst (fCons (fTup (fCons (fC (.int 3)) (fCons (fC (.int 3)) fNil))) (fCons (fTup (fCons (fC (.int 2)) (fCons (fC (.int 5)) fNil))) (fCons (fTup (fCons (fC (.int 5)) (fCons (fC (.int 2)) fNil))) (fCons (fTup (fCons (fC (.int 3)) (fCons (fC (.int 4)) fNil))) fNil)))))) (fBin modD (fCall m_law_cell (fCons (fVar 0) (fCons (fC (.int 2)) fNil))) (fC (.int 4)))) fNil)) (fL (fLst (fCons (fC (.bool true)) (fCons (fC (.bool true)) fNil)))))) oNx)
    (oFg [0] (oSeq (oSet 5 (fCall m_fewest_settling (fCons (fVar 1) fNil)))
    (oSeq (oIf (fOr (fNot (fTru (fIsi "list" (fVarT 5)))) (fOr (fB (fBin neD (fVarT 5) (fL (fUn ssUp (fVarT 5))))) (fB (fBin notN (fCall m_law_alike (fCons (fVar 1) (fCons (fVar 5) fNil))) (fC .none))))) (oRet (fC (.bool false))) oNx)
    (oSeq (oSet 6 (fCall m_law_codes (fCons (fVar 1) fNil)))
    (oSeq (oSet 7 (fBin addD (fL (fLst (fCons (fL (fLst fNil)) fNil))) (fL (fLc [9] (fUn itD (fVar 6)) (gN 9) tYesD (fL (fLst (fCons (fVar 9) fNil)))))))
    (oSeq (oFor (fUn enD (fVar 6)) (gT 2 (gsC (gN 8) (gsC (gN 9) gs0))) (oSet 7 (fBin addD (fVarT 7) (fL (fLc [12] (fUn itD (fSl (fVarT 6) (fSome (fBin addD (fVarT 8) (fC (.int 1)))) fNone)) (gN 12) tYesD (fL (fLst (fCons (fVar 9) (fCons (fVar 12) fNil)))))))))
    (oFg [6, 8, 9, 12] (oSeq (oSetO 10 (fLc [13] (fUn itD (fVar 7)) (gN 13) (fB (fBin isN (fCall m_law_alike (fCons (fVar 1) (fCons (fVar 13) fNil))) (fC .none))) (fVar 13)))
    (oFg [1, 7, 13] (oSeq (oIf (fB (fBin eqD (fVarT 10) (fL (fLst fNil)))) (oRet (fBin gtD (fUn lenD (fVarT 5)) (fC (.int 2)))) oNx)
    (oRet (fBin eqD (fVarT 5) (fBin ixD (fVarT 10) (fC (.int 0)))))))))))))))))))))))
def m_law_k13 : Fn := runF 1 14 u_law_k13
def u_law_order : Sg → Out := (oSeq (oSetO 2 (fLc [3] (fUn rng1 (fVarT 1)) (gN 3) tYesD (fTup (fCons (fCall m_law_mix (fCons (fBin addD (fBin addD (fVarT 0) (fBin mulD (fBin mulD (fC (.int 29)) (fVarT 3)) (fVarT 3))) (fBin mulD (fC (.int 3)) (fVarT 3))) (fCons (fC (.int 9907)) (fCons (fC (.int 997)) fNil)))) (fCons (fVar 3) fNil))))) (oRet (fUn tupleD (fL (fLc [4] (fUn itD (fL (fUn srtD (fVarT 2)))) (gN 4) tYesD (fBin ixD (fVarT 4) (fC (.int 1))))))))
def m_law_order : Fn := runF 2 5 u_law_order
def u_law_told_v4 : Sg → Out := (oTry [(2, [true, true]), (1, [false, true])] (oRet (fCall m_renamed (fCons (fVar 0) (fCons (fVar 1) (fCons (fVar 2) (fCons (fVar 3) fNil)))))))
def m_law_told_v4 : Fn := runF 4 5 u_law_told_v4
def u_law_named : Sg → Out := (oSeq (oSetO 3 (fUn listD (fVarT 0))) (oSeq (oFor (fUn rng1 (fUn lenD (fVarT 0))) (gN 4) (oStore 3 (fBin ixD (fVarT 2) (fBin ixD (fVarT 0) (fVarT 4))) (fBin ixD (fVarT 1) (fVarT 4)))) (oRet (fUn tupleD (fVarT 3)))))
def m_law_named : Fn := runF 3 5 u_law_named
def u_law_k14 : Sg → Out := (oSeq (oSet 1 (fCall m_law_game (fCons (fVar 0) (fCons (fC (.int 2)) fNil))))
    (oSeq (oSet 2 (fCall m_law_asks (fCons (fVar 0) (fCons (fC (.int 3)) (fCons (fVar 1) fNil)))))
    (oSeq (oSet 3 (fCall m_law_order (fCons (fCall m_law_cell (fCons (fVar 0) (fCons (fC (.int 0)) fNil))) (fCons (fBin ixD (fVarT 1) (fC (.int 0))) fNil))))
    (oSeq (oSet 4 (fCall m_law_order (fCons (fCall m_law_cell (fCons (fVar 0) (fCons (fC (.int 1)) fNil))) (fCons (fBin ixD (fVarT 1) (fC (.int 1))) fNil))))
    (oSeq (oIf (fB (fBin eqD (fBin modD (fCall m_law_cell (fCons (fVar 0) (fCons (fC (.int 0)) fNil))) (fC (.int 4))) (fC (.int 3)))) (oSeq (oSetO 5 (fLst (fCons (fVar 3) (fCons (fVar 4) fNil)))) (oSeq (oSet 6 (fBin modD (fCall m_law_cell (fCons (fVar 0) (fCons (fC (.int 1)) fNil))) (fC (.int 2)))) (oSeq (oSet 7 (fBin ixD (fVarT 5) (fVarT 6))) (oSeq (oSet 8 (fL (fLst (fCons (fC .none) (fCons (fL (fUn listD (fVarT 7))) (fCons (fBin addD (fVarT 7) (fTup (fCons (fUn lenD (fVarT 7)) fNil))) (fCons (fSl (fVarT 7) (fSome (fC (.int 1))) fNone) (fCons (fBin addD (fSl (fVarT 7) (fSome (fC (.int 1))) fNone) (fTup (fCons (fUn lenD (fVarT 7)) fNil))) (fCons (fBin mulD (fTup (fCons (fC (.int 0)) fNil)) (fBin addD (fUn lenD (fVarT 7)) (fC (.int 1)))) (fCons (fC (.str "01")) (fCons (fTup (fCons (fC .none) fNil)) fNil))))))))))) (oSeq (oStore 5 (fBin ixD (fBin addD (fVarT 8) (fL (fLst (fCons (fBin addD (fSl (fVarT 7) (fSome (fC (.int 1))) fNone) (fTup (fCons (fC (.str "0")) fNil))) fNil)))) (fBin modD (fCall m_law_cell (fCons (fVar 0) (fCons (fC (.int 1)) fNil))) (fC (.int 9)))) (fVarT 6)) (oRet (fBin eqD (fCall m_law_told_v4 (fCons (fVar 1) (fCons (fVar 2) (fCons (fBin ixD (fVarT 5) (fC (.int 0))) (fCons (fBin ixD (fVarT 5) (fC (.int 1))) fNil))))) (fL (fLst (fCons (fC (.bool true)) (fCons (fC (.bool true)) fNil))))))))))) oNx)
    (oFg [0, 5, 6, 7, 8] (oSeq (oSet 9 (fCall m_law_told_v4 (fCons (fVar 1) (fCons (fL (fUn listD (fVarT 2))) (fCons (fVar 3) (fCons (fVar 4) fNil))))))
    (oSeq (oIf (fB (fBin neD (fVarT 9) (fL (fLc [11, 12] (fUn itD (fVar 2)) (gT 2 (gsC (gN 11) (gsC (gN 12) gs0))) tYesD (fTup (fCons (fCall m_law_named (fCons (fVar 11) (fCons (fVar 3) (fCons (fVar 4) fNil)))) (fCons (fVar 12) fNil))))))) (oRet (fC (.bool false))) oNx)
    (oFg [11, 12] (oSeq (oSet 10 (fL (fUn srtD (fL (fLc [13] (fUn itD (fCall m_law_left (fCons (fVar 1) (fCons (fVar 2) fNil)))) (gN 13) tYesD (fCall m_law_named (fCons (fVar 13) (fCons (fVar 3) (fCons (fVar 4) fNil)))))))))
    (oFg [2, 3, 4, 13] (oRet (fBin eqD (fCall m_what_fits (fCons (fVar 1) (fCons (fVar 9) fNil))) (fVarT 10))))))))))))))
def m_law_k14 : Fn := runF 1 14 u_law_k14
def u_law_orders : Sg → Out := (oSeq (oSet 1 (fL (fLst (fCons (fTup fNil) fNil)))) (oSeq (oFor (fUn rng1 (fVarT 0)) (gN 2) (oSeq (oSet 3 (fL (fLst fNil))) (oSeq (oFor (fUn itD (fVar 1)) (gN 4) (oSet 3 (fBin addD (fVarT 3) (fL (fLc [5] (fUn rng1 (fVarT 0)) (gN 5) (fB (fBin ninD (fVarT 5) (fVarT 4))) (fBin addD (fVarT 4) (fTup (fCons (fVar 5) fNil)))))))) (oSet 1 (fVar 3))))) (oRet (fVar 1))))
def m_law_orders : Fn := runF 1 6 u_law_orders
def u_shown : Sg → Out := (oSeq (oEx (fCall m_look_asks (fCons (fVar 0) (fCons (fVar 1) fNil)))) (oSeq (oSet 2 (fC (.str ""))) (oSeq (oFor (fUn itD (fVar 1)) (gT 2 (gsC (gN 3) (gsC (gN 4) gs0))) (oSet 2 (fBin addD (fBin addD (fBin addD (fBin addD (fBin addD (fBin addD (fVarT 2) (fM1 joinS (fC (.str "")) (fL (fLc [5] (fUn itD (fVar 3)) (gN 5) tYesD (fBin ixD (fC (.str "abcdefgh")) (fVarT 5)))))) (fC (.str " "))) (fUn strD (fBin ixD (fVarT 4) (fC (.int 0))))) (fC (.str " "))) (fUn strD (fBin ixD (fVarT 4) (fC (.int 1))))) (fC (.str "\n"))))) (oRet (fVar 2)))))
def m_shown : Fn := runF 2 6 u_shown
def u_ask_read : Sg → Out := (oSeq (oSet 1 (fL (fM1 splitS (fVarT 0) (fC (.str " "))))) (oSeq (oIf (fOr (fB (fBin neD (fUn lenD (fVarT 1)) (fC (.int 3)))) (fTru (fL (fLc [3] (fUn itD (fBin ixD (fVarT 1) (fC (.int 0)))) (gN 3) (fB (fBin ninD (fVarT 3) (fC (.str "abcdefgh")))) (fVar 3))))) (oRs 6) oNx) (oSeq (oIf (fTru (fL (fLc [4] (fUn itD (fSl (fVarT 1) (fSome (fC (.int 1))) fNone)) (gN 4) (fOr (fB (fBin neD (fUn lenD (fVarT 4)) (fC (.int 1)))) (fB (fBin ninD (fVarT 4) (fC (.str "012345"))))) (fVar 4)))) (oRs 6) oNx) (oSeq (oSet 2 (fUn tupleD (fL (fLc [3] (fUn itD (fBin ixD (fVarT 1) (fC (.int 0)))) (gN 3) tYesD (fM1 indexS (fC (.str "abcdefgh")) (fVarT 3)))))) (oRet (fTup (fCons (fVar 2) (fCons (fTup (fCons (fM1 indexS (fC (.str "012345")) (fBin ixD (fVarT 1) (fC (.int 1)))) (fCons (fM1 indexS (fC (.str "012345")) (fBin ixD (fVarT 1) (fC (.int 2)))) fNil))) fNil))))))))
def m_ask_read : Fn := runF 1 5 u_ask_read
def u_read : Sg → Out := (oSeq (oEx (fCall m_checked_game (fCons (fVar 0) fNil))) (oSeq (oIf (fNot (fTru (fIsi "str" (fVarT 1)))) (oRs 6) oNx) (oSeq (oSet 2 (fL (fM1 splitS (fVarT 1) (fC (.str "\n"))))) (oSeq (oIf (fB (fBin neD (fBin ixD (fVarT 2) (fUn negD (fC (.int 1)))) (fC (.str "")))) (oRs 6) oNx) (oSeq (oSetO 3 (fLc [4] (fUn itD (fSl (fVarT 2) fNone (fSome (fUn negD (fC (.int 1)))))) (gN 4) tYesD (fCall m_ask_read (fCons (fVar 4) fNil)))) (oSeq (oThru (oFz 3 (oEx (fCall m_look_asks (fCons (fVar 0) (fCons (fVar 3) fNil)))))) (oRetV 3)))))))
def m_read : Fn := runF 2 5 u_read
def u_law_k16 : Sg → Out := (oSeq (oSet 1 (fCall m_law_game (fCons (fVar 0) (fCons (fC (.int 0)) fNil))))
    (oSeq (oSet 2 (fCall m_law_asks (fCons (fVar 0) (fCons (fC (.int 1)) (fCons (fVar 1) fNil)))))
    (oFg [0] (oSeq (oSet 3 (fC (.str "")))
    (oSeq (oFor (fUn itD (fVar 2)) (gT 2 (gsC (gN 4) (gsC (gN 5) gs0))) (oSeq (oFor (fUn itD (fVar 4)) (gN 6) (oSet 3 (fBin addD (fVarT 3) (fBin ixD (fC (.str "abcdefgh")) (fVarT 6))))) (oSet 3 (fBin addD (fBin addD (fBin addD (fBin addD (fBin addD (fVarT 3) (fC (.str " "))) (fBin ixD (fC (.str "012345")) (fBin ixD (fVarT 5) (fC (.int 0))))) (fC (.str " "))) (fBin ixD (fC (.str "012345")) (fBin ixD (fVarT 5) (fC (.int 1))))) (fC (.str "\n"))))))
    (oFg [4, 5, 6] (oSeq (oSet 7 (fCall m_shown (fCons (fVar 1) (fCons (fVar 2) fNil))))
    (oSeq (oSet 8 (fCall m_read (fCons (fVar 1) (fCons (fVar 3) fNil))))
    (oFg [1] (oRet (fAndV (fIsi "str" (fVarT 7)) (fAndV (fBin eqD (fVarT 7) (fVarT 3)) (fAndV (fIsi "list" (fVarT 8)) (fBin eqD (fVarT 8) (fVarT 2)))))))))))))))
def m_law_k16 : Fn := runF 1 9 u_law_k16
def u_law_ask : Sg → Out := (oSeq (oSet 2 (fL (fM1 splitS (fVarT 1) (fC (.str " "))))) (oSeq (oIf (fOr (fB (fBin neD (fUn lenD (fVarT 2)) (fC (.int 3)))) (fOr (fB (fBin neD (fUn lenD (fBin ixD (fVarT 2) (fC (.int 0)))) (fBin ixD (fVarT 0) (fC (.int 0))))) (fOr (fB (fBin neD (fUn lenD (fBin ixD (fVarT 2) (fC (.int 1)))) (fC (.int 1)))) (fB (fBin neD (fUn lenD (fBin ixD (fVarT 2) (fC (.int 2)))) (fC (.int 1))))))) (oRet (fC .none)) oNx) (oSeq (oSetO 3 (fLc [5] (fUn itD (fBin ixD (fVarT 2) (fC (.int 0)))) (gN 5) tYesD (fM1 findS (fC (.str "abcdefgh")) (fVarT 5)))) (oSeq (oSetO 4 (fLc [6] (fUn itD (fSl (fVarT 2) (fSome (fC (.int 1))) fNone)) (gN 6) tYesD (fM1 findS (fC (.str "012345")) (fVarT 6)))) (oSeq (oIf (fOr (fB (fBin ltD (fUn minA (fBin addD (fVarT 3) (fVarT 4))) (fC (.int 0)))) (fOr (fB (fBin geD (fUn maxA (fVarT 3)) (fBin ixD (fVarT 0) (fC (.int 1))))) (fB (fBin gtD (fUn maxA (fVarT 4)) (fBin ixD (fVarT 0) (fC (.int 0))))))) (oRet (fC .none)) oNx) (oRet (fTup (fCons (fUn tupleD (fVarT 3)) (fCons (fUn tupleD (fVarT 4)) fNil)))))))))
def m_law_ask : Fn := runF 2 7 u_law_ask
def u_law_due : Sg → Out := (oSeq (oSet 2 (fL (fM1 splitS (fVarT 1) (fC (.str "\n"))))) (oSeq (oIf (fOr (fB (fBin neD (fBin ixD (fVarT 2) (fUn negD (fC (.int 1)))) (fC (.str "")))) (fB (fBin gtD (fUn lenD (fVarT 2)) (fC (.int 9))))) (oRet (fC .none)) oNx) (oSeq (oSetO 3 (fLc [4] (fUn itD (fSl (fVarT 2) fNone (fSome (fUn negD (fC (.int 1)))))) (gN 4) tYesD (fCall m_law_ask (fCons (fVar 0) (fCons (fVar 4) fNil))))) (oSeq (oIf (fB (fBin inD (fC .none) (fVarT 3))) (oRet (fC .none)) oNx) (oRetV 3)))))
def m_law_due : Fn := runF 2 5 u_law_due
def u_look_asks_v3 : Sg → Out := (oSeq (oEx (fCall (noEx m_checked_game) (fCons (fVar 0) fNil))) (oSeq (oIf (fOr (fNot (fTru (fIsi "list" (fVarT 1)))) (fB (fBin gtD (fUn lenD (fVarT 1)) (fC (.int 8))))) (oRsA 3 (fC (.int 0))) oNx) (oFor (fUn enD (fVar 1)) (gT 2 (gsC (gN 2) (gsC (gN 3) gs0))) (oIf (fNot (fTru (fCall (noEx m_is_ask) (fCons (fVar 0) (fCons (fVar 3) fNil))))) (oRsA 3 (fVar 2)) oNx))))
def m_look_asks_v3 : Fn := runF 2 4 u_look_asks_v3
def u_read_v3 : Sg → Out := (oSeq (oEx (fCall m_checked_game (fCons (fVar 0) fNil))) (oSeq (oIf (fNot (fTru (fIsi "str" (fVarT 1)))) (oRs 6) oNx) (oSeq (oSet 2 (fL (fM1 splitS (fVarT 1) (fC (.str "\n"))))) (oSeq (oIf (fB (fBin neD (fBin ixD (fVarT 2) (fUn negD (fC (.int 1)))) (fC (.str "")))) (oRs 6) oNx) (oSeq (oSetO 3 (fLc [4] (fUn itD (fSl (fVarT 2) fNone (fSome (fUn negD (fC (.int 1)))))) (gN 4) tYesD (fCall m_ask_read (fCons (fVar 4) fNil)))) (oSeq (oTryRs 3 6 (oFz 3 (oEx (fCall m_look_asks_v3 (fCons (fVar 0) (fCons (fVar 3) fNil)))))) (oRetV 3)))))))
def m_read_v3 : Fn := runF 2 5 u_read_v3
def u_law_refused : Sg → Out := (oSeq (oTryC 6 (.bool true) (oEx (fCall m_read_v3 (fCons (fVar 0) (fCons (fVar 1) fNil))))) (oRet (fC (.bool false))))
def m_law_refused : Fn := runF 2 2 u_law_refused
def u_law_by_base : Sg → Out := (oSeq (oTryI [(6, true)] (oEx (fCall m_read_v3 (fCons (fVar 0) (fCons (fVar 1) fNil))))) (oRet (fC (.bool false))))
def m_law_by_base : Fn := runF 2 3 u_law_by_base
def u_law_k17 : Sg → Out := (oSeq (oSet 1 (fCall m_law_game (fCons (fVar 0) (fCons (fC (.int 3)) fNil))))
    (oSeq (oSet 2 (fBin addD (fCall m_law_asks (fCons (fVar 0) (fCons (fC (.int 4)) (fCons (fVar 1) fNil)))) (fL (fLst (fCons (fTup (fCons (fCall m_law_code (fCons (fVar 1) (fCons (fCall m_law_cell (fCons (fVar 0) (fCons (fC (.int 0)) fNil))) fNil))) (fCons (fTup (fCons (fC (.int 0)) (fCons (fC (.int 0)) fNil))) fNil))) fNil)))))
    (oSeq (oSet 3 (fC (.str "")))
    (oSeq (oFor (fUn itD (fVar 2)) (gT 2 (gsC (gN 4) (gsC (gN 5) gs0))) (oSet 3 (fBin addD (fBin addD (fBin addD (fBin addD (fBin addD (fBin addD (fVarT 3) (fM1 joinS (fC (.str "")) (fL (fLc [11] (fUn itD (fVar 4)) (gN 11) tYesD (fBin ixD (fC (.str "abcdefgh")) (fVarT 11)))))) (fC (.str " "))) (fUn strD (fBin ixD (fVarT 5) (fC (.int 0))))) (fC (.str " "))) (fUn strD (fBin ixD (fVarT 5) (fC (.int 1))))) (fC (.str "\n")))))
    (oFg [2, 4, 5, 11] (oSeq (oSet 6 (fBin modD (fCall m_law_cell (fCons (fVar 0) (fCons (fC (.int 1)) fNil))) (fUn lenD (fVarT 3))))
    (oSeq (oSet 7 (fBin modD (fCall m_law_cell (fCons (fVar 0) (fCons (fC (.int 0)) fNil))) (fC (.int 4))))
    (oSeq (oSet 8 (fBin addD (fSl (fVarT 3) fNone (fSome (fVarT 6))) (fSl (fVarT 3) (fSome (fBin addD (fVarT 6) (fC (.int 1)))) fNone)))
    (oSeq (oIf (fB (fBin eqD (fVarT 7) (fC (.int 1)))) (oSet 8 (fBin addD (fSl (fVarT 3) fNone (fSome (fBin addD (fVarT 6) (fC (.int 1))))) (fSl (fVarT 3) (fSome (fVarT 6)) fNone))) oNx)
    (oSeq (oIf (fB (fBin eqD (fVarT 7) (fC (.int 2)))) (oSet 8 (fBin addD (fBin addD (fSl (fVarT 3) fNone (fSome (fVarT 6))) (fBin ixD (fC (.str "ab01 9x\n-")) (fBin modD (fCall m_law_cell (fCons (fVar 0) (fCons (fC (.int 2)) fNil))) (fC (.int 9))))) (fSl (fVarT 3) (fSome (fBin addD (fVarT 6) (fC (.int 1)))) fNone))) oNx)
    (oFg [6] (oSeq (oIf (fB (fBin eqD (fVarT 7) (fC (.int 3)))) (oSeq (oSet 9 (fL (fLst (fCons (fC .none) (fCons (fC (.int 7)) (fCons (fL (fLst (fCons (fVar 3) fNil))) (fCons (fC (.str " ")) (fCons (fC (.str "\n")) (fCons (fBin addD (fVarT 3) (fC (.str "\n"))) (fCons (fSl (fVarT 3) fNone (fSome (fUn negD (fC (.int 1))))) (fCons (fBin addD (fVarT 3) (fC (.str " "))) (fCons (fC (.str "a\n")) (fCons (fC (.str "0 0\n")) (fCons (fC (.str " 0 0\n")) (fCons (fBin mulD (fVarT 3) (fC (.int 9))) fNil))))))))))))))) (oSet 8 (fBin ixD (fVarT 9) (fBin modD (fCall m_law_cell (fCons (fVar 0) (fCons (fC (.int 1)) fNil))) (fC (.int 12)))))) oNx)
    (oFg [0, 3, 9] (oSeq (oSet 10 (fC .none))
    (oSeq (oIf (fTru (fIsi "str" (fVarT 8))) (oSet 10 (fCall m_law_due (fCons (fVar 1) (fCons (fVar 8) fNil)))) oNx)
    (oSeq (oIf (fB (fBin isN (fVarT 10) (fC .none))) (oRet (fAndV (fCall m_law_refused (fCons (fVar 1) (fCons (fVar 8) fNil))) (fCall m_law_by_base (fCons (fVar 1) (fCons (fVar 8) fNil))))) oNx)
    (oRet (fAndV (fBin ltD (fVarT 7) (fC (.int 3))) (fBin eqD (fCall m_read_v3 (fCons (fVar 1) (fCons (fVar 8) fNil))) (fVarT 10))))))))))))))))))))
def m_law_k17 : Fn := runF 1 12 u_law_k17
def u_law_lists : Sg → Out := (oSeq (oSetO 3 (fLst (fCons (fCall m_all_codes (fCons (fVar 0) fNil)) (fCons (fCall m_all_answers (fCons (fVar 0) fNil)) (fCons (fCall m_what_fits (fCons (fVar 0) (fCons (fVar 1) fNil))) (fCons (fCall m_needless (fCons (fVar 0) (fCons (fVar 1) fNil))) (fCons (fCall m_split (fCons (fVar 0) (fCons (fVar 1) (fCons (fVar 2) fNil)))) fNil))))))) (oSeq (oSet 3 (fBin addD (fVarT 3) (fL (fLst (fCons (fCall m_played (fCons (fVar 0) (fCons (fVar 2) fNil))) (fCons (fCall m_fewest_settling (fCons (fVar 0) fNil)) fNil)))))) (oSeq (oSet 4 (fCall m_why_clash (fCons (fVar 0) (fCons (fVar 1) fNil)))) (oSeq (oIf (fB (fBin notN (fVarT 4) (fC .none))) (oOwn 3 (fVar 4) appF) oNx) (oRetV 3)))))
def m_law_lists : Fn := runF 3 5 u_law_lists
def u_law_twin (r_ : Fn) : Sg → Out := (oSeq (oIf (fNot (fTru (fIsi "list" (fVarT 0)))) (oRet (fVar 0)) oNx) (oRetO (fLc [1] (fUn itD (fVar 0)) (gN 1) tYesD (fCall r_ (fCons (fVar 1) fNil)))))
def n_law_twin : Nat → Fn
  | 0 => runF 1 2 oNo
  | n + 1 => runF 1 2 (u_law_twin (n_law_twin n))
def m_law_twin : Fn := n_law_twin 8
def u_read_v4 : Sg → Out := (oSeq (oEx (fCall m_checked_game (fCons (fVar 0) fNil))) (oSeq (oIf (fNot (fTru (fIsi "str" (fVarT 1)))) (oRs 6) oNx) (oSeq (oSet 2 (fL (fM1 splitS (fVarT 1) (fC (.str "\n"))))) (oSeq (oIf (fB (fBin neD (fBin ixD (fVarT 2) (fUn negD (fC (.int 1)))) (fC (.str "")))) (oRs 6) oNx) oNo))))
def m_read_v4 : Fn := runF 2 5 u_read_v4
def u_law_deed_v5 : Sg → Out := (oSeq (oIf (fB (fBin eqD (fVarT 0) (fC (.int 0)))) (oRet (fCall m_checked_game (fCons (fTup (fCons (fC (.int 0)) (fCons (fC (.int 0)) fNil))) fNil))) oNx) (oSeq (oIf (fB (fBin eqD (fVarT 0) (fC (.int 1)))) (oRet (fCall m_answer (fCons (fTup (fCons (fC (.int 1)) (fCons (fC (.int 1)) fNil))) (fCons (fTup (fCons (fC (.int 0)) fNil)) (fCons (fTup (fCons (fC (.int 1)) fNil)) fNil))))) oNx) (oSeq (oIf (fB (fBin eqD (fVarT 0) (fC (.int 2)))) (oRet (fCall m_what_fits_v2 (fCons (fTup (fCons (fC (.int 1)) (fCons (fC (.int 1)) fNil))) (fCons (fC .none) fNil)))) oNx) (oSeq (oIf (fB (fBin eqD (fVarT 0) (fC (.int 3)))) (oRet (fCall m_settled_v2 (fCons (fTup (fCons (fC (.int 1)) (fCons (fC (.int 1)) fNil))) (fCons (fL (fLst (fCons (fTup (fCons (fTup (fCons (fC (.int 0)) fNil)) (fCons (fTup (fCons (fC (.int 0)) (fCons (fC (.int 0)) fNil))) fNil))) fNil))) fNil)))) oNx) (oSeq (oIf (fB (fBin eqD (fVarT 0) (fC (.int 4)))) (oRet (fCall m_fewest_settling (fCons (fTup (fCons (fC (.int 3)) (fCons (fC (.int 3)) fNil))) fNil))) oNx) (oRet (fCall m_read_v4 (fCons (fTup (fCons (fC (.int 1)) (fCons (fC (.int 1)) fNil))) (fCons (fC (.str "a")) fNil)))))))))
def m_law_deed_v5 : Fn := runF 1 1 u_law_deed_v5
def u_law_kinds_of : Sg → Out := (oSeq (oSet 1 (fL (fLst fNil))) (oSeq (oTry2 2 1 [(3, [false, false, true, false], [false, false]), (2, [false, true, false, false], [false, false]), (1, [true, false, false, false], [false, false]), (6, [false, false, false, false], [false, true]), (4, [false, false, false, true], [false, false]), (5, [false, false, false, false], [true, false])] (oEx (fCall m_law_deed_v5 (fCons (fVar 0) fNil)))) (oRet (fVar 1))))
def m_law_kinds_of : Fn := runF 1 3 u_law_kinds_of
def u_law_k19 : Sg → Out := (oSeq (oSet 1 (fBin modD (fCall m_law_cell (fCons (fVar 0) (fCons (fC (.int 0)) fNil))) (fC (.int 6))))
    (oFg [0] (oRet (fBin eqD (fCall m_law_kinds_of (fCons (fVar 1) fNil)) (fL (fLc [2] (fUn rng1 (fC (.int 6))) (gN 2) tYesD (fBin eqD (fVarT 2) (fVarT 1))))))))
def m_law_k19 : Fn := runF 1 3 u_law_k19
end
end W
end

section
set_option Elab.async false
set_option linter.all false
set_option maxRecDepth 100000
set_option maxHeartbeats 4000000
/-! G25: lists of one's own in a list of one's own; what copies them, what empties them; freezes that are undone. -/
namespace G
open PySem PySem.Spec PyProof.Rows L2
/-! ### a freeze that is undone -/
def fzAll : List Nat → Sg → Sg
  | [], g => g
  | i :: is, g => fzAll is (fzAt i g)
theorem Rep.freezes {K : PySem.W.Frag} {w : World} {B : Bx} {H : Hp} {σ : L2.St} : ∀ (is : List Nat) {Hd : Hp} {g : Sg}, Rep K w B Hd H σ g → ∃ Hd', Same Hd Hd' ∧ Rep K w B Hd' H σ (fzAll is g)
  | [], Hd, g, r => ⟨Hd, .refl _, r⟩
  | i :: is, Hd, g, r => by
    obtain ⟨H1, s1, r1⟩ := r.freeze i
    obtain ⟨H2, s2, r2⟩ := Rep.freezes is r1
    exact ⟨H2, s1.trans s2, r2⟩
/-- behind what told no more than a bool the lists are one's own as before -/
theorem Rep.back {K : PySem.W.Frag} {w : World} {B : Bx} {Hd H H' : Hp} {σ : L2.St} {g : Sg} (r : Rep K w B Hd H σ g) (s : Same H H') : Rep K w B Hd H' σ g := r.step ⟨.refl _, s, r.same.trans s, fun _ _ _ n => n⟩
def oIfB (is : List Nat) (t : Sg → R Bool) (a b : Sg → Out) : Sg → Out := fun g => match t (fzAll is g) with
  | .ok true => a g
  | .ok false => b g
  | _ => .no
section
variable {X : Cx} {B : Bx} {W : WX} {e a b c : Expr} {es rest sa sb : List Expr} {st : Stmt} {sts body : List Stmt} {pos pos' p p2 : Pos} {x n m y : Str} {f f1 f2 : Sg → R D} {u u1 u2 : Sg → Out} {t1 : Sg → R Bool}
theorem ds_ifB (is : List Nat) {sa sb : List Stmt} (hc : DB X B W c t1) (ha : DSs X B W sa u1) (hb : DSs X B W sb u2) : DS X B W (.If c sa sb pos) (oIfB is t1 u1 u2) := PS.imp (ps_if hc ha hb) fun Dn σ H ⟨g, Hd, rep, h⟩ => by
  obtain ⟨Hd', s, rep'⟩ := rep.freezes is
  refine ⟨fzAll is g, Hd', rep', ?_⟩
  unfold oIfB at h
  cases e : t1 (fzAll is g) with
  | no => rw [e] at h; exact h
  | ex x => rw [e] at h; exact h.elim
  | ok k =>
    rw [e] at h
    intro v Hd1 H1 t r
    cases (show v = k from r)
    have rb := rep.back t.h
    cases k with
    | true => exact ⟨g, Hd, rb, h⟩
    | false => exact ⟨g, Hd, rb, h⟩
/-! ### what a def hands back, data or a list of one's own -/
end
section
variable (K : PySem.W.Frag) (w : World)
def rlRet : Rl V Ret := ⟨fun H Hd' H' v r => match r with
  | .dat d => Rp K w Hd' v d
  | .own ds => ∃ p vs, v = .ref p ∧ H p = none ∧ Hd' p = none ∧ H' p = some (.lst vs) ∧ RpAll K w Hd' vs ds
  | .odc _ => False, fun {H H1 Hd' H' v a} s h => by
  cases a with
  | dat d => exact h
  | own ds => obtain ⟨p, vs, e, n, r⟩ := h; exact ⟨p, vs, e, s.free n, r⟩
  | odc d => exact h⟩
/-- lists of one's own: where they lie, what they hold -/
inductive Rows (Hd H : Hp) : List Addr → List (List D) → Prop
  | nil : Rows Hd H [] []
  | cons {a : Addr} {xs : List V} {r : List D} {as : List Addr} {rs : List (List D)} : Hd a = none → H a = some (.lst xs) → RpAll K w Hd xs r → a ∉ as → Rows Hd H as rs → Rows Hd H (a :: as) (r :: rs)
def rlR : Rl (List V) (List (List D)) := ⟨fun H Hd' H' vs rs => ∃ as : List Addr, vs = as.map V.ref ∧ (∀ a ∈ as, H a = none) ∧ Rows K w Hd' H' as rs, fun s ⟨as, e, n, r⟩ => ⟨as, e, fun a ha => s.free (n a ha), r⟩⟩
end
section
variable {K : PySem.W.Frag} {w : World} {Hd H Hd' H' : Hp} {as bs : List Addr} {rs ss : List (List D)}
theorem Rows.step (t : Step Hd H Hd' H') (h : Rows K w Hd H as rs) : Rows K w Hd' H' as rs := by
  induction h with
  | nil => exact .nil
  | cons h1 h2 h3 h4 _ ih => exact .cons (t.n _ _ h2 h1) (t.h _ _ h2) (h3.mono t.d) h4 ih
theorem Rows.there (h : Rows K w Hd H as rs) : ∀ a ∈ as, Hd a = none ∧ ∃ xs, H a = some (.lst xs) := by
  induction h with
  | nil => intro a ha; cases ha
  | cons h1 h2 h3 h4 _ ih =>
    intro b hb
    rcases List.mem_cons.mp hb with e | e
    · subst e; exact ⟨h1, _, h2⟩
    · exact ih b e
theorem Rows.keep (h : Rows K w Hd H as rs) (s : Same Hd Hd') (n : ∀ a ∈ as, Hd' a = none) (k : ∀ a ∈ as, ∀ xs, H a = some (.lst xs) → H' a = some (.lst xs)) : Rows K w Hd' H' as rs := by
  induction h with
  | nil => exact .nil
  | cons h1 h2 h3 h4 _ ih => exact .cons (n _ (List.mem_cons_self ..)) (k _ (List.mem_cons_self ..) _ h2) (h3.mono s) h4 (ih (fun a ha => n a (List.mem_cons_of_mem _ ha)) fun a ha => k a (List.mem_cons_of_mem _ ha))
theorem Rows.len (h : Rows K w Hd H as rs) : as.length = rs.length := by
  induction h with
  | nil => rfl
  | cons _ _ _ _ _ ih => rw [List.length_cons, List.length_cons, ih]
theorem Rows.app (h : Rows K w Hd H as rs) (h2 : Rows K w Hd H bs ss) (d : ∀ a ∈ as, a ∉ bs) : Rows K w Hd H (as ++ bs) (rs ++ ss) := by
  induction h with
  | nil => exact h2
  | cons g1 g2 g3 g4 _ ih =>
    refine .cons g1 g2 g3 (fun z => ?_) (ih fun a ha => d a (List.mem_cons_of_mem _ ha))
    rcases List.mem_append.mp z with z | z
    · exact g4 z
    · exact d _ (List.mem_cons_self ..) z
theorem Rows.freeze {B0 BH : Hp} {q : Addr} : ∀ {as : List Addr} {rs : List (List D)} {Hd : Hp}, Rows K w Hd H as rs → Step B0 BH Hd H → (∀ a ∈ as, BH a = none) → Hd q = none → q ∉ as → ∃ Hd', Step B0 BH Hd' H ∧ Same Hd Hd' ∧ Hd' q = none ∧ RpAll K w Hd' (as.map V.ref) (rs.map .list)
  | _, _, Hd, .nil, t, _, n, _ => ⟨Hd, t, .refl _, n, .nil⟩
  | _, _, Hd, @Rows.cons _ _ _ _ a xs r as rs h1 h2 h3 h4 h5, t, nb, n, nq => by
    have hqa : q ≠ a := fun e => nq (by rw [e]; exact List.mem_cons_self ..)
    have m := same_upd (o := HO.lst xs) h1
    have h5' : Rows K w (upd Hd a (.lst xs)) H as rs := h5.keep m (fun b hb => by rw [upd_ne (fun e => h4 (by rw [← e]; exact hb))]; exact (h5.there b hb).1) fun _ _ _ z => z
    obtain ⟨Hd', t', s', n', r'⟩ := Rows.freeze (q := q) h5' (t.freeze (nb a (List.mem_cons_self ..)) h1 h2) (fun b hb => nb b (List.mem_cons_of_mem _ hb)) (by rw [upd_ne hqa]; exact n) (fun z => nq (List.mem_cons_of_mem _ z))
    exact ⟨Hd', t', m.trans s', n', .cons (.lst (s' _ _ upd_same) (h3.mono (m.trans s'))) r'⟩
end
section
variable {X : Cx} {B : Bx} {W : WX} {e a b c : Expr} {es rest : List Expr} {st : Stmt} {sts body : List Stmt} {pos pos' p p2 : Pos} {x n m y : Str} {f f1 f2 : Sg → R D} {u u1 u2 : Sg → Out} {t1 : Sg → R Bool}
def noDc : R Ret → R Ret
  | .ok (.odc _) => .no
  | r => r
def fCallX (φ : Fn) (fs : Sg → R (List D)) : Sg → R Ret := fun g => (fs g).bind fun ds => noDc (φ ds)
theorem dret_call {x : Str} {k j : Nat} {ps : List Str} {φ : Fn} {fs : Sg → R (List D)} (F : Has X.prog X.w X.K X.mg X.base B.cl k x ps φ) (hr : Room j X.A) (hkj : k ≤ j) (tk : Takes X W) (hg : Gl X x) (ha : DA X B W (e :: es) fs) (hl : fsLen ps.length fs)
    (hdb : (x == ("__debug__" : Str)) = false := by decide) (he : starEach (e :: es) X.env = (false, eval e X.env) :: starEach es X.env := by rfl) (hpl : (backTo pos (starEach es X.env)).any (·.1) = false := by rfl) :
    PE X (.Call (.Name x p) (e :: es) [] pos) (tG X.K X.w (rlRet X.K X.w) B W (fCallX φ fs)) := by
  obtain ⟨f, fd, hm, hk, hb, hF⟩ := F.ex
  refine PE.imp (pe_callS hF (hr.mono hkj) hg hm hk hb (fun σ => passAt tk σ) ha hdb he hpl) fun σ H Q ⟨g, Hd, rep, h⟩ => ?_
  refine seq rep h fun ds vs Hd1 H1 e1 s1 r1 rep1 h1 => ⟨ds, Hd1, rep1.same, r1, hl g ds e1, ?_⟩
  cases e : φ ds with
  | no => rw [e] at h1; exact h1
  | ex x => rw [e] at h1; exact fun cls dd Hd' H' t x => h1 cls dd Hd' H' t x
  | ok r =>
    rw [e] at h1
    cases r with
    | dat d => exact fun v Hd' H' t r => h1 v Hd' H' t r
    | own l => exact fun p vs Hd' H' t n0 n hp r => h1 _ Hd' H' t ⟨p, vs, rfl, n0, n, hp, r⟩
    | odc l => exact h1.elim
/-! arguments that are lists of one's own -/
def fNilW : Sg → R (List (List D)) := fun _ => .ok []
def fConsW (f : Sg → R (List D)) (fs : Sg → R (List (List D))) : Sg → R (List (List D)) := fun g => (f g).bind fun x => (fs g).bind fun xs => .ok (x :: xs)
theorem drw_nil : PA X [] (tG X.K X.w (rlR X.K X.w) B W fNilW) := PA.imp pa_nil fun σ H Q ⟨g, Hd, rep, h⟩ => h.ok (Step.refl rep.same) ⟨[], rfl, fun a ha => (by cases ha), .nil⟩
theorem drw_cons {fo : Sg → R (List D)} {fs : Sg → R (List (List D))} (ha : DO X B W e fo) (hr : PA X es (tG X.K X.w (rlR X.K X.w) B W fs)) (hs : starEach (e :: es) X.env = (false, eval e X.env) :: starEach es X.env := by rfl) : PA X (e :: es) (tG X.K X.w (rlR X.K X.w) B W (fConsW fo fs)) :=
  PA.imp (pa_cons ha hr hs) fun σ H Q ⟨g, Hd, rep, q⟩ => by
    refine ⟨g, Hd, rep, ?_⟩
    unfold fConsW at q
    cases e1 : fo g with
    | no => rw [e1] at q; exact q
    | ex x => rw [e1] at q; exact q
    | ok r =>
      rw [e1] at q
      intro v Hd1 H1 s1 r1
      refine ⟨g, Hd1, rep.step s1, ?_⟩
      cases e2 : fs g with
      | no => rw [e2] at q; exact q
      | ex x => rw [e2] at q; exact fun cls dd Hd' H' t xx => q cls dd Hd' H' (s1.trans t) xx
      | ok rs =>
        rw [e2] at q
        intro vs Hd2 H2 s2 r2
        obtain ⟨p, xs, rfl, n0, n1, hp, ra⟩ := r1
        obtain ⟨as, rfl, na, rw2⟩ := r2
        refine q _ Hd2 H2 (s1.trans s2) ⟨p :: as, rfl, fun a ha => ?_, .cons (s2.n _ _ hp n1) (s2.h _ _ hp) (ra.mono s2.d) (fun z => ?_) rw2⟩
        · rcases List.mem_cons.mp ha with z | z
          · rw [z]; exact n0
          · exact s1.h.free (na a z)
        · have := na p z
          rw [hp] at this
          cases this
end
/-! ### a def that hands back a list of lists, all of one's own -/
abbrev FnL := List D → Option (List (List D))
section
variable (K : PySem.W.Frag) (w : World)
def OkL (Hd H : Hp) (Q : VK) : Option (List (List D)) → Prop
  | none => False
  | some rs => ∀ (p : Addr) (as : List Addr) (Hd' H' : Hp), Step Hd H Hd' H' → H p = none → Hd' p = none → (∀ a ∈ as, H a = none) → p ∉ as → H' p = some (.lst (as.map V.ref)) → Rows K w Hd' H' as rs → Q (.ref p) H'
def spLL (n : Nat) (φ : FnL) : Sp := fun vs H Q _ => ∃ (ds : List D) (Hd : Hp), Same Hd H ∧ RpAll K w Hd vs ds ∧ ds.length = n ∧ OkL K w Hd H Q (φ ds)
end
theorem spLL_len {K : PySem.W.Frag} {w : World} {n : Nat} {φ : FnL} {vs : List V} {H : Hp} {Q : VK} {E : XK} (h : spLL K w n φ vs H Q E) : vs.length = n := by
  obtain ⟨ds, Hd, s, r, l, _⟩ := h
  rw [r.length, l]
/-- .. as data -/
def liftL (φ : FnL) : Fn := fun ds => match φ ds with
  | some rs => .ok (.own (rs.map .list))
  | none => .no
section
variable {P : Program} {w : World} {K : PySem.W.Frag} {mg : Str → Option Value} {base : Heap} {cl : Nat → Addr}
theorem FnOk.lift {k n : Nat} {f : Addr} {fd : FuncData} {ps : List Str} {φ : FnL} {CX : CXT} (F : FnOk P w K mg base CX k f fd ps (spLL K w n φ)) : FnOk P w K mg base CX k f fd ps (spF K w cl n (liftL φ)) :=
  F.imp fun vs H Q E ⟨ds, Hd, s, r, l, q⟩ => ⟨ds, Hd, s, r, l, by
    unfold liftL at q
    cases e : φ ds with
    | none => rw [e] at q; exact q
    | some rs =>
      rw [e] at q
      intro p as Hd' H' t n0 n1 na npa hp rows
      obtain ⟨Hd2, t2, s2, n2, r2⟩ := Rows.freeze (q := p) rows t na n1 npa
      exact q p _ Hd2 H' t2 n0 n2 hp r2⟩
structure HasL (P : Program) (w : World) (K : PySem.W.Frag) (mg : Str → Option Value) (base : Heap) (k : Nat) (x : Str) (ps : List Str) (φ : FnL) : Prop where
  ex : ∃ f fd, mg x = some (.ref f) ∧ PySem.W.keepIn K (.ref f) = true ∧ Binds K fd ps [] ∧ FnOk P w K mg base (L2.CX P w) k f fd ps (spLL K w ps.length φ)
theorem HasL.has {k : Nat} {x : Str} {ps : List Str} {φ : FnL} (h : HasL P w K mg base k x ps φ) : Has P w K mg base cl k x ps (liftL φ) := by
  obtain ⟨f, fd, a, b, c, F⟩ := h.ex
  exact ⟨f, fd, a, b, c, FnOk.lift F⟩
end
/-! the def of the lists itself -/
section
variable (K : PySem.W.Frag) (w : World) (B : Bx) (W : WX)
def listsT (f5 f2 : Sg → R (List (List D))) (fx : Sg → R Ret) : TS :=
  tSeq (tAsg (tLst (tG K w (rlR K w) B W f5)) (gName 3))
  (tSeq (tAsg (tOp rCat (tVar 3) (tLst (tG K w (rlR K w) B W f2))) (gName 3))
  (tSeq (tAsg (tG K w (rlRet K w) B W fx) (gName 4))
  (tSeq (tIfS (tTest (tOp (fun x y H Q => y = .non ∧ Q (.bl (!decide (x = .non))) H) (tVar 4) (tC .non))) (tDrop (tBM K "list" rAppend (tVar 3) (tCons (tVar 4) tNil))) tNext)
  (tRet (tVar 3)))))
end
def listsD (f5 f2 : Sg → R (List (List D))) (fx : Sg → R Ret) : FnL := fun ds => if ds.length = 3 then (match f5 (initS 5 ds), f2 (initS 5 ds), fx (initS 5 ds) with
  | .ok a, .ok b, .ok (.dat .none) => if a.length + b.length ≤ 100 then some (a ++ b) else none
  | .ok a, .ok b, .ok (.own l) => if a.length + b.length ≤ 100 then some (a ++ b ++ [l]) else none
  | _, _, _ => none) else none
theorem rep3 {K : PySem.W.Frag} {w : World} {B : Bx} {Hd H : Hp} {v0 v1 v2 : V} {d0 d1 d2 : D} {x y : Option V} (b : Step B.Hd B.H Hd H) (r0 : Rp K w Hd v0 d0) (r1 : Rp K w Hd v1 d1) (r2 : Rp K w Hd v2 d2) : Rep K w B Hd H [some v0, some v1, some v2, x, y] [.dat d0, .dat d1, .dat d2, .un, .un] := by
  refine ⟨b, rfl, fun _ => 0, fun i j si sj _ ei _ oi _ => ?_, fun j sj ej => ?_⟩
  · match i, ei with
    | 0, e => cases e; cases oi
    | 1, e => cases e; cases oi
    | 2, e => cases e; cases oi
    | 3, e => cases e; cases oi
    | 4, e => cases e; cases oi
    | _ + 5, e => simp at e
  · match j, ej with
    | 0, e => cases e; exact ⟨v0, rfl, r0⟩
    | 1, e => cases e; exact ⟨v1, rfl, r1⟩
    | 2, e => cases e; exact ⟨v2, rfl, r2⟩
    | 3, e => cases e; trivial
    | 4, e => cases e; trivial
    | _ + 5, e => simp at e
theorem lists_read {K : PySem.W.Frag} {w : World} {cl : Nat → Addr} {f5 f2 : Sg → R (List (List D))} {fx : Sg → R Ret} {N : List Str} (hN : N.length = 5) {W : WX} (vs : List V) (ds : List D) (Hd H : Hp) (Q : VK) (sm : Same Hd H) (r : RpAll K w Hd vs ds) (hl : ds.length = 3) (q : OkL K w Hd H Q (listsD f5 f2 fx ds)) :
    listsT K w ⟨cl, Hd, H⟩ W f5 f2 fx { nx := fun _ H' => Q .non H', rt := Q } (L2.start N vs) H := by
  match ds, hl, r, q with
  | [d0, d1, d2], _, .cons (v := v0) r0 (.cons (v := v1) r1 (.cons (v := v2) r2 .nil)), q =>
    have hst : L2.start N [v0, v1, v2] = [some v0, some v1, some v2, none, none] := by
      unfold L2.start
      rw [hN]
      rfl
    rw [hst]
    have hin : initS 5 [d0, d1, d2] = [.dat d0, .dat d1, .dat d2, .un, .un] := rfl
    unfold listsD at q
    rw [if_pos (show [d0, d1, d2].length = 3 from rfl), hin] at q
    refine ⟨[.dat d0, .dat d1, .dat d2, .un, .un], Hd, rep3 (Step.refl sm) r0 r1 r2, ?_⟩
    cases e1 : f5 [.dat d0, .dat d1, .dat d2, .un, .un] with
    | no => rw [e1] at q; exact q.elim
    | ex x => rw [e1] at q; exact q.elim
    | ok ra =>
    rw [e1] at q
    intro vs1 Hd1 H1 t1 h1
    obtain ⟨as, rfl, na, rows⟩ := h1
    have hla := rows.len
    cases e2 : f2 [.dat d0, .dat d1, .dat d2, .un, .un] with
    | no => rw [e2] at q; exact q.elim
    | ex x => rw [e2] at q; exact q.elim
    | ok rb =>
    rw [e2] at q
    have hsz : ra.length + rb.length ≤ 100 := by
      cases e3 : fx [.dat d0, .dat d1, .dat d2, .un, .un] with
      | no => rw [e3] at q; exact q.elim
      | ex x => rw [e3] at q; exact q.elim
      | ok z =>
        rw [e3] at q
        cases z with
        | dat d =>
          cases d with
          | none => dsimp only at q; split at q; · assumption
                    · exact q.elim
          | _ => exact q.elim
        | own l => dsimp only at q; split at q; · assumption
                   · exact q.elim
        | odc l => exact q.elim
    have big100 : ∀ {m : Nat}, m ≤ 200 → m ≤ sizeLine := fun h => big_le (Nat.le_trans h (by unfold big; decide))
    refine ⟨by rw [List.length_map]; exact big100 (by omega), fun p1 n1 => ?_⟩
    -- found = [..]
    have t1' := t1.trans (Step.own (o := .lst (as.map V.ref)) t1.s n1)
    have rows1 := rows.step (Step.own (o := .lst (as.map V.ref)) t1.s n1)
    have hp1 : upd H1 p1 (.lst (as.map V.ref)) p1 = some (.lst (as.map V.ref)) := upd_same
    have d1n : Hd1 p1 = none := t1.s.free n1
    generalize upd H1 p1 (.lst (as.map V.ref)) = H2 at t1' rows1 hp1
    -- found + [..]
    refine ⟨_, rfl, [.dat d0, .dat d1, .dat d2, .un, .un], Hd1, rep3 t1' (r0.mono t1'.d) (r1.mono t1'.d) (r2.mono t1'.d), ?_⟩
    rw [e2]
    intro vs2 Hd3 H3 t3 h3
    obtain ⟨bs, rfl, nb, rowsb⟩ := h3
    have hlb := rowsb.len
    refine ⟨by rw [List.length_map]; exact big100 (by omega), fun p2 n2 => ?_⟩
    have t3' := t3.trans (Step.own (o := .lst (bs.map V.ref)) t3.s n2)
    have rowsA := rows1.step t3'
    have rowsB := rowsb.step (Step.own (o := .lst (bs.map V.ref)) t3.s n2)
    have hq1 := t3'.h _ _ hp1
    have hq2 : upd H3 p2 (.lst (bs.map V.ref)) p2 = some (.lst (bs.map V.ref)) := upd_same
    have nb0 : ∀ b ∈ bs, H b = none := fun b hb => t1'.h.free (nb b hb)
    have dis : ∀ a ∈ as, a ∉ bs := fun a ha hb => by
      obtain ⟨_, xs, hx⟩ := rows1.there a ha
      rw [nb a hb] at hx
      cases hx
    have rowsAB := rowsA.app rowsB dis
    have t13 := t1'.trans t3'
    generalize upd H3 p2 (.lst (bs.map V.ref)) = H4 at t3' rowsA rowsB hq1 hq2 rowsAB t13
    refine ⟨p1, p2, _, _, rfl, rfl, hq1, hq2, by rw [List.length_map, List.length_map]; exact big100 (by omega), fun p3 n3 => ?_⟩
    have t5 := Step.own (o := .lst (as.map V.ref ++ bs.map V.ref)) t13.s n3
    have rows5 := rowsAB.step t5
    have t15 := t13.trans t5
    have hp3 : upd H4 p3 (.lst (as.map V.ref ++ bs.map V.ref)) p3 = some (.lst ((as ++ bs).map V.ref)) := by rw [upd_same, List.map_append]
    have n30 : H p3 = none := t13.h.free n3
    have n3d : Hd3 p3 = none := t13.s.free n3
    have np3 : p3 ∉ as ++ bs := fun z => by
      obtain ⟨_, xs, hx⟩ := rowsAB.there p3 z
      rw [n3] at hx
      cases hx
    have nab : ∀ a ∈ as ++ bs, H a = none := fun a ha => by
      rcases List.mem_append.mp ha with z | z
      · exact na a z
      · exact nb0 a z
    have nab4 : ∀ a ∈ as ++ bs, a ≠ p3 := fun a ha e => np3 (by rw [← e]; exact ha)
    generalize upd H4 p3 (.lst (as.map V.ref ++ bs.map V.ref)) = H5 at t5 rows5 t15 hp3
    -- some = why_clash(..)
    refine ⟨[.dat d0, .dat d1, .dat d2, .un, .un], Hd3, rep3 t15 (r0.mono t15.d) (r1.mono t15.d) (r2.mono t15.d), ?_⟩
    cases e3 : fx [.dat d0, .dat d1, .dat d2, .un, .un] with
    | no => rw [e3] at q; exact q.elim
    | ex x => rw [e3] at q; exact q.elim
    | ok z =>
    rw [e3] at q
    intro v Hd6 H6 t6 h6
    have t16 := t15.trans t6
    have rows6 := rows5.step t6
    have hp6 := t6.h _ _ hp3
    have n6d := t6.n _ _ hp3 n3d
    cases z with
    | odc l => exact q.elim
    | dat d =>
      cases d with
      | none =>
        dsimp only at q
        rw [if_pos hsz] at q
        cases h6
        refine ⟨_, rfl, rfl, false, rfl, ?_⟩
        dsimp only
        rw [if_neg Bool.false_ne_true]
        exact ⟨_, rfl, q p3 (as ++ bs) Hd6 H6 t16 n30 n6d nab np3 hp6 rows6⟩
      | _ => exact q.elim
    | own l =>
      dsimp only at q
      rw [if_pos hsz] at q
      obtain ⟨c, ys, rfl, c0, c1, hc, rc⟩ := h6
      have hcp : c ≠ p3 := fun e => by rw [e, hp3] at c0; cases c0
      refine ⟨_, rfl, rfl, true, rfl, ?_⟩
      dsimp only
      rw [if_pos rfl]
      refine ⟨_, rfl, .inl ⟨rfl, _, .of hp6⟩, _, rfl, p3, _, .ref c, rfl, rfl, hp6, by rw [List.length_map, List.length_append]; exact big_lt (by unfold big; omega), ?_⟩
      refine ⟨_, rfl, q p3 (as ++ bs ++ [c]) Hd6 _ (t16.wr n30 n6d) n30 n6d (fun a ha => ?_) (fun z => ?_) (by rw [upd_same, List.map_append, List.map_append, List.map_append]; rfl) ?_⟩
      · rcases List.mem_append.mp ha with z | z
        · exact nab a z
        · rw [List.mem_singleton.mp z]; exact t15.h.free c0
      · rcases List.mem_append.mp z with z | z
        · exact np3 z
        · exact hcp (List.mem_singleton.mp z).symm
      · refine Rows.app (rows6.keep (.refl _) (fun a ha => (rows6.there a ha).1) fun a ha xs hx => by rw [upd_ne (nab4 a ha)]; exact hx) (.cons c1 (by rw [upd_ne hcp]; exact hc) rc (by simp) .nil) fun a ha hb => ?_
        rw [List.mem_singleton.mp hb] at ha
        obtain ⟨_, xs, hx⟩ := rows5.there c ha
        rw [c0] at hx
        cases hx
end G
end

section
set_option Elab.async false
set_option linter.all false
set_option maxRecDepth 100000
set_option maxHeartbeats 4000000
/-! G26: a def that copies lists, one that empties them; a block that does both to lists of one's own. -/
namespace G
open PySem PySem.Spec PyProof.Rows L2
theorem PT.gx {X : Cx} {W : WX} {e : Expr} {cl : Nat → Addr} {f : Sg → R Bool} (h : ∀ Hd0 H0, PT X e (tG X.K X.w rlB ⟨cl, Hd0, H0⟩ W f)) : PT X e (tGx X.K X.w cl rlB W f) := ⟨fun pins s σ H Q I ⟨Hd0, H0, hw⟩ => (h Hd0 H0).run pins s σ H Q I hw⟩
def notL (d : D) : Bool := noDict d && !(tyN d == "list")
section
variable (K : PySem.W.Frag) (w : World)
/-- data whose lists need not stand still, n deep -/
def RpM (Hd H : Hp) : Nat → V → D → Prop
  | 0, v, d => Rp K w Hd v d ∧ notL d = true
  | n + 1, v, d => (Rp K w Hd v d ∧ notL d = true) ∨ ∃ (a : Addr) (xs : List V) (ds : List D), v = .ref a ∧ d = .list ds ∧ H a = some (.lst xs) ∧ xs.length = ds.length ∧ xs.length ≤ big ∧ ∀ (i : Nat) (x : V) (e : D), xs[i]? = some x → ds[i]? = some e → RpM Hd H n x e
/-- copied -/
def spTw (n : Nat) : Sp := fun vs H Q _ => ∃ (v : V) (d : D) (Hd : Hp), vs = [v] ∧ Same Hd H ∧ RpM K w Hd H n v d ∧ ∀ v' Hd' H', Step Hd H Hd' H' → Rp K w Hd' v' d → Q v' H'
/-- no list: left as it is -/
def spE0 : Sp := fun vs H Q _ => ∃ (v : V) (d : D) (Hd : Hp), vs = [v] ∧ Same Hd H ∧ Rp K w Hd v d ∧ notL d = true ∧ ∀ Hd' H', Step Hd H Hd' H' → Q .non H'
/-- a list of one's own without lists: emptied -/
def spE1 : Sp := fun vs H Q _ => ∃ (a : Addr) (xs : List V) (ds : List D) (Hd : Hp), vs = [.ref a] ∧ Same Hd H ∧ Hd a = none ∧ H a = some (.lst xs) ∧ RpAll K w Hd xs ds ∧ (∀ d ∈ ds, notL d = true) ∧ ∀ Hd' H', Step Hd (del H a) Hd' H' → H' a = some (.lst []) → Hd' a = none → Q .non H'
end
section
variable {K : PySem.W.Frag} {w : World} {Hd H Hd' H' : Hp}
theorem RpM.step (t : Step Hd H Hd' H') : ∀ (n : Nat) {v : V} {d : D}, RpM K w Hd H n v d → RpM K w Hd' H' n v d
  | 0, v, d, h => ⟨h.1.mono t.d, h.2⟩
  | n + 1, v, d, h => by
    rcases h with h | ⟨a, xs, ds, e1, e2, h1, h2, h3, h4⟩
    · exact .inl ⟨h.1.mono t.d, h.2⟩
    · exact .inr ⟨a, xs, ds, e1, e2, t.h _ _ h1, h2, h3, fun i x e hx he => RpM.step t n (h4 i x e hx he)⟩
theorem rpAll_by : ∀ {xs : List V} {ds : List D}, xs.length = ds.length → (∀ (i : Nat) (x : V) (e : D), xs[i]? = some x → ds[i]? = some e → Rp K w H x e) → RpAll K w H xs ds
  | [], [], _, _ => .nil
  | x :: xs, e :: ds, hl, h => .cons (h 0 x e rfl rfl) (rpAll_by (by simpa using hl) fun i y z hy hz => h (i + 1) y z (by simpa using hy) (by simpa using hz))
theorem RpM.now (s : Same Hd H) : ∀ (n : Nat) {v : V} {d : D}, RpM K w Hd H n v d → Rp K w H v d
  | 0, v, d, h => h.1.mono s
  | n + 1, v, d, h => by
    rcases h with h | ⟨a, xs, ds, e1, e2, h1, h2, h3, h4⟩
    · exact h.1.mono s
    · subst e1
      subst e2
      exact .lst h1 (rpAll_by h2 fun i x e hx he => RpM.now s n (h4 i x e hx he))
theorem RpM.noD : ∀ (n : Nat) {v : V} {d : D}, RpM K w Hd H n v d → noDict d = true
  | 0, v, d, h => by
    have := h.2
    unfold notL at this
    rw [Bool.and_eq_true] at this
    exact this.1
  | n + 1, v, d, h => by
    rcases h with h | ⟨a, xs, ds, e1, e2, h1, h2, h3, h4⟩
    · have := h.2
      unfold notL at this
      rw [Bool.and_eq_true] at this
      exact this.1
    · subst e2; rfl
theorem rep2 {B : Bx} {v0 : V} {d0 : D} {x : Option V} (b : Step B.Hd B.H Hd H) (r0 : Rp K w Hd v0 d0) : Rep K w B Hd H [some v0, x] [.dat d0, .un] := by
  refine ⟨b, rfl, fun _ => 0, fun i j si sj _ ei _ oi _ => ?_, fun j sj ej => ?_⟩
  · match i, ei with
    | 0, e => cases e; cases oi
    | 1, e => cases e; cases oi
    | _ + 2, e => simp at e
  · match j, ej with
    | 0, e => cases e; exact ⟨v0, rfl, r0⟩
    | 1, e => cases e; trivial
    | _ + 2, e => simp at e
end
abbrev isL : Sg → R Bool := fTru (fIsi "list" (fVarT 0))
theorem isL_eq {d : D} (h : noDict d = true) : isL [.dat d, .un] = .ok (tyN d == "list") := by
  show fTru (fIsi "list" (fVarT 0)) [.dat d, .un] = _
  have e : fIsi "list" (fVarT 0) [.dat d, .un] = .ok (.bool (isiD "list" d)) := by
    show (if noDict d = true then R.ok (PyData.bool (isiD "list" d)) else .no) = _
    rw [if_pos h]
  unfold fTru
  rw [e]
  show R.ok (isiD "list" d) = _
  unfold isiD
  have : ("list" == "int") = false := by decide
  rw [this]
  simp
section
variable (K : PySem.W.Frag) (w : World) (cl : Nat → Addr)
def twT0 : TS := tSeq (tIfS (tGx K w cl rlB WF (fNot isL)) (tRet (tVar 0)) tNext) (fun _ _ _ => False)
def twT (n : Nat) : TS := tSeq (tIfS (tGx K w cl rlB WF (fNot isL)) (tRet (tVar 0)) tNext) (tRet (tLc (iList K (tVar 0)) (gName 1) tYes (tCallS (spTw K w n) (WE WF) (tCons (tVar 1) tNil)) [1]))
def emT0 : TS := tIfS (tGx K w cl rlB WF isL) (fun _ _ _ => False) tNext
def emT : TS := tIfS (tGx K w cl rlB WF isL) (tSeq (tFor (iList K (tCB (fun xs H Q => ∃ p ys, xs = [.ref p] ∧ (SqL K H p ys ∨ SqT K H p ys) ∧ ∀ l, H l = none → Q (.ref l) (upd H l (.lst ys))) (tCons (tVar 0) tNil))) (gName 1) (tDrop (tCallS (spE0 K w) (WE WF) (tCons (tVar 1) tNil)))) (tDrop (tBM0 K "list" rClear (tVar 0)))) tNext
end
theorem fNot_ok' {t : Sg → R Bool} {g : Sg} {b : Bool} (h : t g = .ok b) : fNot t g = .ok (!b) := by unfold fNot; rw [h]; rfl
section
variable {K : PySem.W.Frag} {w : World} {cl : Nat → Addr} {N : List Str}
theorem start1 (hN : N.length = 2) (v : V) : L2.start N [v] = [some v, none] := by
  unfold L2.start
  rw [hN]
  rfl
/-- asked whether it is a list: nothing turns -/
theorem ask_list {v : V} {d : D} {H : Hp} {x : Option V} {Q : Bool → Hp → Prop} {f : Sg → R Bool} {b : Bool} (r : Rp K w H v d) (e : f [.dat d, .un] = .ok b) (q : ∀ H', Same H H' → Q b H') : tGx K w cl rlB WF f [some v, x] H Q := by
  refine ⟨H, H, [.dat d, .un], H, rep2 (Step.refl (.refl _)) r, ?_⟩
  rw [e]
  intro k Hd' H' t hk
  cases (show k = b from hk)
  exact q H' t.h
theorem stepS {Hd H H' : Hp} (s : Same Hd H) (t : Same H H') : Step Hd H Hd H' := ⟨.refl _, t, s.trans t, fun _ _ _ n => n⟩
theorem tw0_read (hN : N.length = 2) {vs : List V} {H : Hp} {Q : VK} {E : XK} (h : spTw K w 0 vs H Q E) : twT0 K w cl { nx := fun _ H' => Q .non H', rt := Q } (L2.start N vs) H := by
  obtain ⟨v, d, Hd, rfl, sm, r, q⟩ := h
  rw [start1 hN]
  have nd := RpM.noD 0 r
  have hl := r.2
  refine ask_list (b := true) (r.1.mono sm) ?_ fun H' s => ?_
  · unfold notL at hl
    rw [Bool.and_eq_true] at hl
    rw [fNot_ok' (isL_eq nd)]
    rw [hl.2]
  · exact ⟨v, rfl, q v Hd H' (stepS sm s) r.1⟩
theorem tw_read (n : Nat) (hN : N.length = 2) {vs : List V} {H : Hp} {Q : VK} {E : XK} (h : spTw K w (n + 1) vs H Q E) : twT K w cl n { nx := fun _ H' => Q .non H', rt := Q } (L2.start N vs) H := by
  obtain ⟨v, d, Hd, rfl, sm, r, q⟩ := h
  rw [start1 hN]
  have nd := RpM.noD (n + 1) r
  have now := RpM.now sm (n + 1) r
  rcases r with r | ⟨a, xs, ds, e1, e2, h1, h2, h3, h4⟩
  · have hl := r.2
    refine ask_list (b := true) now ?_ fun H' s => ?_
    · unfold notL at hl
      rw [Bool.and_eq_true] at hl
      rw [fNot_ok' (isL_eq nd)]
      rw [hl.2]
    · exact ⟨v, rfl, q v Hd H' (stepS sm s) r.1⟩
  · subst e1
    subst e2
    refine ask_list (b := false) now ?_ fun H1 s => ?_
    · rw [fNot_ok' (b := true) (isL_eq nd)]
      rfl
    · have t1 := stepS sm s
      refine ⟨_, rfl, a, rfl, ⟨xs, .of (s _ _ h1)⟩, fun Dl hDl => lc_list (fun i Hc => ∃ Hd2 ys, Step Hd H Hd2 Hc ∧ Hd2 Dl = none ∧ Hc Dl = some (.lst ys) ∧ RpAll K w Hd2 ys (ds.take i)) ⟨Hd, [], t1.trans (Step.own t1.s hDl), t1.s.free hDl, upd_same, by rw [List.take_zero]; exact .nil⟩ (fun i Hc _ ⟨Hd2, ys, t, _⟩ => .of (t.h _ _ h1)) (fun i x Hc hx ⟨Hd2, ys, t, nD, hD, ra⟩ => ?_) fun Hc ⟨Hd2, ys, t, nD, hD, ra⟩ => ?_⟩
      · have hi : i < ds.length := by rw [← h2]; exact (List.getElem?_eq_some_iff.mp hx).1
        refine ⟨by simp [L2.wipe], ?_⟩
        dsimp only [tYes]
        rw [if_pos rfl]
        refine ⟨x, by simp [L2.wipe], x, ds[i], Hd2, rfl, t.s, RpM.step t n (h4 i x _ hx (List.getElem?_eq_getElem hi)), fun v' Hd' H' t' r' => ?_⟩
        have tt := t.trans t'
        have nD' := t'.n _ _ hD nD
        have hD' := t'.h _ _ hD
        have hly : ys.length ≤ big := by
          rw [ra.length, List.length_take]
          omega
        have nH : H Dl = none := s.free hDl
        refine ⟨ys, hD', ?_, Hd', ys ++ [v'], tt.wr nH nD', nD', upd_same, ?_⟩
        · have : big + 1 ≤ sizeLine := by unfold big; decide
          omega
        · rw [List.take_add_one, List.getElem?_eq_getElem hi]
          exact (ra.mono t'.d).append (.cons r' .nil)
      · rw [h2, List.take_length] at ra
        have nH : H Dl = none := s.free hDl
        exact q _ _ Hc (t.freeze nH nD hD) (.lst upd_same (ra.mono (same_upd nD)))
theorem em0_read (hN : N.length = 2) {vs : List V} {H : Hp} {Q : VK} {E : XK} (h : spE0 K w vs H Q E) : emT0 K w cl { nx := fun _ H' => Q .non H', rt := Q } (L2.start N vs) H := by
  obtain ⟨v, d, Hd, rfl, sm, r, hl, q⟩ := h
  rw [start1 hN]
  have hl' := hl
  unfold notL at hl'
  rw [Bool.and_eq_true] at hl'
  refine ask_list (b := false) (r.mono sm) ?_ fun H' s => q Hd H' (stepS sm s)
  rw [isL_eq hl'.1]
  simpa using hl'.2
theorem em_read (hN : N.length = 2) {vs : List V} {H : Hp} {Q : VK} {E : XK} (h : spE1 K w vs H Q E) : emT K w cl { nx := fun _ H' => Q .non H', rt := Q } (L2.start N vs) H := by
  obtain ⟨a, xs, ds, Hd, rfl, sm, na, ha, ra, hl, q⟩ := h
  rw [start1 hN]
  refine ask_list (d := .list ds) (b := true) (.lst ha (ra.mono sm)) ?_ fun H1 s => ?_
  · rw [isL_eq rfl]
    rfl
  have ha1 := s _ _ ha
  have t1 := stepS sm s
  refine ⟨_, rfl, a, xs, rfl, .inl (.of ha1), fun l nl => ⟨l, rfl, ⟨xs, .of upd_same⟩, ?_⟩⟩
  have t2 := t1.trans (Step.own (o := .lst xs) t1.s nl)
  have hla : l ≠ a := fun e => by rw [e, ha1] at nl; cases nl
  refine for_list (xs := xs) (fun i σ Hc => ∃ Hd2 x, σ = [some (.ref a), x] ∧ Step Hd H Hd2 Hc ∧ Hc l = some (.lst xs) ∧ Hd2 a = none) ⟨Hd, none, rfl, t2, upd_same, na⟩ (fun i σ Hc _ ⟨Hd2, x, _, t, hc, _⟩ => .of hc) (fun i x σ Hc hx ⟨Hd2, y, e, t, hc, na2⟩ => ?_) fun σ Hc ⟨Hd2, y, e, t, hc, na2⟩ => ?_
  · subst e
    obtain ⟨d, hd, rd⟩ := ra.get' hx
    refine ⟨x, rfl, x, d, Hd2, rfl, t.s, rd.mono t.d, hl d (List.mem_of_getElem? hd), fun Hd' H' t' => ⟨Hd', some x, rfl, t.trans t', t'.h _ _ hc, t'.n _ _ (t.h _ _ ha) na2⟩⟩
  · subst e
    have ha2 := t.h _ _ ha
    refine ⟨_, rfl, .inl ⟨rfl, xs, .of ha2⟩, a, xs, rfl, rfl, ha2, ?_⟩
    refine q Hd2 _ ⟨t.d, fun b o e => ?_, fun b o e => ?_, fun b o e n => ?_⟩ upd_same na2
    · by_cases z : b = a
      · subst z; rw [del_same] at e; cases e
      · rw [del_ne z] at e
        rw [upd_ne z]
        exact t.h _ _ e
    · rw [upd_ne (fun z => by rw [z, na2] at e; cases e)]
      exact t.s _ _ e
    · by_cases z : b = a
      · subst z; rw [del_same] at e; cases e
      · rw [del_ne z] at e
        exact t.n _ _ e n
end
/-! ### defs by such promises -/
structure HasS (P : Program) (w : World) (K : PySem.W.Frag) (mg : Str → Option Value) (base : Heap) (k : Nat) (x : Str) (ps : List Str) (sp : Sp) : Prop where
  ex : ∃ f fd, mg x = some (.ref f) ∧ PySem.W.keepIn K (.ref f) = true ∧ Binds K fd ps [] ∧ FnOk P w K mg base (L2.CX P w) k f fd ps sp
section
variable {P : Program} {w : World} {K : PySem.W.Frag} {mg : Str → Option Value} {base : Heap} {cl : Nat → Addr}
theorem mk_sp {x qual : Str} {st : Stmt} {f : Addr} {fd : FuncData} {N ps : List Str} {k : Nat} {sp : Sp} {t : TS} (F : Fun K x qual st f fd) (S : FnScope N ps (defScope st)) (len : ∀ vs H Q E, sp vs H Q E → vs.length = ps.length)
    (hu : ∀ (cdv : Value) (A : Around) (outer : List Env) (s : Shared) (H : Hp) (E : XK), Room k (A.deeper (envOfC qual (defScope st) s.heap.objs.size f cdv)) → PSs (cxOf (L2.CX P w) P w K mg base N qual (defScope st) f cdv A outer s H E) (defBody st) t)
    (hr : ∀ vs H Q E, sp vs H Q E → t { nx := fun _ H' => Q .non H', rt := Q } (L2.start N vs) H) : FnOk P w K mg base (L2.CX P w) (k + 1) f fd ps sp :=
  F.okX S len fun cdv A outer s H vs Q E hr' h => ⟨t, hu cdv A outer s H E hr', hr vs H Q E h⟩
theorem mk_lists {x qual : Str} {st : Stmt} {f : Addr} {fd : FuncData} {N ps : List Str} {k : Nat} {f5 f2 : Sg → R (List (List D))} {fx : Sg → R Ret} (F : Fun K x qual st f fd) (S : FnScope N ps (defScope st)) (hN : N.length = 5) (hps : ps.length = 3)
    (hu : ∀ (cdv : Value) (A : Around) (outer : List Env) (s : Shared) (H Hd : Hp) (E : XK), Room k (A.deeper (envOfC qual (defScope st) s.heap.objs.size f cdv)) → PSs (cxOf (L2.CX P w) P w K mg base N qual (defScope st) f cdv A outer s H E) (defBody st) (listsT K w ⟨cl, Hd, H⟩ (fun c d _ H' => E c d H') f5 f2 fx)) :
    FnOk P w K mg base (L2.CX P w) (k + 1) f fd ps (spLL K w ps.length (listsD f5 f2 fx)) :=
  F.okX S (fun vs H Q E h => spLL_len h) fun cdv A outer s H vs Q E hr' h => by
    obtain ⟨ds, Hd, sm, r, l, q⟩ := h
    exact ⟨_, hu cdv A outer s H Hd E hr', lists_read hN vs ds Hd H Q sm r (l.trans hps) q⟩
theorem spTw_len {n : Nat} : ∀ vs H Q E, spTw K w n vs H Q E → vs.length = 1 := fun vs H Q E ⟨v, d, Hd, e, _⟩ => by rw [e]; rfl
theorem spE0_len : ∀ vs H Q E, spE0 K w vs H Q E → vs.length = 1 := fun vs H Q E ⟨v, d, Hd, e, _⟩ => by rw [e]; rfl
theorem spE1_len : ∀ vs H Q E, spE1 K w vs H Q E → vs.length = 1 := fun vs H Q E ⟨a, xs, ds, Hd, e, _⟩ => by rw [e]; rfl
end
section
variable {X : Cx} {B : Bx} {W : WX} {e a b c : Expr} {es : List Expr} {rest : List Stmt} {S1 S2 S3 : Stmt} {pos pos' p p2 : Pos} {x n m y : Str} {u : Sg → Out}
theorem pe_callSp {x : Str} {k j : Nat} {ps : List Str} {sp : Sp} {t : TA} (F : HasS X.prog X.w X.K X.mg X.base k x ps sp) (hr : Room j X.A) (hkj : k ≤ j) (tk : Takes X W) (hg : Gl X x) (ha : PA X (e :: es) t)
    (hdb : (x == ("__debug__" : Str)) = false := by decide) (he : starEach (e :: es) X.env = (false, eval e X.env) :: starEach es X.env := by rfl) (hpl : (backTo pos (starEach es X.env)).any (·.1) = false := by rfl) :
    PE X (.Call (.Name x p) (e :: es) [] pos) (tCallS sp (WE W) t) := by
  obtain ⟨f, fd, hm, hk, hb, hF⟩ := F.ex
  exact pe_callS hF (hr.mono hkj) hg hm hk hb (fun σ => passAt tk σ) ha hdb he hpl
theorem HasL.sp {P : Program} {w : World} {K : PySem.W.Frag} {mg : Str → Option Value} {base : Heap} {k : Nat} {x : Str} {ps : List Str} {φ : FnL} (h : HasL P w K mg base k x ps φ) : HasS P w K mg base k x ps (spLL K w ps.length φ) := ⟨h.ex⟩
def okRows (rs : List (List D)) : Bool := decide (rs.length ≤ 100) && rs.all fun r => decide (r.length ≤ big) && r.all notL
/-- rows = lists(..); due = twin(rows); for row in rows: emptied(row) -/
def oRows (iR iD iW : Nat) (φ : FnL) (fs : Sg → R (List D)) (u : Sg → Out) : Sg → Out := fun g => match fs g with
  | .ok ds => (match φ ds with
    | some rs => if okRows rs && decide (iR ≠ iD) && decide (iR ≠ iW) && decide (iR < g.length) && decide (iW < g.length) then u (((g.set iR .un).set iD (.dat (.list (rs.map .list)))).set iW .un) else .no
    | none => .no)
  | _ => .no
theorem getR {σ : L2.St} {i : Nat} {v : V} (h : i < σ.length) : (σ.set i (some v))[i]? = some (some v) := List.getElem?_set_self h
theorem rows_all {K : PySem.W.Frag} {w : World} {Hd H : Hp} {as : List Addr} {rs : List (List D)} (h : Rows K w Hd H as rs) (ok : ∀ r ∈ rs, r.length ≤ big ∧ ∀ d ∈ r, notL d = true) : ∀ (i : Nat) (x : V) (e : D), (as.map V.ref)[i]? = some x → (rs.map PyData.list)[i]? = some e → RpM K w Hd H 1 x e := by
  induction h with
  | nil => intro i x e hx; simp at hx
  | @cons a xs r as rs h1 h2 h3 h4 h5 ih =>
    intro i x e hx he
    cases i with
    | zero =>
      cases hx
      cases he
      obtain ⟨o1, o2⟩ := ok r (List.mem_cons_self ..)
      refine .inr ⟨a, xs, r, rfl, rfl, h2, h3.length, by rw [h3.length]; exact o1, fun j y z hy hz => ?_⟩
      obtain ⟨z', hz', rz⟩ := h3.get' hy
      rw [hz] at hz'
      cases hz'
      exact ⟨rz, o2 z (List.mem_of_getElem? hz)⟩
    | succ i => exact ih (fun r hr => ok r (List.mem_cons_of_mem _ hr)) i x e (by simpa using hx) (by simpa using he)
theorem Rows.drop {K : PySem.W.Frag} {w : World} {Hd H : Hp} {as : List Addr} {rs : List (List D)} (h : Rows K w Hd H as rs) : ∀ i : Nat, Rows K w Hd H (as.drop i) (rs.drop i) := by
  induction h with
  | nil => intro i; simp; exact .nil
  | cons h1 h2 h3 h4 h5 ih =>
    intro i
    cases i with
    | zero => exact .cons h1 h2 h3 h4 h5
    | succ i => exact ih i
theorem dss_rows {iR iD iW : Nat} {φ : FnL} {fs : Sg → R (List D)} {nn : Nat} {W2 W3 : WX} (h1 : PS X S1 (tAsg (tCallS (spLL X.K X.w nn φ) (WE W) (tG X.K X.w (rlA X.K X.w) B W fs)) (gName iR))) (hn : fsLen nn fs) (h2 : PS X S2 (tAsg (tCallS (spTw X.K X.w 2) (WE W2) (tCons (tVar iR) tNil)) (gName iD)))
    (h3 : PS X S3 (tFor (iList X.K (tVar iR)) (gName iW) (tDrop (tCallS (spE1 X.K X.w) (WE W3) (tCons (tVar iW) tNil))))) (h4 : DSs X B W rest u) : DSs X B W (S1 :: S2 :: S3 :: rest) (oRows iR iD iW φ fs u) :=
  PSs.imp (pss_cons h1 (pss_cons h2 (pss_cons h3 h4))) fun Dn σ H ⟨g, Hd, rep, h⟩ => by
    refine ⟨g, Hd, rep, ?_⟩
    unfold oRows at h
    cases e1 : fs g with
    | no => rw [e1] at h; exact h
    | ex x => rw [e1] at h; exact h.elim
    | ok ds =>
    rw [e1] at h
    dsimp only at h
    intro vs Hd1 H1 t1 r1
    refine ⟨ds, Hd1, t1.s, r1, hn g ds e1, ?_⟩
    cases e2 : φ ds with
    | none => rw [e2] at h; exact h
    | some rs =>
    rw [e2] at h
    dsimp only at h
    split at h
    case isFalse => exact h.elim
    case isTrue hz =>
    rw [Bool.and_eq_true, Bool.and_eq_true, Bool.and_eq_true, Bool.and_eq_true, decide_eq_true_iff, decide_eq_true_iff, decide_eq_true_iff, decide_eq_true_iff] at hz
    obtain ⟨⟨⟨⟨hok, hRD⟩, hRW⟩, hRl⟩, hWl⟩ := hz
    unfold okRows at hok
    rw [Bool.and_eq_true, decide_eq_true_iff, List.all_eq_true] at hok
    have okr : ∀ r ∈ rs, r.length ≤ big ∧ ∀ d ∈ r, notL d = true := fun r hr => by
      have := hok.2 r hr
      rw [Bool.and_eq_true, decide_eq_true_iff, List.all_eq_true] at this
      exact this
    intro p as Hd2 H2 t2 n0 n1 na npa hp rows
    have t12 := t1.trans t2
    have hlen := rows.len
    have hσ : iR < σ.length := by rw [rep.len]; exact hRl
    -- the copy
    refine ⟨.ref p, getR hσ, .ref p, .list (rs.map .list), Hd2, rfl, t12.s, .inr ⟨p, as.map V.ref, rs.map .list, rfl, rfl, hp, by rw [List.length_map, List.length_map]; exact hlen, by rw [List.length_map, hlen]; exact Nat.le_trans hok.1 (by unfold big; decide), rows_all rows okr⟩, fun v' Hd3 H3 t3 r3 => ?_⟩
    have t13 := t12.trans t3
    have rows3 := rows.step t3
    have hp3 := t3.h _ _ hp
    have n3 := t3.n _ _ hp n1
    have n00 : H p = none := t1.h.free n0
    have na0 : ∀ a ∈ as, H a = none := fun a ha => t1.h.free (na a ha)
    -- the loop
    refine ⟨.ref p, ?_, p, rfl, ⟨_, .of hp3⟩, ?_⟩
    · rw [List.getElem?_set_ne hRD.symm]
      exact getR hσ
    refine for_list (xs := as.map V.ref) (fun i σ' H' => ∃ (Hd' : Hp) (x : Option V), (σ' = ((σ.set iR (some (.ref p))).set iD (some v')) ∨ ∃ x, σ' = ((σ.set iR (some (.ref p))).set iD (some v')).set iW (some x)) ∧ Step Hd H Hd' H' ∧ Same Hd3 Hd' ∧ H' p = some (.lst (as.map V.ref)) ∧ Hd' p = none ∧ Rows X.K X.w Hd' H' (as.drop i) (rs.drop i))
      ⟨Hd3, none, .inl rfl, t13, .refl _, hp3, n3, rows3⟩ (fun i σ' H' _ ⟨Hd', x, _, _, _, hp', _⟩ => .of hp') (fun i x σ' H' hx ⟨Hd', y, eσ, t, s3, hp', np', rw'⟩ => ?_) fun σ' H' ⟨Hd', y, eσ, t, s3, hp', np', rw'⟩ => ?_
    · have hi : i < as.length := by simpa using (List.getElem?_eq_some_iff.mp hx).1
      have hx2 : x = .ref as[i] := by
        rw [List.getElem?_map, List.getElem?_eq_getElem hi] at hx
        exact (Option.some.inj hx).symm
      subst hx2
      have hir : i < rs.length := by rw [← hlen]; exact hi
      rw [List.drop_eq_getElem_cons hi, List.drop_eq_getElem_cons hir] at rw'
      cases rw' with
      | @cons a xs r as' rs' g1 g2 g3 g4 g5 =>
        have hW : (σ'.set iW (some (V.ref as[i])))[iW]? = some (some (.ref as[i])) := by
          refine getR ?_
          rcases eσ with e | ⟨x, e⟩
          · rw [e, List.length_set, List.length_set, rep.len]
            exact hWl
          · rw [e, List.length_set, List.length_set, List.length_set, rep.len]
            exact hWl
        refine ⟨.ref as[i], hW, as[i], xs, rs[i], Hd', rfl, t.s, g1, g2, g3, (okr _ (List.getElem_mem hir)).2, fun Hd4 H4 t4 h4a n4 => ?_⟩
        have ain : as[i] ∈ as := List.getElem_mem hi
        have other : ∀ b o, H' b = some o → b ≠ as[i] → H4 b = some o := fun b o e z => t4.h _ _ (by rw [del_ne z]; exact e)
        have pne : p ≠ as[i] := fun e => npa (by rw [e]; exact ain)
        have none4 : ∀ b o, H' b = some o → Hd' b = none → Hd4 b = none := fun b o e m => by
          by_cases z : b = as[i]
          · rw [z]; exact n4
          · exact t4.n b o (by rw [del_ne z]; exact e) m
        have tt : Step Hd H Hd4 H4 := ⟨t.d.trans t4.d, fun b o e => other b o (t.h _ _ e) (fun z => by rw [z, na0 _ ain] at e; cases e), t4.s, fun b o e m => none4 b o (t.h _ _ e) (t.n _ _ e m)⟩
        refine ⟨Hd4, none, .inr ⟨.ref as[i], ?_⟩, tt, s3.trans t4.d, other _ _ hp' pne, none4 _ _ hp' np', ?_⟩
        · rcases eσ with e | ⟨x, e⟩
          · rw [e]
          · rw [e, List.set_set]
        · exact g5.keep t4.d (fun b hb => by
            obtain ⟨_, ys, hy⟩ := g5.there b hb
            exact none4 b _ hy (g5.there b hb).1) fun b hb ys hy => other b _ hy fun z => g4 (by rw [← z]; exact hb)
    · have rp := ((rep.step t).un iR (some (.ref p))).dat iD (r3.mono s3)
      have rpW : Rep X.K X.w B Hd' H' σ' (((g.set iR .un).set iD (.dat (.list (rs.map .list)))).set iW .un) := by
        rcases eσ with e | ⟨x, e⟩
        · rw [e]; exact rp.forget iW
        · rw [e]; exact rp.un iW (some x)
      exact ⟨_, Hd', rpW, OkO.mono t.d h⟩
end
end G
end

section
set_option Elab.async false
set_option linter.all false
set_option maxRecDepth 100000
set_option maxHeartbeats 4000000
/-! G27: a list comprehension whose element is a call that may raise. -/
namespace G
open PySem PySem.Spec PyProof.Rows L2
section
variable {X : Cx} {pins : List (Addr × Obj)} {σ : L2.St} {H : Hp} {s s' : Shared} {C : Addr} {m : Str → Option Value} {E : XK} {ce : Env} {u : Value}
/-- what a call let out in the element: noted by the def's own frame, the block let go, in the def's air -/
theorem blk_air (hs : X.stack = X.env :: X.outer) (hf : X.env.frame = some X.env.locals) (I : Inv X pins σ H s) (fC : FpOk X pins H C) (nC : s.heap.Ns C m) (hce : ce.frame = X.env.frame) (hcl : ce.locals = C)
    (tk : Takes X (fun cls d _ H' => E cls d H')) (c : L2.CX X.prog X.w X.stack H s E u s') : notedBy (model X.prog X.w) X.A ce (CompFails (model X.prog X.w) X.A X.xe ce) u s' := by
  subst hcl
  obtain ⟨a, B, H', cls, d, rfl, fl, hok, ub, na, os, ag, hE⟩ := c
  obtain ⟨oC, es, ep, eC, dC, rC⟩ := id nC
  have cfs : ce.locals ∉ frs X.stack := fun z => by
    rcases List.mem_cons.mp (I.stkSub _ z) with z | z
    · exact fC.2.1 z
    · exact fC.2.2.1 z
  have bC := ub.keep _ oC eC fC.1 cfs
  have hC' := ub.free _ oC eC fC.1
  obtain ⟨B1, hB1⟩ : ∃ B1, B1 = PySem.W.hideAll B [ce.locals] := ⟨_, rfl⟩
  have sub : ∀ b o, B1.get? b = some o → B.get? b = some o := fun b o e => PySem.W.of_hideAll [ce.locals] (by rw [← hB1]; exact e)
  have sup : ∀ b o, b ≠ ce.locals → B.get? b = some o → B1.get? b = some o := fun b o n e => by
    rw [hB1]
    exact PySem.W.hideAll_get _ e (by simpa using n)
  have gone : B1.get? ce.locals = none := by rw [hB1]; exact PySem.W.hideAll_none _ (by simp)
  have dwn : ∀ b, B.get? b = none → B1.get? b = none := fun b e => by
    cases q : B1.get? b with
    | none => rfl
    | some o =>
      have := sub b o q
      rw [e] at this
      cases this
  have fl1 : HandSPX.FlyingZ B1 (X.env :: X.outer) a (Zc cls d) s'.heap := by
    obtain ⟨f1, f2, f3, oe, vs, T, oT, ts, t1, t2, t3, t4, t5, t6⟩ := fl
    rw [hs] at f3
    exact ⟨fun b o e => f1 b o (sub b o e), dwn _ f2, funFrames_none f3 fun L hL => dwn _ (f3.mem hL).1, oe, vs, T, oT, ts, t1, t2, t3, t4, dwn _ t5, t6⟩
  have nC' : s'.heap.Ns ce.locals m := ⟨oC, es, ep, fl.1 _ _ bC, dC, rC⟩
  show wpAny _ _ (noteFrame (.ref a) ce) _ _ s'
  rw [noteFrame_env _ hce]
  refine HandSPX.looks_onZ Zc.steady (by rw [I.ok.frames, hs]) hf fl1 fun h1 held up => ?_
  have n1 : h1.Ns ce.locals m := nC'.upToSlots up
  refine ⟨m, n1, fun h2 m2 n2 sb => ?_⟩
  obtain ⟨oD, _, _, eD, dD, _⟩ := id n1
  have held2 : HandSPX.HeldZ B1 (X.env :: X.outer) a (Zc cls d) X.env.locals h2 := by
    obtain ⟨f1, f2, f3, oe, vs, T, oT, ts, t1, t2, t3, t4, t5, t6, t7, t8, t9⟩ := held
    have aC : a ≠ ce.locals := fun z => by
      rw [z, eD] at t1
      cases t1
      rw [dD] at t3
      cases t3
    have TC : T ≠ ce.locals := fun z => by
      rw [z, eD] at t7
      cases t7
      rw [dD] at t8
      cases t8
    exact ⟨fun b o e => (sb.2 b fun z => by rw [z, gone] at e; cases e).trans (f1 b o e), f2, Heap.FunFrames.sameBut sb n2 f3, oe, vs, T, oT, ts, (sb.2 a aC).trans t1, t2, t3, t4, t5, t6, (sb.2 T TC).trans t7, t8, t9⟩
  obtain ⟨oe, vs, T, oT, ts, he, hz, hd, h1', _⟩ := id held2.2.2.2
  unfold PySem.passOn
  refine wpAny_bind (wpAny_field (s := { s' with heap := h2 }) he hd h1' ?_)
  rw [if_neg (show ¬ ((Value.ref T == Value.none) = true) by simp), hce, hf]
  have fin : wpAny (model X.prog X.w) X.A (setFlight (.ref a) (some X.env.locals)) (fun _ s4 => wpAny (model X.prog X.w) X.A (throw (.ref a) : Sem Value) (fun _ _ => False) X.xe s4) X.xe { s' with heap := h2 } := by
    refine HandSPX.setFlight_onZ (s := { s' with heap := h2 }) held2 fun h3 held3 up3 => wpAny_throw ?_
    obtain ⟨G, g1, g2⟩ := restrict h3 fun b => (B1.get? b).isSome || decide (b ∈ frs X.stack)
    have gB : ∀ b o, B1.get? b = some o → G.get? b = some o := fun b o e => (g1 b (by simp [e])).trans (held3.1 b o e)
    have gF : ∀ b, b ∈ frs X.stack → G.get? b = h3.get? b := fun b hb => g1 b (by simp [hb])
    have og : ∀ b o, G.get? b = some o → h3.get? b = some o ∧ ((B1.get? b).isSome = true ∨ b ∈ frs X.stack) := fun b o e => by
      cases q : ((B1.get? b).isSome || decide (b ∈ frs X.stack)) with
      | false => rw [g2 b q] at e; cases e
      | true => exact ⟨(g1 b q).symm.trans e, by simpa [Bool.or_eq_true] using q⟩
    have slots : ∀ b o, s.heap.get? b = some o → b ∈ frs X.stack → ∃ sl, G.get? b = some { o with slots := sl } := fun b o e hb => by
      obtain ⟨sl, q⟩ := ub.slot b o e hb
      obtain ⟨_, o', e', nf⟩ := fl.2.2.1.mem hb
      rw [q] at e'
      cases e'
      obtain ⟨sl1, q1⟩ := up b _ q nf
      have q2 := (sb.2 b fun z => cfs (by rw [← z]; exact hb)).trans q1
      obtain ⟨sl3, q3⟩ := up3 b _ q2 nf
      exact ⟨sl3, (gF b hb).trans q3⟩
    have hok1 : HOk X.prog X.w H' B1 := fun b o q => (hok b o q).stay (fun c v hc r => sup c v (fun z => by
      rcases hc with hc | hc
      · rw [← hc, z, hC'] at q
        cases q
      · rw [z, hC'] at hc
        cases hc) r) (fun _ r => r) fun _ _ r => r
    refine tk _ _ ⟨a, B1, { s with heap := G, gens := s'.gens, drawn := s'.drawn, toks := s'.toks }, pins, σ, H', cls, d, rfl, ?_, fun b o e hb => ?_, Heap.UpToSlots.of_keeps fun b o e => (og b o e).1, .inr (.inr (by rw [hs]; exact held3)), na, os, ag, hE⟩
    · refine I.call (ch := [ce.locals]) ⟨fun b o e n hb hc => gB b o (sup b o (by simpa using hc) (ub.keep b o e n hb)), fun b o e _ hb _ => slots b o e hb, fun b o e n _ => ub.free b o e n, fun b o e hc => ?_, ub.tups, ub.frzs, ub.tbls⟩ (hok1.kept gB) ag fun b hb => ?_
      · by_cases hb : b ∈ frs X.stack
        · obtain ⟨sl, q⟩ := slots b o e hb
          exact ⟨_, q⟩
        · obtain ⟨o', q⟩ := ub.there b o e hb
          exact ⟨o', gB b o' (sup b o' (by simpa using hc) q)⟩
      · rw [List.mem_singleton.mp hb]
        exact ⟨fC.2.2.2.1, fC.2.1, fC.2.2.2.2.1, fC.2.2.2.2.2⟩
    · obtain ⟨e', h⟩ := og b o e
      rcases h with h | h
      · obtain ⟨o', q⟩ := Option.isSome_iff_exists.mp h
        have z := held3.1 b o' q
        rw [e'] at z
        cases z
        exact q
      · exact absurd h hb
  first
    | exact wpAny_bind fin
    | exact wpAny_bind (wpAny_pure (wpAny_bind fin))
theorem thF {α : Type} {t : Sem α} {Q Q' : α → Shared → Prop} {M : Model} {A : Around} {E : Value → Shared → Prop} {s : Shared} (h : wpAny M A t Q (fun _ _ => False) s) (hQ : ∀ a s, Q a s → Q' a s) : wpAny M A t Q' E s := wpAny_mono h hQ fun _ _ z => z.elim
abbrev BlkW (X : Cx) (s : Shared) (H : Hp) (scope : Scope) (C : Addr) (cl : List (Str × Addr)) (fp : List Addr) (E : Value → Shared → Prop) : Cx := (X.blk s H scope (compEnvC scope cl C X.env) fp).wish E
/-- name = [elt for target in iter], the name a local, the element a call that may raise -/
theorem ps_setLcX {E : XK} {i : Nat} {y : Str} {py : Pos} {elt tg iter : Expr} {scope : Scope} {own : List (Str × Nat)} {pos spos : Pos} {wi : TI} {g : L2.TG} {te : TE} (hst : X.stack = X.env :: X.outer) (hf : X.env.frame = some X.env.locals) (tk : Takes X (fun cls d _ H' => E cls d H')) (hc : X.calm = true) (hN : X.N.Nodup)
    (hy : X.N[i]? = some y) (hyl : X.env.scope.names.lookup y = some .local) (hsw : swapsWith (.ListComp elt [⟨tg, iter, [], 0⟩] scope pos) (some (.Name y py)) spos.line X.env = pure true) (hi : PI X tg iter wi) (ok : BlkOk X.N X.env.scope scope own)
    (hg : ∀ (s : Shared) (H : Hp) (C : Addr) (cl : List (Str × Addr)) (fp : List Addr), PG (X.blk s H scope (compEnvC scope cl C X.env) fp) tg g)
    (he : ∀ (s : Shared) (H : Hp) (C : Addr) (cl : List (Str × Addr)) (fp : List Addr) (xe : Value → Shared → Prop), (∀ τ, PassesAt (L2.CX X.prog X.w) (BlkW X s H scope C cl fp xe) τ E) → PE (BlkW X s H scope C cl fp xe) elt te) (hs : ∀ x, foldedSetIterable iter X.env x = pure x := by intro _; rfl) :
    PS X (.Assign [.Name y py] (.ListComp elt [⟨tg, iter, [], 0⟩] scope pos) spos) (tAsg (tLc wi g tYes te (own.map (·.2))) (gName i)) := by
  refine ⟨fun pins s σ H D I h => ?_⟩
  have h : tLc wi g tYes te (own.map (·.2)) σ H (fun x H1 => gName i x σ H1 D.nx) := h
  have cells : ∀ z ∈ scope.names, z.2 = .free → ∃ c, X.env.cells.lookup z.1 = some c := fun z hz e => (ok.free z hz e).elim (fun k => I.ok.has _ (.inl k)) fun k => I.ok.has _ (.inr k)
  rw [exec_Assign_Name_used (hs := hsw)]
  refine wpAny_bind (wpAny_standAt (wpAny_bind (wpAny_bind (wpAny_mono (comprehension_at (use := some (assign (.Name y py) X.env)) (Q := fun _ s' => SP X pins D .next s') rfl hs (closure_ok cells) ok.kind (fun z hz e => by rw [ok.uniq z hz, e]) ?_) (fun _ _ q => wpAny_pure (wpAny_pure q)) fun _ _ q => q))))
  refine thn (hi.run pins s σ H _ I h) fun v1 s1 q1 => thn q1 fun v2 s2 q2 => ?_
  obtain ⟨it, fp, tn, J, H2, rfl, I2, T, st2, f2, q⟩ := q2
  refine wpAny_newObj_type (newEnv_comp ?_) (by show 0 ≤ sizeLine; decide)
  obtain ⟨D0, eD0⟩ : ∃ D0, D0 = s2.heap.objs.size := ⟨_, rfl⟩
  obtain ⟨W, ⟨m0, w0⟩, turn⟩ := q D0 (I2.hok.fresh (by rw [eD0]; exact Nat.le_refl _))
  obtain ⟨s3, e3⟩ : ∃ s3 : Shared, s3 = { s2 with heap := s2.heap.push { cls := .type "list", data := .seq ([] : List Value).toArray } } := ⟨_, rfl⟩
  have h3 : s3.heap = s2.heap.push { cls := .type "list", data := .seq ([] : List Value).toArray } := by rw [e3]
  have keep3 : ∀ b o, s2.heap.get? b = some o → s3.heap.get? b = some o := fun b o e => by rw [h3]; exact Heap.get?_push_of_some _ e
  have I3 : Inv X pins σ (upd H2 D0 (.lst [])) s3 := by
    rw [e3]
    refine I2.laid (t' := s2.toks) (fun b o e => Heap.get?_push_of_some _ e) (by rw [eD0]; exact Nat.le_refl _) ⟨Nat.zero_le _, [], 0, .nil, ?_⟩
    rw [eD0]
    exact Heap.get?_push_size _ rfl
  have small : ∀ b ∈ fp, b < s2.heap.objs.size := fun b hb => let ⟨_, e, _⟩ := T.obj _ _ st2 b hb; Heap.lt_size e
  obtain ⟨H3, eH3⟩ : ∃ H3, H3 = upd H2 D0 (.lst []) := ⟨_, rfl⟩
  rw [← eH3] at I3 w0
  have f3 : ∀ b ∈ fp, FpOk X pins H3 b ∧ b < s3.heap.objs.size := fun b hb => by
    refine ⟨⟨?_, (f2 b hb).2⟩, by rw [h3, Heap.size_push]; exact Nat.lt_succ_of_lt (small b hb)⟩
    rw [eH3, upd_ne (fun z => by have := small b hb; rw [z, eD0] at this; exact Nat.lt_irrefl _ this)]
    exact (f2 b hb).1
  have n3 : ∀ b ∈ fp, H3 b = none := fun b hb => (f3 b hb).1.1
  have st3 : tn 0 s3.heap := T.keep _ _ _ st2 fun b _ o e => keep3 b o e
  have I4 := block_start I3 ok hN f3
  have pg := hg s3 H3 s3.heap.objs.size (cellsFrom (s3.heap.objs.size + 1) scope.names (cloFrom X.env.cells scope.names [])) fp
  have pe := he s3 H3 s3.heap.objs.size (cellsFrom (s3.heap.objs.size + 1) scope.names (cloFrom X.env.cells scope.names [])) fp
  rw [← e3, ← eD0]
  unfold BlkW at pe
  show codeAny _ _ (.compStart _ 0 (.ref it) (.ref D0) (compEnvC scope (cellsFrom (s3.heap.objs.size + 1) scope.names (cloFrom X.env.cells scope.names [])) s3.heap.objs.size X.env)) (compEnds _ _ _ _ _ (.ref D0) (compEnvC scope (cellsFrom (s3.heap.objs.size + 1) scope.names (cloFrom X.env.cells scope.names [])) s3.heap.objs.size X.env)) { s3 with heap := pushCells (s3.heap.push { cls := .type "dict", data := .dict #[] }) scope.names }
  obtain ⟨C, eC⟩ : ∃ C, C = s3.heap.objs.size := ⟨_, rfl⟩
  generalize hce : compEnvC scope (cellsFrom (s3.heap.objs.size + 1) scope.names (cloFrom X.env.cells scope.names [])) s3.heap.objs.size X.env = ce at I4 pg pe ⊢
  have ceL : ce.locals = C := by rw [← hce, eC]; rfl
  have ceF : ce.frame = X.env.frame := by rw [← hce]; rfl
  generalize hs4 : ({ s3 with heap := pushCells (s3.heap.push { cls := .type "dict", data := .dict #[] }) scope.names } : Shared) = s4 at I4 ⊢
  have st4 : tn 0 s4.heap := T.keep _ _ _ st3 fun b _ o e => by rw [← hs4]; exact pushCells_keeps _ _ _ _ (Heap.get?_push_of_some _ e)
  -- the def's own state, from one of the block's
  have back : ∀ {pb : List (Addr × Obj)} {τ : L2.St} {H' : Hp} {s' : Shared}, Inv (X.blk s3 H3 scope ce fp) pb τ H' s' → Inv X pins σ H' s' ∧ FpOk X pins H' C ∧ ∃ m, s'.heap.Ns C m := fun {pb τ H' s'} J => by
    have J0 : Inv X pins σ H' s' := I3.call' (ch := fp) J.os J.base J.hok J.bare fun b hb => let z := (f3 b hb).1.2; ⟨z.2.2.1, z.1, z.2.2.2.1, z.2.2.2.2⟩
    obtain ⟨m, hm, _⟩ := J.loc
    have fr : H' ce.locals = none := J.free
    have hm : s'.heap.Ns ce.locals m := hm
    rw [ceL] at hm fr
    exact ⟨J0, I3.fpOk (by rw [eC]; exact Nat.le_refl _) fr, m, hm⟩
  have pass : ∀ τ, PassesAt (L2.CX X.prog X.w) ((X.blk s3 H3 scope ce fp).wish (notedBy (model X.prog X.w) X.A ce (CompFails (model X.prog X.w) X.A X.xe ce))) τ E := fun τ pb H' s' u s'' J c => by
    obtain ⟨J0, fC, m, nC⟩ := back J.unwish
    exact blk_air hst hf J0 fC nC ceF ceL tk c
  have pe := pe _ pass
  have stat : ∀ {τ : L2.St} {H' : Hp} {s' : Shared}, Inv (X.blk s3 H3 scope ce fp) [] τ H' s' → (∀ b ∈ fp, H' b = none) → ∀ b ∈ fp, FpOk (X.blk s3 H3 scope ce fp) [] H' b := fun {τ H' s'} J hn b hb =>
    ⟨hn b hb, (J.ok.exf b hb).1, J.ok.exfs b hb, .inl hb, fun x c e => (J.ok.exf b hb).2 x c e, fun p hp => by cases hp⟩
  have loop : codeAny (model X.prog X.w) X.A (.compLoop (.ListComp elt [⟨tg, iter, [], 0⟩] scope pos) 0 (.ref it) (.ref D0) ce) (compEnds (model X.prog X.w) X.A X.xe (some (assign (.Name y py) X.env)) (fun _ s' => SP X pins D .next s') (.ref D0) ce) s4 := by
    refine compLoop_any (fun n s' => ∃ j H', Inv (X.blk s3 H3 scope ce fp) [] (wipe σ (own.map (·.2))) H' s' ∧ tn j s'.heap ∧ (∀ b ∈ fp, H' b = none) ∧ W j n H') ?_ m0 ⟨0, H3, I4, st4, n3, w0⟩
    rintro n s5 ⟨j, H5, I5, st5, n5, w5⟩
    rcases turn j n H5 w5 with ⟨stop, qq⟩ | ⟨go, Nx, hNx, step⟩
    · refine thF (T.done (X.blk s3 H3 scope ce fp) rfl rfl rfl hc j [] s5 _ H5 (fun _ _ => False) I5 (stat I5 n5) st5 stop) fun r s6 q6 => ?_
      obtain ⟨rfl, I6⟩ := q6
      obtain ⟨I7, fC, m, nC⟩ := back I6
      obtain ⟨g0, g1, g2, g3, g4, g5⟩ := fC
      show wpAny _ _ (assign (.Name y py) X.env (.ref D0)) _ _ s6
      refine wpAny_assign_Name (store_ok2 (v := V.ref D0) I7 hN hy (.inl hyl) rfl (fun s7 I8 ⟨a, sb, ha⟩ => ?_) (.inr hyl))
      have aC : C ≠ a := ha.elim (fun z => by rw [z]; exact g1) fun z e => g4 y a z e.symm
      rw [ceL]
      exact ⟨m, nC.sameBut sb aC, fun h8 sb8 => ⟨_, H5, I8.turned (t' := s7.toks) (fun b o hb e => (sb8.2 b hb).trans e) g0 g1 g3 g4 g5, qq⟩⟩
    · refine thF (T.item (X.blk s3 H3 scope ce fp) rfl rfl rfl hc j [] s5 _ H5 (fun _ _ => False) I5 (stat I5 n5) st5 go) fun r s6 q6 => ?_
      obtain ⟨u, rfl, h6⟩ := q6
      refine thF h6 fun _ s7 q7 => ?_
      obtain ⟨x, H7, I7, r7, y7, st7, n7⟩ := q7
      refine thF (pg.run _ s7 _ H7 x u _ (I7.pinned (stat I7 n7) (T.obj _ _ st7)) r7 (step x H7 y7)) fun _ s8 q8 => ?_
      obtain ⟨σ8, H8, I8, hw8, q8⟩ := q8
      refine thF ((pts_nil (X := X.blk s3 H3 scope ce fp)).run _ s8 σ8 H8 _ I8 q8) fun b s9 q9 => ?_
      obtain ⟨H9, I9, q9⟩ := q9
      have fin : ∀ {s' : Shared} {H' : Hp}, Inv (X.blk s3 H3 scope ce fp) ([] ++ pinsAt fp s7.heap) σ8 H' s' → Nx H' → ∃ m, m < n ∧ ∃ j H', Inv (X.blk s3 H3 scope ce fp) [] (wipe σ (own.map (·.2))) H' s' ∧ tn j s'.heap ∧ (∀ b ∈ fp, H' b = none) ∧ W j m H' := fun {s' H'} J nx => by
        obtain ⟨m', hm, w'⟩ := hNx H' nx
        have pin : ∀ b ∈ fp, ∀ o, s7.heap.get? b = some o → s'.heap.get? b = some o ∧ H' b = none := fun b hb o e => let z := J.pin (b, o) (List.mem_append_right _ (List.mem_append_right _ (mem_pinsAt hb e))); ⟨z.1, z.2.1⟩
        refine ⟨m', hm, j + 1, H', (J.unpinned (pins := [])).weak (by rw [← hw8, wipe_length]) (fun k v e => ?_), T.keep _ _ _ st7 fun b hb o e => (pin b hb o e).1, fun b hb => let ⟨o, e, _⟩ := T.obj _ _ st7 b hb; (pin b hb o e).2, w'⟩
        rw [← hw8] at e
        exact (wipe_some e).1
      cases b with
      | false => simp only [Bool.false_eq_true, if_false] at q9 ⊢; exact fin I9 q9
      | true =>
        simp only [if_true] at q9 ⊢
        refine wpAny_mono (pe.run _ s9 σ8 H9 _ (I9.wish _) q9) (fun z s10 q10 => ?_) fun _ _ q => q
        obtain ⟨yv, H10, I10, r10, acc, hD10, hz10, nx⟩ := q10
        exact app_ok (X := X.blk s3 H3 scope ce fp) I10.unwish hD10 hz10 r10 fun s11 I11 => fin I11 nx
  exact codeAny_compStart_list loop (T.self X.A 0 _ _ _ st4 loop)
end
end G
end

section
set_option Elab.async false
set_option linter.all false
set_option maxRecDepth 100000
set_option maxHeartbeats 4000000
/-! G28: name = [def(x) for x in ..], the def raising: as a Lean function. -/
namespace G
open PySem PySem.Spec PyProof.Rows L2
def compX (t : Tg) (te : Sg → R D) (g0 : Sg) : List D → R (List D)
  | [] => .ok []
  | d :: ds => match t d g0 with
    | none => .no
    | some g1 => match te g1 with
      | .ok y => (compX t te g0 ds).map (y :: ·)
      | .ex e => .ex e
      | .no => .no
def fLcX (ixs : List Nat) (src : Sg → R (List D)) (t : Tg) (te : Sg → R D) : Sg → R (List D) := fun g => (src g).bind fun ds => if ds.length ≤ big then compX t te (gwipe g ixs) ds else .no
abbrev WK (E : XK) : WX := fun cls d _ H' => E cls d H'
section
variable {X : Cx} {B : Bx} {E : XK} {e : Expr} {es : List Expr} {pos p : Pos}
theorem R.map_map {α β γ : Type} (r : R α) (f : α → β) (h : β → γ) : (r.map f).map h = r.map fun x => h (f x) := by cases r <;> rfl
theorem imp_lcX {ixs vs : List Nat} {src : Sg → R (List D)} {t : Tg} {te : Sg → R D} (hix : ∀ i ∈ ixs, i ∈ vs) {K : PySem.W.Frag} {w : World} {σ : L2.St} {H : Hp} {Q : VK} (h : tG K w (rlO K w) B (WK E) (fLcX vs src t te) σ H Q) :
    tLc (tG K w (rlJ K w) B (WK E) src) (tGt K w B ixs t) tYes (tG K w (rlD K w) B (WK E) te) vs σ H Q := by
  obtain ⟨g, Hd, rep, h⟩ := h
  refine seq rep h fun ds J Hd1 H1 e1 s1 ok rep1 h1 => ?_
  have ok : ItOk K w Hd1 J ds := ok
  split at h1
  case isFalse => exact no_elim h1
  case isTrue hz =>
    intro Dl hDl
    have wk : Walk J ds.length (fun H => Same Hd1 H) (fun i H x H' => J.yld i H x H') := ⟨fun i H hi s => ok.goes i H hi s, fun H s => ok.stops H s, fun _ _ _ _ _ _ y => y⟩
    generalize et0 : compX t te (gwipe g vs) ds = total at h1
    refine lc_it wk (fun i H => ∃ Hd2 acc done, Step Hd1 H1 Hd2 H ∧ Hd2 Dl = none ∧ H Dl = some (.lst acc) ∧ RpAll K w Hd2 acc done ∧ done.length ≤ i ∧ (compX t te (gwipe g vs) (ds.drop i)).map (done ++ ·) = total)
      ⟨Hd1, [], [], Step.own rep1.same hDl, rep1.same.free hDl, upd_same, .nil, Nat.le_refl _, by rw [List.drop_zero, et0]; cases total <;> rfl⟩ (fun i H _ ⟨Hd2, acc, done, s, _⟩ => s.d.trans s.s) (fun i x H H' hi ⟨Hd2, acc, done, s, n, hD, ra, ld, et⟩ y => ?_) fun H ⟨Hd2, acc, done, s, n, hD, ra, ld, et⟩ => ?_
    · obtain ⟨d, Hd3, hd, st2, rd⟩ := ok.yld i H x H' hi y Hd2 s.d s.s
      have s3 := s.trans st2
      have n3 := st2.n _ _ hD n
      have rep2 : Rep K w B Hd3 H' (wipe σ vs) (gwipe g vs) := (rep1.step s3).wipe vs
      have ed : ds.drop i = d :: ds.drop (i + 1) := by
        obtain ⟨hl, e⟩ := List.getElem?_eq_some_iff.mp hd
        rw [List.drop_eq_getElem_cons hl, e]
      rw [ed] at et
      unfold compX at et
      refine ⟨d, gwipe g vs, Hd3, rep2, rd, ?_⟩
      cases e2 : t d (gwipe g vs) with
      | none => rw [e2] at et; rw [← et] at h1; exact no_elim h1
      | some g1 =>
        rw [e2] at et
        simp only at et
        refine fun σ2 r2 l2 k2 => ⟨(wipe_eq l2 fun j hj => k2 j fun z => hj (hix j z)).trans (wipe_wipe vs), ?_⟩
        have hDl' : H' Dl = some (.lst acc) := st2.h _ _ hD
        unfold tYes
        dsimp only
        rw [if_pos rfl]
        refine ⟨g1, Hd3, r2, ?_⟩
        cases e4 : te g1 with
        | no => rw [e4] at et; rw [← et] at h1; exact no_elim h1
        | ex x =>
          rw [e4] at et
          rw [← et] at h1
          exact fun cls dd Hd' H' st x' => h1 cls dd Hd' H' (s3.trans st) x'
        | ok yd =>
          rw [e4] at et
          intro yv Hd5 H5 st5 ry
          simp only at et
          rw [R.map_map] at et
          have s5 := s3.trans st5
          have n5 := st5.n _ _ hDl' n3
          have hD5 := st5.h _ _ hDl'
          have la : acc.length ≤ i := by rw [ra.length]; exact ld
          refine ⟨acc, hD5, big_lt (by omega), Hd5, acc ++ [yv], done ++ [yd], ⟨s5.d, fun b o hb => ?_, fun b o hb => ?_, s5.n⟩, n5, upd_same, (ra.mono (st2.d.trans st5.d)).append (.cons ry .nil), by rw [List.length_append]; simp; omega, ?_⟩
          · rw [upd_ne (ne_of_none hb hDl)]
            exact s5.h _ _ hb
          · rw [upd_ne (ne_of_none hb n5)]
            exact s5.s _ _ hb
          · rw [← et]
            congr 1
            funext z
            simp
    · rw [List.drop_length] at et
      have et : R.ok (done ++ []) = total := et
      rw [List.append_nil] at et
      rw [← et] at h1
      exact h1.ok s ⟨Dl, acc, rfl, hDl, n, hD, ra⟩
/-- the element -/
theorem de_callX {x : Str} {k j : Nat} {ps : List Str} {φ : Fn} {fs : Sg → R (List D)} (F : Has X.prog X.w X.K X.mg X.base B.cl k x ps φ) (hr : Room j X.A) (hkj : k ≤ j) (hp : ∀ τ, PassesAt (L2.CX X.prog X.w) X τ E) (hg : Gl X x) (ha : DA X B (WK E) (e :: es) fs) (hl : fsLen ps.length fs)
    (hdb : (x == ("__debug__" : Str)) = false := by decide) (he : starEach (e :: es) X.env = (false, eval e X.env) :: starEach es X.env := by rfl) (hpl : (backTo pos (starEach es X.env)).any (·.1) = false := by rfl) :
    DE X B (WK E) (.Call (.Name x p) (e :: es) [] pos) (fCall φ fs) := by
  obtain ⟨f, fd, hm, hk, hb, hF⟩ := F.ex
  exact PE.imp (pe_callS (E := fun _ => E) hF (hr.mono hkj) hg hm hk hb (fun τ => hp τ) ha hdb he hpl) fun _ _ _ h => imp_call (W := WK E) hl h
/-- the statement -/
theorem ds_setLcX {i : Nat} {y : Str} {py : Pos} {elt tg iter : Expr} {scope : Scope} {own : List (Str × Nat)} {pos spos : Pos} {src : Sg → R (List D)} {ixs : List Nat} {t : Tg} {te : Sg → R D} (hst : X.stack = X.env :: X.outer) (hf : X.env.frame = some X.env.locals) (tk : Takes X (WK E)) (hc : X.calm = true) (hN : X.N.Nodup)
    (hy : X.N[i]? = some y) (hyl : X.env.scope.names.lookup y = some .local) (hsw : swapsWith (.ListComp elt [⟨tg, iter, [], 0⟩] scope pos) (some (.Name y py)) spos.line X.env = pure true) (hi : DI X B (WK E) tg iter src) (ok : BlkOk X.N X.env.scope scope own)
    (hg : ∀ (s : Shared) (H : Hp) (C : Addr) (cl : List (Str × Addr)) (fp : List Addr), DG (X.blk s H scope (compEnvC scope cl C X.env) fp) B tg ixs t)
    (he : ∀ (s : Shared) (H : Hp) (C : Addr) (cl : List (Str × Addr)) (fp : List Addr) (xe : Value → Shared → Prop), (∀ τ, PassesAt (L2.CX X.prog X.w) (BlkW X s H scope C cl fp xe) τ E) → DE (BlkW X s H scope C cl fp xe) B (WK E) elt te) (hix : ∀ i ∈ ixs, i ∈ own.map (·.2) := by decide) (hs : ∀ x, foldedSetIterable iter X.env x = pure x := by intro _; rfl) :
    DS X B (WK E) (.Assign [.Name y py] (.ListComp elt [⟨tg, iter, [], 0⟩] scope pos) spos) (oSetO i (fLcX (own.map (·.2)) src t te)) :=
  PS.imp (ps_setLcX hst hf tk hc hN hy hyl hsw hi ok hg he hs) fun Dn σ H ⟨g, Hd, rep, h⟩ => imp_lcX hix (okE rep h fun d v Hd1 H1 t r rep1 h1 => h1 _ Hd1 H1 (.refl _) (rep.newL t rep1 r i))
end
end G
end

section
set_option Elab.async false
set_option linter.all false
set_option maxRecDepth 100000
set_option maxHeartbeats 4000000
/-! G29: a lambda as a key: (0 - guess.count(one), one), guess a captured tuple of ints. -/
namespace G
open PySem PySem.Spec PyProof.Rows L2
theorem plain_ints : ∀ xs : List Int, PyData.plainAll (xs.map .int) = true
  | [] => by simp [PyData.plainAll]
  | x :: xs => by
    show PyData.plainAll (.int x :: xs.map .int) = true
    rw [PyData.plainAll, plain_ints xs]
    simp [PyData.plain]
section
variable {prog : Program} {w : World} {A : Around} {E : Value → Shared → Prop} {s : Shared} {env : Env} {m : Str → Option Value} {cg g : Addr} {v : Int} {t : Tok} {us : Array Value} {xs : List Int} {as : List Addr} {p1 p2 p3 p4 p5 p6 p7 p8 : Pos} {j x1 : Nat}
theorem key_eval {Q : Value → Shared → Prop} (hk : env.scope.kind = .function) (k1 : env.kindOf "one" = some .local) (k2 : env.kindOf "guess" = some .free) (hc : env.cells.lookup ("guess" : Str) = some cg) (hcell : s.heap.IsCell cg (some (.ref g)))
    (hns : s.heap.Ns env.locals m) (hm : m "one" = some (.int v t)) (hg : s.heap.IsTuple g us) (hgd : ∃ ob, s.heap.get? g = some ob ∧ ob.dict = none) (rs : ReadsAll s.heap us.toList (xs.map .int) as) (hu : A.units + 65 < cLine) (hline : (p3.endLine == p5.line) = true)
    (h : ∀ h' tk a, (∀ b o, s.heap.get? b = some o → h'.get? b = some o) → Reads h' (.ref a) (.tuple [.int (0 - (xs.count v : Nat)), .int v]) [] → Q (.ref a) { s with heap := h', toks := tk }) :
    wpAny (model prog w) A (eval (.Tuple [.BinOp (.Constant (.int 0) j p1) .Sub (.Call (.Attribute (.Name "guess" p2) "count" p3) [.Name "one" p4] [] p5) p6, .Name "one" p7] x1 p8) env) Q E s := by
  have one : ∀ {s' : Shared} {p : Pos} {Q' : Value → Shared → Prop}, s'.heap = s.heap → Q' (.int v t) s' → wpAny (model prog w) A (eval (.Name "one" p) env) Q' E s' := fun {s' p Q'} e q =>
    wpAny_Name (wpAny_loadName_local hk k1 (by rw [e]; exact hns) hm q) (by decide)
  refine wpAny_Tuple_spliced ?_
  show wpAny _ _ (spliced [(false, _), (false, _)]) _ _ _
  refine Calls.spliced_cons (wpAny_BinOp (wpAny_Constant_int ?_))
  refine wpAny_Call_method_late rfl rfl hline rfl (wpAny_Name (wpAny_loadName_free hk k2 hc hcell ?_) (by decide))
  obtain ⟨ob, eo, co, n, dob⟩ := id hg
  refine ⟨"tuple", "tuple.count", PySem.F.plainAttrs_tuple, PySem.F.slot_tuple_count, PySem.F.type_tuple_count, ⟨ob, eo, co⟩, fun a ea => ?_, ?_⟩
  · cases ea
    exact hgd
  refine Calls.callWith_builtin rfl (Calls.evalArgs_plain (Calls.spliced_cons (one rfl (Calls.spliced_nil ?_))))
  refine SeqAt.count_tuple_data (xs := xs.map .int) hg rs (.int v t) (plain_ints xs) rfl (by simp [PyData.depth]; omega) ?_
  refine sub_int ?_
  refine Calls.spliced_cons (one rfl (Calls.spliced_nil ⟨by show 2 ≤ sizeLine; decide, ?_⟩))
  have ec : ((xs.map PyData.int).countP fun y => PyData.eqv y (.int v)) = xs.count v := by
    rw [List.countP_map, List.count_eq_countP]
    congr 1
  rw [ec]
  refine h _ _ _ (fun b o e => Heap.get?_push_of_some _ e) (.tuple (Heap.get?_push_size _ rfl) rfl rfl (.cons (.int _ _) (.cons (.int _ _) .nil)))
theorem key_call {f c' : Addr} {cl : List (Str × Addr)} {qual : Str} {params : Arguments} {scope : Scope} {pm ctv : Value} (hd : A.depth < recursionLimit) (hu : A.units + 3 + 65 < cLine) (lim : s.heap.NoLimit)
    (hf : s.heap.get? f = some (PySem.W.kla_obj "<lambda>" qual params (.Tuple [.BinOp (.Constant (.int 0) j p1) .Sub (.Call (.Attribute (.Name "guess" p2) "count" p3) [.Name "one" p4] [] p5) p6, .Name "one" p7] x1 p8) scope cl pm c' ctv))
    (hcode : ∃ (oc : Obj) (vs : Array Value) (tq : Tok), s.heap.get? c' = some oc ∧ oc.data = .fields vs ∧ vs[1]? = some (.str qual tq)) (sco : scope.isCoroutine = false) (sgen : scope.isGenerator = false) (hk : scope.kind = .function)
    (k1 : scope.names.lookup ("one" : Str) = some .local) (k2 : scope.names.lookup ("guess" : Str) = some .free) (kc : ∀ x ∈ scope.names, x.2 ≠ .cell) (hc : cl.lookup ("guess" : Str) = some cg) (hcell : s.heap.IsCell cg (some (.ref g)))
    (hg : s.heap.IsTuple g us) (hgd : ∃ ob, s.heap.get? g = some ob ∧ ob.dict = none) (rs : ReadsAll s.heap us.toList (xs.map .int) as) (hline : (p3.endLine == p5.line) = true)
    (hbind : bindArgs (PySem.W.kla_fn "<lambda>" qual params (.Tuple [.BinOp (.Constant (.int 0) j p1) .Sub (.Call (.Attribute (.Name "guess" p2) "count" p3) [.Name "one" p4] [] p5) p6, .Name "one" p7] x1 p8) scope cl pm (.ref c') ctv) ⟨[Value.int v t], []⟩ = pure [(("one" : Str), Value.int v t)]) :
    wpAny (model prog w) A (call (.ref f) [Value.int v t]) (PySem.W.KeyPure (.tuple [.int (0 - (xs.count v : Nat)), .int v]) s) (fun _ _ => False) s := by
  obtain ⟨oc, vs, tq, hoc, hdc, hvc⟩ := hcode
  refine wpAny_call (PySem.W.kla_callFunE hd hf rfl sco sgen rfl ⟨c', oc, vs, tq, rfl, hoc, hdc, hvc⟩ ?_)
  rw [hbind]
  refine wpAny_pure (wpAny_newFunctionEnv kc (fun y hy => by rw [List.mem_singleton.mp hy]; exact k1) (fun h₁ hns hsb => ⟨lim.fresh _ hsb, ?_⟩) hk)
  have kp : ∀ (a : Addr) (u : Obj), s.heap.get? a = some u → h₁.get? a = some u := fun a u y => by
    have far := Nat.ne_of_lt (Heap.lt_size y)
    exact hsb.extBut a u far (Heap.get?_push_of_some _ y)
  obtain ⟨ob, eo, co, n, dob⟩ := id hg
  obtain ⟨o2, e2, d2⟩ := hgd
  obtain ⟨o3, e3, d3⟩ := hcell
  refine PySem.W.kla_codeExpr (key_eval (cg := cg) (g := g) (us := us) (xs := xs) (as := as) (m := fun y => [(("one" : Str), Value.int v t)].reverse.lookup y) hk k1 k2 hc ⟨o3, kp _ _ e3, d3⟩ hns rfl ⟨ob, kp _ _ eo, co, n, dob⟩ ⟨o2, kp _ _ e2, d2⟩ (PyProof.Rows.ReadsAll.keeps kp rs) hu hline fun h' tk a k3 r => ?_)
  exact ⟨h', tk, rfl, fun b o e => k3 b o (kp b o e), r⟩
end
end G
end

section
set_option Elab.async false
set_option linter.all false
set_option maxRecDepth 100000
set_option maxHeartbeats 4000000
/-! G30: sorted(ints, key=lambda one: (0 - guess.count(one), one)): guess a captured parameter. -/
namespace G
open PySem PySem.Spec PyProof.Rows L2
/-- the key -/
def keyD (xs : List Int) (v : Int) : D := .tuple [.int (0 - (xs.count v : Nat)), .int v]
def sortK (xs ys : List Int) : List Int := ys.mergeSort (PySem.W.dataLe false (keyD xs))
/-- ys = the list, xs = the tuple in slot i; the table at P of code objects named q -/
def tSortKey (ta : TE) (i : Nat) (P : Addr) (q : Str) : TE := fun σ H Q => ta σ H fun x H1 => ∃ (L g : Addr) (ys xs : List Int), x = .ref L ∧ H1 L = some (.lst (ys.map V.int)) ∧ σ[i]? = some (some (.ref g)) ∧ Fz H1 g (xs.map V.int) ∧ LamX.TabS H1 P q ∧ ys.length ≤ 1000 ∧ xs.length ≤ 1000 ∧
  ∀ (H2 : Hp) (R : Addr), LamX.ExtN H1 H2 → LamX.TabS H2 P q → H2 R = none → Q (.ref R) (upd H2 R (.lst ((sortK xs ys).map V.int)))
theorem ints_each : ∀ {its : List Value} {ys : List Int}, Vals (ys.map V.int) its → PySem.W.EachIs (fun v (x : Int) => ∃ t, v = Value.int x t) its ys
  | its, [], h => by
    cases h
    exact .nil
  | its, y :: ys, h => by
    cases h with
    | cons r rs =>
      obtain ⟨t, rfl⟩ := r
      exact .cons ⟨t, rfl⟩ (ints_each rs)
theorem ints_from : ∀ {its : List Value} {ys : List Int}, PySem.W.EachIs (fun v (x : Int) => ∃ t, v = Value.int x t) its ys → Vals (ys.map V.int) its
  | _, _, .nil => .nil
  | _, _, .cons ⟨t, e⟩ r => .cons ⟨t, e⟩ (ints_from r)
theorem ints_reads {h : Heap} : ∀ {its : List Value} {ys : List Int}, Vals (ys.map V.int) its → ReadsAll h its (ys.map .int) []
  | its, [], r => by
    cases r
    exact .nil
  | its, y :: ys, r => by
    cases r with
    | cons r rs =>
      obtain ⟨t, rfl⟩ := r
      exact .cons (.int _ _) (ints_reads rs)
section
variable {X : Cx} {a : Expr} {ta : TE} {i j x1 : Nat} {c P : Addr} {params : Arguments} {scope : Scope} {p pos kpos lpos p1 p2 p3 p4 p5 p6 p7 p8 : Pos}
abbrev keyBody (p1 p2 p3 p4 p5 p6 p7 p8 : Pos) (j x1 : Nat) : Expr := .Tuple [.BinOp (.Constant (.int 0) j p1) .Sub (.Call (.Attribute (.Name "guess" p2) "count" p3) [.Name "one" p4] [] p5) p6, .Name "one" p7] x1 p8
theorem pe_sortkey {k : Nat} (hr : Room k X.A) (hg : Gl X "sorted") (hm : X.mg "sorted" = none) (ha : PE X a ta) (TB : LamX.TabB X.base X.mg c P) (hcode : X.env.code = .ref c) (hdef : defaultsOf params X.env = ([], [])) (hN : X.N[i]? = some ("guess" : Str)) (hkind : X.env.kindOf "guess" = some .cell)
    (hfree : ∀ y ∈ scope.names, y.2 = .free → y.1 = ("guess" : Str)) (hmem : (("guess" : Str), NameKind.free) ∈ scope.names) (sco : scope.isCoroutine = false) (sgen : scope.isGenerator = false) (hk : scope.kind = .function) (k1 : scope.names.lookup ("one" : Str) = some .local) (k2 : scope.names.lookup ("guess" : Str) = some .free) (kc : ∀ x ∈ scope.names, x.2 ≠ .cell) (hline : (p3.endLine == p5.line) = true)
    (hbind : ∀ (q : Str) (cl : List (Str × Addr)) (pm cv ctv : Value) (v : Int) (t : Tok), bindArgs (PySem.W.kla_fn "<lambda>" q params (keyBody p1 p2 p3 p4 p5 p6 p7 p8 j x1) scope cl pm cv ctv) ⟨[Value.int v t], []⟩ = pure [(("one" : Str), Value.int v t)])
    (hst : starEach [a] X.env = (false, eval a X.env) :: starEach [] X.env := by rfl) (he : backTo pos (starEach [a] X.env) = (false, eval a X.env) :: backTo pos (starEach [] X.env) := by rfl) (hpl : (backTo pos (starEach [a] X.env)).any (·.1) = false := by rfl) :
    PE X (.Call (.Name "sorted" p) [a] [⟨some "key", .Lambda params (keyBody p1 p2 p3 p4 p5 p6 p7 p8 j x1) scope lpos, kpos⟩] pos) (tSortKey ta i P (X.env.qual ++ "<lambda>")) := by
  refine ⟨fun pins s σ H Q I h => ?_⟩
  refine wpAny_Call_Name_kw (ld_blt I hg hm boot_sorted ?_ (by decide) (by decide))
  refine PyProof.Rows.callWith_kw ?_ he hpl rfl rfl
  have fr : ∀ y ∈ scope.names, y.2 = .free → ∃ c, X.env.cells.lookup y.1 = some c := fun y hy e => by
    rw [hfree y hy e]
    exact I.ok.has _ (.inl hkind)
  refine thn ((pa_cons ha pa_nil hst).run pos pins s σ H (fun vs H1 => match vs with
    | [x] => ∃ (L g : Addr) (ys xs : List Int), x = .ref L ∧ H1 L = some (.lst (ys.map V.int)) ∧ σ[i]? = some (some (.ref g)) ∧ Fz H1 g (xs.map V.int) ∧ LamX.TabS H1 P (X.env.qual ++ "<lambda>") ∧ ys.length ≤ 1000 ∧ xs.length ≤ 1000 ∧
      ∀ (H2 : Hp) (R : Addr), LamX.ExtN H1 H2 → LamX.TabS H2 P (X.env.qual ++ "<lambda>") → H2 R = none → Q (.ref R) (upd H2 R (.lst ((sortK xs ys).map V.int)))
    | _ => False) I h) fun us s1 ⟨vs, H1, I1, r1, q1⟩ => ?_
  match vs, r1, q1 with
  | [x], r1, q1 =>
  obtain ⟨L, g, ys, xs, rfl, hL, hσ, hz, hT, ly, lx, q⟩ := q1
  obtain ⟨u, rfl, ru⟩ := vals1 r1
  cases ru
  show wpAny _ _ (evalAll ((do let v ← eval (.Lambda params (keyBody p1 p2 p3 p4 p5 p6 p7 p8 j x1) scope lpos) X.env; standAt pos; pure v) :: [])) _ _ s1
  have hT1 : LamX.Tabs [(P, X.env.qual ++ "<lambda>")] H1 := fun p hp => by rw [List.mem_singleton.mp hp]; exact hT
  refine wpAny_evalAll_cons (wpAny_bind (LamX.lam_make2 I1 TB hcode (List.mem_singleton.mpr rfl) (fun p hp _ => by rw [List.mem_singleton.mp hp]) hT1 hdef fr fun f c' pm ctv H2 s2 I2 eN T2 hf hfn hfr hco => wpAny_bind (wpAny_standAt (wpAny_pure (wpAny_evalAll_nil ?_)))))
  show wpAny _ _ (call (.builtin "sorted") [.ref L] [(Str.ofString "key", .ref f)]) _ _ s2
  have hL2 := eN L _ hL (fun ps z => by cases z)
  have hz2 : Fz H2 g (xs.map V.int) := by
    obtain ⟨o, e, d⟩ := hz
    exact ⟨o, eN g _ e (fun ps z => by cases z), d⟩
  have hT2 : LamX.TabS H2 P (X.env.qual ++ "<lambda>") := T2 _ (List.mem_singleton.mpr rfl)
  obtain ⟨z, its, n, rv, eL⟩ := I2.hok L _ hL2
  obtain ⟨og, ig, eg, dg, cg', rg, pg⟩ := Fz.obj I2 hz2
  obtain ⟨⟨oc, vs', tq, hoc, hdc, hvc⟩, _, _⟩ := I2.hok c' _ hco
  obtain ⟨m, hn, hl⟩ := I2.loc
  obtain ⟨u2, ru2, lk⟩ := hl i _ _ hN hσ (.inr (.inl hkind))
  cases ru2
  obtain ⟨cg, hcg, hcell⟩ : ∃ cg, X.env.cells.lookup ("guess" : Str) = some cg ∧ s2.heap.IsCell cg (some (.ref g)) := by
    rcases lk with ⟨k, _⟩ | ⟨_, c0, h1, h2⟩
    · rw [hkind] at k
      cases k
    · exact ⟨c0, h1, h2⟩
  have lim : s2.heap.NoLimit := I2.nolimit
  refine PySem.W.sorted_key_data (b := false) (R := fun v (x : Int) => ∃ t, v = Value.int x t) (bs := ys) (vs := its) (keyD xs) ⟨_, eL, rfl, n, rfl⟩ (ints_each rv) (PySem.W.AllAlike.of fun _ _ => by simp [PySem.W.alike, PySem.W.alikeAll, keyD]) (PySem.W.Sortable.tuples fun _ => ⟨_, _, rfl⟩) (by rw [sizeLine_eq]; omega) (fun y _ => ?_)
    (PyProof.Rows.ksk_s1 _ _) (fun _ => PyProof.Rows.ksk_l1 _ _) (fun _ => PyProof.Rows.ksk_t1 _ _) (fun v y hv _ h tk kp => ?_) fun out c2 h' tk kp fresh hD hlen eo => ?_
  · have hd : (keyD xs y).depth = 1 := by simp [keyD, PyData.depth, PyData.depthAll]
    have := hr.un
    omega
  · obtain ⟨t, rfl⟩ := hv
    obtain ⟨oc3, ec3, dc3⟩ := hcell
    obtain ⟨ob, eo', co, n', dob⟩ := id pg
    refine key_call (s := { s2 with heap := h, toks := tk }) (cg := cg) (g := g) (us := ig.toArray) (xs := xs) (as := []) ?_ ?_ (lim.keeps kp) (kp _ _ hf) ⟨oc, vs', tq, kp _ _ hoc, hdc, hvc⟩ sco sgen hk k1 k2 kc (NdefX.clo_has fr hmem hcg) ⟨oc3, kp _ _ ec3, dc3⟩ ⟨ob, kp _ _ eo', co, n', dob⟩ ⟨og, kp _ _ eg, dg⟩ (ints_reads rg) hline (hbind _ _ _ _ _ _ _)
    · have := hr.dp
      show X.A.depth < recursionLimit
      omega
    · have := hr.un
      show X.A.units + 1 + 1 + 3 + 65 < cLine
      omega
  · have hv := ints_from eo
    refine ⟨.ref (s2.heap.objs.size + 1), upd H2 (s2.heap.objs.size + 1) (.lst ((sortK xs ys).map V.int)), I2.laid (t' := tk) kp (Nat.le_succ _) ⟨?_, out, c2, hv, hD⟩, rfl, q H2 _ eN hT2 (I2.hok.fresh (Nat.le_succ _))⟩
    have e1 : (sortK xs ys).length = ys.length := List.length_mergeSort ys
    rw [List.length_map, e1, sizeLine_eq]
    omega
end
end G
end

section
set_option Elab.async false
set_option linter.all false
set_option maxRecDepth 100000
set_option maxHeartbeats 4000000
/-! G31: the def that sorts by a key of its own: what its text comes to. -/
namespace G
open PySem PySem.Spec PyProof.Rows L2
def lgR (xs zs : List Int) : List Int := zs.zipIdx.flatMap fun z => List.replicate (xs.count z.1) ((z.2 : Nat) : Int)
theorem lgR_snoc (xs zs : List Int) (z : Int) : lgR xs (zs ++ [z]) = lgR xs zs ++ List.replicate (xs.count z) ((zs.length : Nat) : Int) := by
  unfold lgR
  rw [List.zipIdx_append, List.flatMap_append]
  simp
def namesK (zs : List Int) : List (Key × V) := zs.zipIdx.map fun z => (Sum.inl z.1, V.int ((z.2 : Nat) : Int))
theorem namesK_snoc (zs : List Int) (z : Int) : namesK (zs ++ [z]) = namesK zs ++ [(Sum.inl z, V.int ((zs.length : Nat) : Int))] := by
  unfold namesK
  rw [List.zipIdx_append, List.map_append]
  simp
theorem namesK_len (zs : List Int) : (namesK zs).length = zs.length := by simp [namesK]
theorem namesK_none {zs : List Int} {z : Int} (h : z ∉ zs) : valV (namesK zs) (Sum.inl z) = none := by
  unfold valV
  rw [Option.map_eq_none_iff, List.find?_eq_none]
  intro kv hkv
  obtain ⟨⟨a, i⟩, ha, rfl⟩ := List.mem_map.mp hkv
  have : a ∈ zs := by
    obtain ⟨j, hj, e⟩ := List.mem_iff_getElem.mp ha
    rw [List.getElem_zipIdx] at e
    cases e
    exact List.getElem_mem _
  simp
  intro e
  exact h (e ▸ this)
def rLenD : List V → Hp → VK → Prop := fun us H Q => ∃ (a : Addr) (kvs : List (Key × V)), us = [.ref a] ∧ H a = some (.dK kvs) ∧ Q (.int ((kvs.length : Nat) : Int)) H
theorem call_lenD {X : Cx} : CallR X (.builtin "len") rLenD := by
  intro pins s σ H xs us Q I r h
  obtain ⟨a, kvs, rfl, e, q⟩ := h
  obtain ⟨u, rfl, rx⟩ := vals1 r
  cases rx
  exact d_len I (.inl e) fun t s' I' => ⟨.int _, H, I', ⟨_, rfl⟩, q⟩
def rTup (K : PySem.W.Frag) : List V → Hp → VK → Prop := fun xs H Q => ∃ p ys, xs = [.ref p] ∧ ((SqL K H p ys ∧ NewT H ys Q) ∨ (SqT K H p ys ∧ Q (.ref p) H))
section
variable (K : PySem.W.Frag) (w : World) (B : Bx) (W : WX) (φ1 φ2 : Fn) (P : Addr) (q : Str)
def lgBody : TS := tSeq (sDPut (tVar 3) (tVar 4) (tCB rLenD (tCons (tVar 3) tNil)))
  (tDrop (tBM K "list" rExtend (tVar 2) (tCons (tOp rRep (tLst (tCons (tDGet (tVar 3) (tVar 4)) tNil)) (tBF K "tuple" (rCnt K true) (tVar 1) (tCons (tVar 4) tNil))) tNil)))
def lgT : TS :=
  tSeq (tS K w B W (oEx (fCall φ1 (fCons (fVar 0) fNil))))
  (tSeq (tS K w B W (oEx (fCall φ2 (fCons (fVar 0) (fCons (fVar 1) fNil)))))
  (tSeq (tAsg (tLst tNil) (gName 2))
  (tSeq (tAsg tDNewK (gName 3))
  (tSeq (tFor (iList K (tSortKey (tG K w (rlO K w) B W (fUn ssD (fVarT 1))) 1 P q)) (gName 4) (lgBody K))
  (tRet (tCB (rTup K) (tCons (tVar 2) tNil)))))))
end
def NoTb (H : Hp) : Prop := ∀ b ps, H b ≠ some (.tbl ps)
/-- a call that may turn the table at P -/
def spLg (K : PySem.W.Frag) (w : World) (φ1 φ2 : Fn) (P : Addr) (q : Str) : Sp := fun vs H Q _ => ∃ (d0 : D) (r1 r2 : Ret) (xs : List Int) (v0 : V) (g : Addr) (Hd : Hp), vs = [v0, .ref g] ∧ Same Hd H ∧ NoTb Hd ∧ Rp K w Hd v0 d0 ∧ Fz Hd g (xs.map V.int) ∧ φ1 [d0] = .ok r1 ∧ φ2 [d0, .tuple (xs.map .int)] = .ok r2 ∧ xs.length < 64 ∧ LamX.TabS H P q ∧
  ∀ (v' : V) (Hd' H' : Hp), Same Hd Hd' → Same Hd' H' → NoTb Hd' → LamX.ExtN H H' → (∀ b o, H b = some o → (∀ ps, o ≠ .tbl ps) → Hd b = none → Hd' b = none) → LamX.TabS H' P q → Rp K w Hd' v' (.tuple ((lgR xs (sortK xs (sortU xs))).map .int)) → Q v' H'
theorem rpA_ints {K : PySem.W.Frag} {w : World} {H : Hp} : ∀ xs : List Int, RpAll K w H (xs.map V.int) (xs.map .int)
  | [] => .nil
  | x :: xs => .cons (.int x) (rpA_ints xs)
theorem sortK_mem {xs ys : List Int} {z : Int} : z ∈ sortK xs ys ↔ z ∈ ys := (List.mergeSort_perm ys _).mem_iff
theorem sortK_nodup {xs : List Int} : (sortK xs (sortU xs)).Nodup := (List.mergeSort_perm _ _).nodup_iff.mpr ((sortU_pw xs).imp fun h e => by rw [e] at h; exact Int.lt_irrefl _ h)
theorem sortU_le (xs : List Int) : (sortU xs).length ≤ xs.length := by
  induction xs with
  | nil => exact Nat.le_refl _
  | cons n ns ih =>
    show ((sortU ns).filter (· < n) ++ n :: (sortU ns).filter (n < ·)).length ≤ _
    rw [List.length_append, List.length_cons, List.length_cons]
    have key : ∀ l : List Int, (l.filter (· < n)).length + (l.filter (n < ·)).length ≤ l.length := fun l => by
      induction l with
      | nil => exact Nat.le_refl _
      | cons a l ih2 =>
        rw [List.filter_cons, List.filter_cons, List.length_cons]
        by_cases h1 : a < n
        · rw [if_pos (decide_eq_true h1), if_neg (by simp; omega), List.length_cons]
          omega
        · rw [if_neg (by simpa using h1)]
          by_cases h2 : n < a
          · rw [if_pos (decide_eq_true h2), List.length_cons]; omega
          · rw [if_neg (by simpa using h2)]; omega
    have := key (sortU ns)
    omega
end G
end

section
set_option Elab.async false
set_option linter.all false
set_option maxRecDepth 100000
set_option maxHeartbeats 4000000
/-! G32: the def that sorts by a key of its own: read. -/
namespace G
open PySem PySem.Spec PyProof.Rows L2
section
variable {K : PySem.W.Frag} {w : World}
theorem Rep.at {B : Bx} {Hd H : Hp} {σ : L2.St} {g : Sg} (r : Rep K w B Hd H σ g) {i : Nat} {d : D} (h : g[i]? = some (.dat d)) : ∃ v, σ[i]? = some (some v) ∧ Rp K w Hd v d := by
  obtain ⟨b, l, ow, n, hs⟩ := r
  obtain ⟨v, e, rv⟩ := hs i _ h
  refine ⟨v, ?_, rv⟩
  cases q : σ[i]? with
  | none => rw [q] at e; cases e
  | some o => rw [q] at e; rw [show o = some v from e]
theorem tab_keep {H H' : Hp} {P : Addr} {q : Str} (t : LamX.TabS H P q) (k : ∀ b o, H b = some o → (∀ xs, o ≠ .lst xs) → (∀ kvs, o ≠ .dK kvs) → H' b = some o) : LamX.TabS H' P q := by
  obtain ⟨ps, h1, h2, h3⟩ := t
  refine ⟨ps, k _ _ h1 (fun _ z => by cases z) (fun _ z => by cases z), h2, fun pos cv hc => ?_⟩
  obtain ⟨c, e1, e2⟩ := h3 pos cv hc
  exact ⟨c, e1, k _ _ e2 (fun xs z => by unfold LamX.CodeO at z; cases z) (fun xs z => by unfold LamX.CodeO at z; cases z)⟩
/-- one turn -/
theorem lg_turn (w : World) {xs zs : List Int} {z : Int} {a0 : Option V} {g fd nm : Addr} {H : Hp} {D : Ends} (hz : z ∉ zs) (lx : xs.length ≤ 64) (lz : zs.length ≤ 64) (hg : Fz H g (xs.map V.int)) (hfd : H fd = some (.lst ((lgR xs zs).map V.int))) (hl : (lgR xs zs).length ≤ 10000) (hnm : H nm = some (.dK (namesK zs))) (ne : fd ≠ nm)
    (k : ∀ H', H' fd = some (.lst ((lgR xs (zs ++ [z])).map V.int)) → H' nm = some (.dK (namesK (zs ++ [z]))) → (∀ b o, H b = some o → b ≠ fd → b ≠ nm → H' b = some o) → D.nx [a0, some (.ref g), some (.ref fd), some (.ref nm), some (.int z)] H') :
    lgBody K D [a0, some (.ref g), some (.ref fd), some (.ref nm), some (.int z)] H := by
  refine ⟨.ref nm, rfl, nm, namesK zs, rfl, hnm, .ref nm, rfl, .int z, rfl, nm, _, rfl, DPut.k (k := Sum.inl z) hnm (by rw [namesK_len, sizeLine_eq]; omega), ?_⟩
  rw [putK_new _ (namesK_none hz), namesK_len, ← namesK_snoc]
  obtain ⟨H1, e1⟩ : ∃ H1, H1 = upd H nm (.dK (namesK (zs ++ [z]))) := ⟨_, rfl⟩
  rw [← e1]
  have k1 : ∀ b o, H b = some o → b ≠ nm → H1 b = some o := fun b o e n => by rw [e1, upd_ne n]; exact e
  have n1 : H1 nm = some (.dK (namesK (zs ++ [z]))) := by rw [e1, upd_same]
  have f1 := k1 _ _ hfd ne
  have g1 : Fz H1 g (xs.map V.int) := by
    obtain ⟨o, e, d⟩ := hg
    exact ⟨o, k1 _ _ e (fun y => by rw [y, hnm] at e; cases e), d⟩
  have hv : valV (namesK (zs ++ [z])) (Sum.inl z) = some (.int ((zs.length : Nat) : Int)) := by
    rw [namesK_snoc, ← namesK_len, ← putK_new _ (namesK_none hz), valV_put, if_pos rfl]
  refine ⟨.ref fd, rfl, .inl ⟨rfl, _, .of f1⟩, .ref nm, rfl, .int z, rfl, nm, .int ((zs.length : Nat) : Int), rfl, by rw [← hv]; exact DGet.k (k := Sum.inl z) n1, by show 1 ≤ sizeLine; decide, fun p1 np1 => ?_⟩
  have q1 : ∀ b o, H1 b = some o → upd H1 p1 (.lst [V.int ((zs.length : Nat) : Int)]) b = some o := fun b o e => by rw [upd_ne (ne_of_none e np1)]; exact e
  have g2 : Fz (upd H1 p1 (.lst [V.int ((zs.length : Nat) : Int)])) g (xs.map V.int) := by
    obtain ⟨o, e, d⟩ := g1
    exact ⟨o, q1 _ _ e, d⟩
  refine ⟨.ref g, rfl, .inr (.inl ⟨rfl, g, _, rfl, g2⟩), .int z, rfl, g, .int z, xs.map V.int, xs.map .int, .int z, rfl, rfl, by rw [if_pos rfl]; exact g2.sq, (RpAll.of_ints (w := w) xs).dp (plain_ints xs), (Rp.int (w := w) z).dp rfl, plain_ints xs, fine_iff.mpr ⟨rfl, by simp [PyData.depth]⟩, ?_⟩
  have ec : ((xs.map PyData.int).countP fun y => PyData.eqv y (.int z)) = xs.count z := by
    rw [List.countP_map, List.count_eq_countP]
    congr 1
  rw [ec]
  have hcl : xs.count z ≤ 64 := Nat.le_trans List.count_le_length lx
  refine ⟨p1, ((xs.count z : Nat) : Int), [V.int ((zs.length : Nat) : Int)], rfl, rfl, upd_same, by omega, by omega, by simp [sizeLine_eq]; omega, fun p2 np2 => ?_⟩
  have e2 : (List.replicate ((xs.count z : Nat) : Int).toNat [V.int ((zs.length : Nat) : Int)]).flatten = (List.replicate (xs.count z) ((zs.length : Nat) : Int)).map V.int := by
    rw [List.map_replicate, Int.toNat_natCast]
    generalize xs.count z = m
    induction m with
    | zero => rfl
    | succ m ih => rw [List.replicate_succ, List.flatten_cons, ih, List.replicate_succ]; rfl
  rw [e2]
  have q2 : ∀ b o, H1 b = some o → upd (upd H1 p1 (.lst [V.int ((zs.length : Nat) : Int)])) p2 (.lst ((List.replicate (xs.count z) ((zs.length : Nat) : Int)).map V.int)) b = some o := fun b o e => by
    rw [upd_ne (ne_of_none (q1 _ _ e) np2)]
    exact q1 _ _ e
  refine ⟨fd, p2, (lgR xs zs).map V.int, (List.replicate (xs.count z) ((zs.length : Nat) : Int)).map V.int, rfl, rfl, q2 _ _ f1, upd_same, by rw [List.length_map, List.length_map, List.length_replicate, sizeLine_eq]; omega, ?_⟩
  refine k _ ?_ ?_ fun b o e n1' n2' => ?_
  · rw [upd_same, lgR_snoc, List.map_append]
  · rw [upd_ne (Ne.symm ne)]
    exact q2 _ _ n1
  · rw [upd_ne n1']
    exact q2 _ _ (k1 _ _ e n2')
theorem lg_len {xs : List Int} (hl : xs.length ≤ 64) : ∀ zs : List Int, zs.length ≤ 64 → (lgR xs zs).length ≤ 10000 := fun zs hz => by
  have key : ∀ (l : List Int) (k : Nat), ((l.zipIdx k).flatMap fun z => List.replicate (xs.count z.1) ((z.2 : Nat) : Int)).length ≤ l.length * 64 := fun l => by
    induction l with
    | nil => intro k; simp
    | cons a l ih =>
      intro k
      rw [List.zipIdx_cons, List.flatMap_cons, List.length_append, List.length_replicate, List.length_cons]
      have := ih (k + 1)
      have h2 : xs.count a ≤ xs.length := List.count_le_length
      show xs.count a + _ ≤ _
      have h3 : (l.length + 1) * 64 = l.length * 64 + 64 := Nat.succ_mul _ _
      omega
  have := key zs 0
  unfold lgR
  omega
theorem lg_read {cl : Nat → Addr} {W : WX} {φ1 φ2 : Fn} {P : Addr} {q : Str} {N : List Str} (hN : N.length = 5) {H Hd : Hp} {Q : VK} {d0 : D} {r1 r2 : Ret} {xs : List Int} {v0 : V} {g : Addr} (sm : Same Hd H) (nt : NoTb Hd) (rv0 : Rp K w Hd v0 d0) (hg : Fz Hd g (xs.map V.int)) (h1 : φ1 [d0] = .ok r1) (h2 : φ2 [d0, .tuple (xs.map .int)] = .ok r2) (hx : xs.length < 64) (hT : LamX.TabS H P q)
    (post : ∀ (v' : V) (Hd' H' : Hp), Same Hd Hd' → Same Hd' H' → NoTb Hd' → LamX.ExtN H H' → (∀ b o, H b = some o → (∀ ps, o ≠ .tbl ps) → Hd b = none → Hd' b = none) → LamX.TabS H' P q → Rp K w Hd' v' (.tuple ((lgR xs (sortK xs (sortU xs))).map .int)) → Q v' H') :
    lgT K w ⟨cl, Hd, H⟩ W φ1 φ2 P q { nx := fun _ H' => Q .non H', rt := Q } (L2.start N [v0, .ref g]) H := by
  have hst : L2.start N [v0, .ref g] = [some v0, some (.ref g), none, none, none] := by
    unfold L2.start
    rw [hN]
    rfl
  rw [hst]
  have rv1 : Rp K w Hd (.ref g) (.tuple (xs.map .int)) := .tup hg (RpAll.of_ints xs)
  have rep0 : Rep K w ⟨cl, Hd, H⟩ Hd H [some v0, some (.ref g), none, none, none] [.dat d0, .dat (.tuple (xs.map .int)), .un, .un, .un] := by
    refine ⟨Step.refl sm, rfl, fun _ => 0, fun i j si sj _ ei _ oi _ => ?_, fun j sj ej => ?_⟩
    · match i, ei with
      | 0, e => cases e; cases oi
      | 1, e => cases e; cases oi
      | 2, e => cases e; cases oi
      | 3, e => cases e; cases oi
      | 4, e => cases e; cases oi
      | _ + 5, e => simp at e
    · match j, ej with
      | 0, e => cases e; exact ⟨v0, rfl, rv0⟩
      | 1, e => cases e; exact ⟨.ref g, rfl, rv1⟩
      | 2, e => cases e; trivial
      | 3, e => cases e; trivial
      | 4, e => cases e; trivial
      | _ + 5, e => simp at e
  have call1 : ∀ (φ : Fn) (fs : Sg → R (List D)) (ds : List D) (r : Ret) (g0 : Sg), fs g0 = .ok ds → φ ds = .ok r → oEx (fCall φ fs) g0 = .nx g0 := fun φ fs ds r g0 e1 e2 => by
    have : fCall φ fs g0 = .ok r.d := by
      unfold fCall
      rw [e1]
      show (φ ds).map Ret.d = _
      rw [e2]
      rfl
    unfold oEx oE
    rw [this]
  refine ⟨_, Hd, rep0, ?_⟩
  rw [call1 φ1 _ [d0] r1 _ rfl h1]
  intro σ1 Hd1 H1 sd1 rep1
  refine ⟨_, Hd1, rep1, ?_⟩
  rw [call1 φ2 _ [d0, .tuple (xs.map .int)] r2 _ rfl h2]
  intro σ2 Hd2 H2 sd2 rep2
  have st2 : Step Hd H Hd2 H2 := rep2.base
  obtain ⟨a0, ea0, _⟩ := rep2.at (i := 0) rfl
  obtain ⟨a1, ea1, ra1⟩ := rep2.at (i := 1) rfl
  obtain ⟨g', vs', eg, hg', hvs⟩ : ∃ (g' : Addr) (vs' : List V), a1 = .ref g' ∧ Fz Hd2 g' vs' ∧ RpAll K w Hd2 vs' (xs.map .int) := by
    cases ra1 with
    | tup f r => exact ⟨_, _, rfl, f, r⟩
  subst eg
  obtain rfl := RpAll.ints hvs
  have T2 : LamX.TabS H2 P q := hT.ext fun b o e => st2.h b o e
  match σ2, rep2.len, ea0, ea1, rep2 with
  | [b0, b1, b2, b3, b4], _, ea0, ea1, rep2 =>
  cases ea0
  cases ea1
  -- found, names
  refine ⟨by simp, fun fd nfd => ?_⟩
  have s3 : Step Hd2 H2 Hd2 (upd H2 fd (.lst [])) := Step.own rep2.same nfd
  obtain ⟨H3, e3⟩ : ∃ H3, H3 = upd H2 fd (.lst []) := ⟨_, rfl⟩
  have f3 : H3 fd = some (.lst []) := by rw [e3, upd_same]
  rw [← e3] at s3 ⊢
  refine fun nm nnm => ?_
  have s4 : Step Hd2 H3 Hd2 (upd H3 nm (.dK [])) := Step.own s3.s nnm
  obtain ⟨H4, e4⟩ : ∃ H4, H4 = upd H3 nm (.dK []) := ⟨_, rfl⟩
  have n4 : H4 nm = some (.dK []) := by rw [e4, upd_same]
  have f4 : H4 fd = some (.lst []) := by rw [e4, upd_ne (ne_of_none f3 nnm)]; exact f3
  have fn : fd ≠ nm := fun e => by rw [e, nnm] at f3; cases f3
  rw [← e4] at s4 ⊢
  have rep4 : Rep K w ⟨cl, Hd, H⟩ Hd2 H4 [some a0, some (.ref g'), some (.ref fd), some (.ref nm), b4] [.dat d0, .dat (.tuple (xs.map .int)), .un, .un, .un] := ((rep2.step (s3.trans s4)).un 2 (some (.ref fd))).un 3 (some (.ref nm))
  have s24 := s3.trans s4
  -- the loop
  refine ⟨_, Hd2, rep4, ?_⟩
  have ess : fUn ssD (fVarT 1) [.dat d0, .dat (.tuple (xs.map .int)), .un, .un, .un] = .ok ((sortU xs).map .int) := by
    show ssD (.tuple (xs.map PyData.int)) = _
    show (R.ofO (intsOf (xs.map PyData.int))).bind (fun ns => if ns.length < 64 then R.ok ((sortU ns).map PyData.int) else .no) = _
    rw [intsOf_map]
    show (if xs.length < 64 then R.ok ((sortU xs).map PyData.int) else .no) = _
    rw [if_pos hx]
  rw [ess]
  intro v5 Hd5 H5 s5 r5
  obtain ⟨L, vs5, rfl, _, _, hL, hv5⟩ := r5
  obtain rfl := RpAll.ints hv5
  have T4 : LamX.TabS H4 P q := T2.ext fun b o e => s24.h b o e
  have T5 : LamX.TabS H5 P q := T4.ext fun b o e => s5.h b o e
  have g5 : Fz H5 g' (xs.map V.int) := (hg'.same s24.s).same s5.h
  have lu := sortU_le xs
  refine ⟨L, g', sortU xs, xs, rfl, hL, rfl, g5, T5, by omega, by omega, fun H6 R eN T6 nR => ?_⟩
  obtain ⟨zs, ezs⟩ : ∃ zs, zs = sortK xs (sortU xs) := ⟨_, rfl⟩
  rw [← ezs]
  have lzs : zs.length ≤ 64 := by
    have : zs.length = (sortU xs).length := by rw [ezs]; exact List.length_mergeSort _
    omega
  have ndz : zs.Nodup := by rw [ezs]; exact sortK_nodup
  obtain ⟨H7, e7⟩ : ∃ H7, H7 = upd H6 R (.lst (zs.map V.int)) := ⟨_, rfl⟩
  have k7 : ∀ b o, H6 b = some o → H7 b = some o := fun b o e => by rw [e7, upd_ne (ne_of_none e nR)]; exact e
  have R7 : H7 R = some (.lst (zs.map V.int)) := by rw [e7, upd_same]
  rw [← e7]
  have f7 : H7 fd = some (.lst []) := k7 _ _ (eN _ _ (s5.h _ _ f4) fun _ z => by cases z)
  have n7 : H7 nm = some (.dK []) := k7 _ _ (eN _ _ (s5.h _ _ n4) fun _ z => by cases z)
  have g7 : Fz H7 g' (xs.map V.int) := by
    obtain ⟨o, e, d⟩ := g5
    exact ⟨o, k7 _ _ (eN _ _ e fun _ z => by cases z), d⟩
  have fR : R ≠ fd := fun e => by
    have := eN _ _ (s5.h _ _ f4) fun _ z => by cases z
    rw [← e, nR] at this
    cases this
  have nmR : R ≠ nm := fun e => by
    have := eN _ _ (s5.h _ _ n4) fun _ z => by cases z
    rw [← e, nR] at this
    cases this
  have gf : g' ≠ fd ∧ g' ≠ nm := by
    obtain ⟨o, e, d⟩ := g7
    exact ⟨fun z => by (rw [z, f7] at e; cases e), fun z => by (rw [z, n7] at e; cases e)⟩
  refine ⟨R, rfl, ⟨_, .of R7⟩, for_list (xs := zs.map V.int) (fun i σ H' => ∃ x, σ = [some a0, some (.ref g'), some (.ref fd), some (.ref nm), x] ∧ H' fd = some (.lst ((lgR xs (zs.take i)).map V.int)) ∧ H' nm = some (.dK (namesK (zs.take i))) ∧ ∀ b o, H7 b = some o → b ≠ fd → b ≠ nm → H' b = some o)
    ⟨b4, rfl, by rw [f7]; rfl, by rw [n7]; rfl, fun b o e _ _ => e⟩ (fun i σ H' _ ⟨x, _, _, _, k⟩ => .of (k _ _ R7 fR nmR)) (fun i x σ H' hx' ⟨y, eσ, hf, hn, k⟩ => ?_) fun σ H' ⟨y, eσ, hf, hn, k⟩ => ?_⟩
  · subst eσ
    have hi : i < zs.length := by simpa using (List.getElem?_eq_some_iff.mp hx').1
    obtain rfl : x = .int zs[i] := by
      rw [List.getElem?_map, List.getElem?_eq_getElem hi] at hx'
      exact (Option.some.inj hx').symm
    have htk : zs.take (i + 1) = zs.take i ++ [zs[i]] := by rw [List.take_add_one, List.getElem?_eq_getElem hi]; rfl
    have hnot : zs[i] ∉ zs.take i := fun hm => by
      obtain ⟨j, hj, e⟩ := List.mem_iff_getElem.mp hm
      rw [List.length_take] at hj
      rw [List.getElem_take] at e
      have := (List.getElem_inj ndz).mp e
      omega
    have gi : Fz H' g' (xs.map V.int) := by
      obtain ⟨o, e, d⟩ := g7
      exact ⟨o, k _ _ e gf.1 gf.2, d⟩
    have lt : (zs.take i).length ≤ 64 := by rw [List.length_take]; omega
    refine lg_turn w hnot (by omega) lt gi hf (lg_len (by omega) _ lt) hn fn fun H'' hf' hn' k' => ⟨_, rfl, by rw [htk]; exact hf', by rw [htk]; exact hn', fun b o e x1 x2 => k' b o (k b o e x1 x2) x1 x2⟩
  · subst eσ
    rw [List.length_map, List.take_length] at hf hn
    refine ⟨.ref fd, rfl, fd, _, rfl, .inl ⟨.of hf, fun p o od np => ?_⟩⟩
    have ext : ∀ b o, H b = some o → (∀ ps, o ≠ .tbl ps) → H' b = some o := fun b o e no => by
      have x2 := st2.h b o e
      have x4 := s24.h b o x2
      have bf : b ≠ fd := fun z => by rw [z, nfd] at x2; cases x2
      have bn : b ≠ nm := fun z => by
        have x3 := s3.h b o x2
        rw [z, nnm] at x3
        cases x3
      exact k b o (k7 b o (eN b o (s5.h b o x4) no)) bf bn
    have sdH : Same Hd H' := fun b o e => ext b o (sm b o e) fun ps z => nt b ps (by rw [← z]; exact e)
    have npd : Hd p = none := sdH.free np
    refine post (.ref p) (upd Hd p (.frz o (.tup ((lgR xs zs).map V.int)))) _ (same_upd npd) ?_ (fun b ps e => ?_) (fun b o' e no => ?_) (fun b o' e no n => ?_) ?_ ?_
    · intro b o' e
      by_cases z : b = p
      · rw [z, upd_same] at e ⊢; exact e
      · rw [upd_ne z] at e ⊢; exact sdH b o' e
    · by_cases z : b = p
      · rw [z, upd_same] at e; cases e
      · rw [upd_ne z] at e; exact nt b ps e
    · have := ext b o' e no
      rw [upd_ne (ne_of_none this np)]
      exact this
    · have hb : b ≠ p := fun z => by
        have := ext b o' e no
        rw [z, np] at this
        cases this
      rw [upd_ne hb]
      exact n
    · refine tab_keep T6 fun b o' e n1 n2 => ?_
      have hb := k b o' (k7 b o' e) (fun z => by
        have := k7 b o' e
        rw [z, f7] at this
        cases this
        exact n1 _ rfl) fun z => by
        have := k7 b o' e
        rw [z, n7] at this
        cases this
        exact n2 _ rfl
      rw [upd_ne (ne_of_none hb np)]
      exact hb
    · rw [← ezs]
      exact .tup ⟨o, upd_same, od⟩ (RpAll.of_ints _)
end
end G
end

section
set_option Elab.async false
set_option linter.all false
set_option maxRecDepth 100000
set_option maxHeartbeats 4000000
/-! G33: names in the order in which they come, by a dict of ints. -/
namespace G
open PySem PySem.Spec PyProof.Rows L2
theorem namesK_at (zs : List Int) (z : Int) : valV (namesK zs) (Sum.inl z) = if z ∈ zs then some (.int ((zs.idxOf z : Nat) : Int)) else none := by
  have key : ∀ (zs : List Int) (k : Nat), valV ((zs.zipIdx k).map fun y => ((Sum.inl y.1 : Key), V.int ((y.2 : Nat) : Int))) (Sum.inl z) = if z ∈ zs then some (.int (((zs.idxOf z + k : Nat)) : Int)) else none := fun zs => by
    induction zs with
    | nil => intro k; rfl
    | cons a zs ih =>
      intro k
      rw [List.zipIdx_cons, List.map_cons]
      by_cases h : a = z
      · subst h
        rw [valV_pos rfl, if_pos (List.mem_cons_self ..)]
        simp
      · rw [valV_neg (fun e => h (Sum.inl.inj e)), ih, List.idxOf_cons]
        have hb : (a == z) = false := by simpa using h
        rw [hb]
        by_cases m : z ∈ zs
        · rw [if_pos m, if_pos (List.mem_cons_of_mem _ m)]
          simp only [cond_false]
          congr 3
          omega
        · rw [if_neg m, if_neg (fun c => by rcases List.mem_cons.mp c with e | e; exact h e.symm; exact m e)]
  exact key zs 0
def nmS (c : Int) (s : List Int × List Int) : List Int × List Int := if c ∈ s.1 then (s.1, s.2 ++ [((s.1.idxOf c : Nat) : Int)]) else (s.1 ++ [c], s.2 ++ [(((s.1 ++ [c]).idxOf c : Nat) : Int)])
def atC (cs : List Int) (o : Int) : Int := (cs[o.toNat]?).getD 0
def nmRun (cs os : List Int) : List Int × List Int := os.foldl (fun s o => nmS (atC cs o) s) ([], [])
theorem nmRun_snoc (cs os : List Int) (o : Int) : nmRun cs (os ++ [o]) = nmS (atC cs o) (nmRun cs os) := by
  unfold nmRun
  rw [List.foldl_append]
  rfl
theorem nmRun_len (cs : List Int) (os : List Int) : (nmRun cs os).1.length ≤ os.length ∧ (nmRun cs os).2.length = os.length := by
  have key : ∀ (os : List Int) (s : List Int × List Int), (os.foldl (fun s o => nmS (atC cs o) s) s).1.length ≤ s.1.length + os.length ∧ (os.foldl (fun s o => nmS (atC cs o) s) s).2.length = s.2.length + os.length := fun os => by
    induction os with
    | nil => exact fun s => ⟨Nat.le_refl _, rfl⟩
    | cons o os ih =>
      intro s
      have h := ih (nmS (atC cs o) s)
      have h1 : (nmS (atC cs o) s).1.length ≤ s.1.length + 1 ∧ (nmS (atC cs o) s).2.length = s.2.length + 1 := by
        unfold nmS
        split
        · exact ⟨Nat.le_succ _, List.length_append⟩
        · exact ⟨Nat.le_of_eq List.length_append, List.length_append⟩
      rw [List.foldl_cons, List.length_cons]
      omega
  have := key os ([], [])
  unfold nmRun
  simpa using this
def okN (cs os : List Int) : Bool := os.all (fun o => decide (0 ≤ o) && decide (o.toNat < cs.length)) && decide (os.length ≤ 1000)
def slT : Option Sl → Option (List Int)
  | some (.dat (.tuple ds)) => intsOf ds
  | _ => none
theorem slT_some {o : Option Sl} {ns : List Int} (h : slT o = some ns) : o = some (.dat (.tuple (ns.map .int))) := by
  unfold slT at h
  split at h
  · rw [intsOf_eq h]
  · cases h
def oNames (u : Sg → Out) : Sg → Out := fun g => match slT g[2]?, slT g[4]? with
  | some cs, some os => if okN cs os && decide (g.length = 9) then u (((g.set 6 (.lst ((nmRun cs os).2.map .int))).set 5 .un).set 7 .un) else .no
  | _, _ => .no
abbrev tIxV (K : PySem.W.Frag) : TE := tOp (rIx K) (tVar 2) (tVar 7)
def nmBody (K : PySem.W.Frag) : TS := tSeq (tIfS (tB (tDNotIn (tIxV K) (tVar 5))) (sDPut (tVar 5) (tIxV K) (tCB rLenD (tCons (tVar 5) tNil))) tNext)
  (tDrop (tBM K "list" rAppend (tVar 6) (tCons (tDGet (tVar 5) (tIxV K)) tNil)))
section
variable {K : PySem.W.Frag} {w : World}
theorem nm_turn {cs : List Int} {o : Int} {s : List Int × List Int} {a0 a1 a3 a4 a8 : Option V} {gC nm rw_ : Addr} {H : Hp} {D : Ends} (ho : 0 ≤ o) (hl : o.toNat < cs.length) (hC : Fz H gC (cs.map V.int)) (hn : H nm = some (.dK (namesK s.1))) (hr : H rw_ = some (.lst (s.2.map V.int))) (l1 : s.1.length ≤ 1000) (l2 : s.2.length ≤ 1000) (ne : nm ≠ rw_)
    (k : ∀ H', H' nm = some (.dK (namesK (nmS (atC cs o) s).1)) → H' rw_ = some (.lst ((nmS (atC cs o) s).2.map V.int)) → (∀ b x, H b = some x → b ≠ nm → b ≠ rw_ → H' b = some x) → D.nx [a0, a1, some (.ref gC), a3, a4, some (.ref nm), some (.ref rw_), some (.int o), a8] H') :
    nmBody K D [a0, a1, some (.ref gC), a3, a4, some (.ref nm), some (.ref rw_), some (.int o), a8] H := by
  have hat : atI (cs.map V.int) o = some (.int (atC cs o)) := by
    have e : o = ((o.toNat : Nat) : Int) := by omega
    rw [e]
    refine atI_nat ?_
    unfold atC
    rw [Int.toNat_natCast, List.getElem?_map, List.getElem?_eq_getElem hl]
    rfl
  have ix : ∀ (H' : Hp) (Q : VK), Fz H' gC (cs.map V.int) → Q (.int (atC cs o)) H' → tIxV K [a0, a1, some (.ref gC), a3, a4, some (.ref nm), some (.ref rw_), some (.int o), a8] H' Q := fun H' Q hz q => ⟨.ref gC, rfl, .int o, rfl, .inr (.inl ⟨gC, _, o, _, rfl, rfl, hz.sq, hat, q⟩)⟩
  generalize atC cs o = c at *
  have kC : ∀ H' : Hp, (∀ b x, H b = some x → b ≠ nm → b ≠ rw_ → H' b = some x) → Fz H' gC (cs.map V.int) := fun H' q => by
    obtain ⟨ob, e, d⟩ := hC
    exact ⟨ob, q _ _ e (fun z => by (rw [z, hn] at e; cases e)) (fun z => by (rw [z, hr] at e; cases e)), d⟩
  -- the second statement
  have two : ∀ (H1 : Hp) (zs : List Int), H1 nm = some (.dK (namesK zs)) → H1 rw_ = some (.lst (s.2.map V.int)) → Fz H1 gC (cs.map V.int) → c ∈ zs → (∀ b x, H b = some x → b ≠ nm → b ≠ rw_ → H1 b = some x) → nmS c s = (zs, s.2 ++ [((zs.idxOf c : Nat) : Int)]) →
      tDrop (tBM K "list" rAppend (tVar 6) (tCons (tDGet (tVar 5) (tIxV K)) tNil)) D [a0, a1, some (.ref gC), a3, a4, some (.ref nm), some (.ref rw_), some (.int o), a8] H1 := fun H1 zs n1 r1 c1 hm k1 en => by
    refine ⟨.ref rw_, rfl, .inl ⟨rfl, _, .of r1⟩, .ref nm, rfl, ix _ _ c1 ?_⟩
    refine ⟨nm, .int ((zs.idxOf c : Nat) : Int), rfl, ?_, rw_, s.2.map V.int, _, rfl, rfl, r1, by rw [List.length_map, sizeLine_eq]; omega, ?_⟩
    · have := DGet.k (k := Sum.inl c) n1
      rw [namesK_at, if_pos hm] at this
      exact this
    · refine k _ ?_ ?_ fun b x e n1' n2' => ?_
      · rw [upd_ne ne, en]; exact n1
      · rw [upd_same, en, List.map_append]; rfl
      · rw [upd_ne n2']; exact k1 b x e n1' n2'
  by_cases hm : c ∈ s.1
  · refine ix _ _ hC ⟨.ref nm, rfl, nm, some (.int ((s.1.idxOf c : Nat) : Int)), rfl, ?_, false, rfl, ?_⟩
    · have := DGet.k (k := Sum.inl c) hn
      rw [namesK_at, if_pos hm] at this
      exact this
    · exact two H s.1 hn hr hC hm (fun b x e _ _ => e) (by unfold nmS; rw [if_pos hm])
  · refine ix _ _ hC ⟨.ref nm, rfl, nm, none, rfl, ?_, true, rfl, ?_⟩
    · have := DGet.k (k := Sum.inl c) hn
      rw [namesK_at, if_neg hm] at this
      exact this
    · refine ⟨.ref nm, rfl, nm, namesK s.1, rfl, hn, .ref nm, rfl, ix _ _ hC ⟨nm, _, rfl, DPut.k (k := Sum.inl c) hn (by rw [namesK_len, sizeLine_eq]; omega), ?_⟩⟩
      rw [putK_new _ (namesK_none hm), namesK_len, ← namesK_snoc]
      have k1 : ∀ b x, H b = some x → b ≠ nm → b ≠ rw_ → upd H nm (.dK (namesK (s.1 ++ [c]))) b = some x := fun b x e n _ => by rw [upd_ne n]; exact e
      exact two _ (s.1 ++ [c]) upd_same (by rw [upd_ne (Ne.symm ne)]; exact hr) (kC _ k1) (List.mem_append_right _ (List.mem_singleton.mpr rfl)) k1 (by unfold nmS; rw [if_neg hm])
end
section
variable {X : Cx} {B : Bx} {W : WX} {rest : List Stmt} {S1 S2 S3 : Stmt} {u : Sg → Out}
/-- names = {}, row = [], for at in order: .. -/
theorem dss_names (h1 : PS X S1 (tAsg tDNewK (gName 5))) (h2 : PS X S2 (tAsg (tLst tNil) (gName 6))) (h3 : PS X S3 (tFor (iTup X.K (tVar 4)) (gName 7) (nmBody X.K))) (h4 : DSs X B W rest u) : DSs X B W (S1 :: S2 :: S3 :: rest) (oNames u) :=
  PSs.imp (pss_cons h1 (pss_cons h2 (pss_cons h3 h4))) fun Dn σ H ⟨g, Hd, rep, h⟩ => by
    unfold oNames at h
    split at h
    case h_2 => exact h.elim
    rename_i cs os e2 e4
    split at h
    case isFalse => exact h.elim
    rename_i hk
    rw [Bool.and_eq_true, decide_eq_true_iff] at hk
    obtain ⟨hk, hl⟩ := hk
    unfold okN at hk
    rw [Bool.and_eq_true, decide_eq_true_iff, List.all_eq_true] at hk
    obtain ⟨ho, lo⟩ := hk
    obtain ⟨v2, ev2, r2⟩ := rep.at (slT_some e2)
    obtain ⟨v4, ev4, r4⟩ := rep.at (slT_some e4)
    obtain ⟨gC, vC, rfl, fC, aC⟩ : ∃ (g' : Addr) (vs' : List V), v2 = .ref g' ∧ Fz Hd g' vs' ∧ RpAll X.K X.w Hd vs' (cs.map .int) := by
      cases r2 with
      | tup f r => exact ⟨_, _, rfl, f, r⟩
    obtain ⟨gO, vO, rfl, fO, aO⟩ : ∃ (g' : Addr) (vs' : List V), v4 = .ref g' ∧ Fz Hd g' vs' ∧ RpAll X.K X.w Hd vs' (os.map .int) := by
      cases r4 with
      | tup f r => exact ⟨_, _, rfl, f, r⟩
    obtain rfl := RpAll.ints aC
    obtain rfl := RpAll.ints aO
    have ls := rep.len.trans hl
    have fC := fC.same rep.same
    have fO := fO.same rep.same
    match σ, ls, ev2, ev4, rep with
    | [b0, b1, b2, b3, b4, b5, b6, b7, b8], _, ev2, ev4, rep =>
    cases ev2
    cases ev4
    intro nm nnm
    obtain ⟨H3, e3⟩ : ∃ H3, H3 = upd H nm (.dK []) := ⟨_, rfl⟩
    have n3 : H3 nm = some (.dK []) := by rw [e3, upd_same]
    have s3 : Same H H3 := by rw [e3]; exact same_upd nnm
    rw [← e3]
    refine ⟨by simp, fun rw_ nrw => ?_⟩
    obtain ⟨H4, e4'⟩ : ∃ H4, H4 = upd H3 rw_ (.lst []) := ⟨_, rfl⟩
    have r4' : H4 rw_ = some (.lst []) := by rw [e4', upd_same]
    have s4 : Same H3 H4 := by rw [e4']; exact same_upd nrw
    rw [← e4']
    have ne : nm ≠ rw_ := ne_of_none n3 nrw
    have n4 := s4 _ _ n3
    have s04 := s3.trans s4
    have fresh : ∀ b x, H b = some x → b ≠ nm ∧ b ≠ rw_ := fun b x e => ⟨ne_of_none e nnm, ne_of_none (s3 _ _ e) nrw⟩
    have fO4 := fO.same s04
    refine ⟨.ref gO, rfl, gO, rfl, ⟨_, fO4.sq⟩, for_tup (xs := os.map V.int) (fun i σ H' => ∃ x, σ = [b0, b1, some (.ref gC), b3, some (.ref gO), some (.ref nm), some (.ref rw_), x, b8] ∧ H' nm = some (.dK (namesK (nmRun cs (os.take i)).1)) ∧ H' rw_ = some (.lst ((nmRun cs (os.take i)).2.map V.int)) ∧ ∀ b x, H b = some x → H' b = some x)
      ⟨b7, rfl, n4, r4', s04⟩ (fun i σ H' _ ⟨x, _, _, _, k⟩ => (fO.same k).sq) (fun i x σ H' hx' ⟨y, eσ, hn, hr, k⟩ => ?_) fun σ H' ⟨y, eσ, hn, hr, k⟩ => ?_⟩
    · subst eσ
      have hi : i < os.length := by simpa using (List.getElem?_eq_some_iff.mp hx').1
      obtain rfl : x = .int os[i] := by
        rw [List.getElem?_map, List.getElem?_eq_getElem hi] at hx'
        exact (Option.some.inj hx').symm
      have htk : os.take (i + 1) = os.take i ++ [os[i]] := by rw [List.take_add_one, List.getElem?_eq_getElem hi]; rfl
      have hq := ho _ (List.getElem_mem hi)
      rw [Bool.and_eq_true, decide_eq_true_iff, decide_eq_true_iff] at hq
      have hlen := nmRun_len cs (os.take i)
      rw [List.length_take] at hlen
      refine nm_turn hq.1 hq.2 (fC.same k) hn hr (by omega) (by omega) ne fun H'' hn' hr' k' => ⟨_, rfl, ?_, ?_, fun b x e => k' b x (k b x e) (fresh b x e).1 (fresh b x e).2⟩
      · rw [htk, nmRun_snoc]; exact hn'
      · rw [htk, nmRun_snoc]; exact hr'
    · subst eσ
      rw [List.length_map, List.take_length] at hn hr
      have rep1 := rep.back k
      have st : Step Hd H Hd H' := ⟨.refl _, k, rep.same.trans k, fun _ _ _ n => n⟩
      have rep2 := ((Rep.newL rep st rep1 (v := .ref rw_) (ds := (nmRun cs os).2.map .int) ⟨rw_, _, rfl, s3.free nrw, (rep.same.trans s3).free nrw, hr, RpAll.of_ints _⟩ 6).un 5 (some (.ref nm))).un 7 y
      exact ⟨_, Hd, rep2, h⟩
end
end G
end

section
set_option Elab.async false
set_option linter.all false
set_option maxRecDepth 100000
set_option maxHeartbeats 4000000
/-! G34: a tuple read backwards by a slice. -/
namespace G
open PySem PySem.Spec PyProof.Rows L2
theorem adjust_back (n : Nat) : Builtin.Slice.sliceAdjust none none (-1) (n : Int) = ((n : Int) - 1, -1) := by
  simp [Builtin.Slice.sliceAdjust]
theorem places_back (n : Nat) : Builtin.Slice.slicePlaces ((n : Int) - 1) (-1) (-1) = n := by
  simp [Builtin.Slice.slicePlaces]
  omega
theorem fm_congr {α β : Type} {f g : α → Option β} : ∀ {l : List α}, (∀ k ∈ l, f k = g k) → l.filterMap f = l.filterMap g
  | [], _ => rfl
  | a :: l, h => by
    rw [List.filterMap_cons, List.filterMap_cons, h a (List.mem_cons_self ..), fm_congr fun k hk => h k (List.mem_cons_of_mem _ hk)]
theorem pick_back (xs : Array Value) : ((List.range xs.size).filterMap fun (k : Nat) => xs[((xs.size : Int) - 1 + (k : Int) * -1).toNat]?).toArray = xs.toList.reverse.toArray := by
  congr 1
  obtain ⟨l⟩ := xs
  simp only [List.size_toArray, List.getElem?_toArray]
  apply List.ext_getElem?
  intro i
  have e : ((List.range l.length).filterMap fun (k : Nat) => l[((l.length : Int) - 1 + (k : Int) * -1).toNat]?) = (List.range l.length).map fun k => (l[l.length - 1 - k]?).getD .none := by
    rw [← List.filterMap_eq_map]
    apply fm_congr
    intro k hk
    have hk := List.mem_range.mp hk
    have e1 : ((l.length : Int) - 1 + (k : Int) * -1).toNat = l.length - 1 - k := by omega
    have h2 : l.length - 1 - k < l.length := by omega
    rw [e1]
    simp [h2]
  rw [e]
  by_cases hi : i < l.length
  · rw [List.getElem?_map, List.getElem?_range hi, Option.map_some, List.getElem?_reverse hi, List.getElem?_eq_getElem (by omega)]
    rfl
  · rw [List.getElem?_eq_none (by simpa using hi), List.getElem?_eq_none (by simpa using hi)]
section
variable {p : Program} {w : World} {A : Around} {E : Value → Shared → Prop} {z : Shared}
/-- what a slice with the step -1 comes to -/
theorem applied_back {sl : Addr} {b : Value} {n : Nat} {Q : Int × Int × Nat → Shared → Prop} (hs : z.heap.IsSliceOf sl .none .none b) (pb : IsPart b (some (-1))) (h : Q ((n : Int) - 1, -1, n) z) : wpAny (model p w) A (Builtin.Slice.sliceApplied (.ref sl) (pure (n : Int))) Q E z := by
  obtain ⟨ob, eo, _, ed⟩ := hs
  unfold Builtin.Slice.sliceApplied
  unfold Builtin.Slice.sliceFields
  have f0 : ∀ {R : Value → Shared → Prop}, R .none z → wpAny (model p w) A (field (.ref sl) 0) R E z := fun r => wpAny_field eo ed rfl r
  have f1 : ∀ {R : Value → Shared → Prop}, R .none z → wpAny (model p w) A (field (.ref sl) 1) R E z := fun r => wpAny_field eo ed rfl r
  have f2 : ∀ {R : Value → Shared → Prop}, R b z → wpAny (model p w) A (field (.ref sl) 2) R E z := fun r => wpAny_field eo ed rfl r
  refine wpAny_bind (wpAny_bind (f0 (wpAny_bind (f1 (wpAny_bind (f2 (wpAny_pure (wpAny_bind (HT.slicePart_ pb ?_)))))))))
  show wpAny _ _ (if ((-1 : Int) == 0) = true then _ else _) _ _ z
  rw [if_neg (show ¬ ((-1 : Int) == 0) = true by decide)]
  refine wpAny_bind (slicePart_none (wpAny_bind (slicePart_none (wpAny_bind (wpAny_pure ?_)))))
  have ea := adjust_back n
  have ep := places_back n
  show wpAny _ _ (match Builtin.Slice.sliceAdjust none none (-1) (n : Int) with | (i, j) => pure (i, (-1 : Int), Builtin.Slice.slicePlaces i j (-1))) _ _ z
  rw [ea]
  show wpAny _ _ (pure ((n : Int) - 1, (-1 : Int), Builtin.Slice.slicePlaces ((n : Int) - 1) (-1) (-1))) _ _ z
  rw [ep]
  exact wpAny_pure h
theorem item_back {t sl : Addr} {us : Array Value} {b : Value} {Q : Value → Shared → Prop} (ht : IsTup z.heap t us) (hs : z.heap.IsSliceOf sl .none .none b) (pb : IsPart b (some (-1)))
    (h : Q (.ref z.heap.objs.size) { z with heap := z.heap.push { cls := .type "tuple", data := .seq us.toList.reverse.toArray } }) (few : us.size ≤ sizeLine) : wpAny (model p w) A (getItem (.ref t) (.ref sl)) Q E z := by
  have fits : sizeOk (.seq us.toList.reverse.toArray) := show us.toList.reverse.toArray.size ≤ sizeLine by simpa using few
  have isSl : z.TypeIs (.ref sl) "slice" := let ⟨ob, eo, ec, _⟩ := hs; ⟨ob, eo, ec⟩
  unfold getItem
  (try with_reducible refine wpAny_holding ?_); (first | refine wpAny_bind (wpAny_pure ?_) | skip)
  refine wpAny_bind (wpAny_sequenceKey ht.typeIs (by decide) (wpAny_bind (wpAny_callSpecial?_slot (name := Str.ofString "__getitem__") ht.typeIs PyProof.Rows.slot_tuple_getitem (wpAny_call_entry PyProof.Rows.slot_tuple_getitem ht.typeIs entry_tuple_getitem ?_ (args_tuple_getitem _ _)))))
  show wpAny _ _ (Builtin.Tuple.tupleItemsOf (.ref t) >>= _) _ E z
  refine wpAny_bind (tupleItemsOf_ ht (wpAny_bind (wpAny_typeOf isSl ?_)))
  rw [if_pos (by decide)]
  refine wpAny_bind (applied_back hs pb ?_)
  show wpAny _ _ (if ((((us.size : Int) - 1) == 0 && (-1 : Int) == 1 && us.size == us.size) = true) then _ else _) _ E z
  rw [if_neg (by simp), pick_back]
  first
    | exact wpAny_bind (wpAny_bind (m := Builtin.Tuple.tupleExact us.toList.reverse.toArray) (wpAny_newObj_type (wpAny_pure ⟨_, rfl, wpAny_pure h⟩) fits))
    | exact wpAny_bind (m := Builtin.Tuple.tupleExact us.toList.reverse.toArray) (wpAny_newObj_type (wpAny_pure ⟨_, rfl, wpAny_pure h⟩) fits)
    | exact wpAny_bind (m := Builtin.Tuple.tupleExact us.toList.reverse.toArray) (wpAny_newObj_type (wpAny_bind (wpAny_pure (wpAny_pure ⟨_, rfl, wpAny_pure h⟩))) fits)
end
section
variable {X : Cx}
def tRevT (K : PySem.W.Frag) (te : TE) : TE := fun σ H Q => te σ H fun x H1 => ∃ a xs, x = .ref a ∧ SqT K H1 a xs ∧ NewT H1 xs.reverse Q
theorem pe_revT {e : Expr} {te : TE} {k : Nat} {p1 p2 p3 pos : Pos} (he : PE X e te) : PE X (.Subscript e (.Slice none none (some (.UnaryOp .USub (.Constant (.int 1) k p1) p2)) p3) pos) (tRevT X.K te) := by
  have step : PO X (some (.UnaryOp .USub (.Constant (.int 1) k p1) p2)) (tPart (tUn (rU fun j => .int (-j)) (tC (.int 1)))) := po_some (pe_un un_neg pe_int)
  constructor
  intro pins z σ H Q I h
  refine Subscript_ (thn (he.run pins z σ H _ I h) fun v z1 ⟨x, H1, I1, r1, g, xs, ex, hx, q⟩ => ?_)
  subst ex
  cases r1
  refine wpAny_Slice (thn (po_none.run pins z1 σ H1 (fun o G => o = none ∧ G = H1) I1 ⟨rfl, rfl⟩) fun lo z2 ⟨o1, H2, I2, is1, eo1, eH1⟩ => ?_)
  subst eo1 eH1
  cases is1
  refine thn (po_none.run pins z2 σ H2 (fun o G => o = none ∧ G = H2) I2 ⟨rfl, rfl⟩) fun hi z3 ⟨o2, H3, I3, is2, eo2, eH2⟩ => ?_
  subst eo2 eH2
  cases is2
  refine thn (step.run pins z3 σ H3 (fun o G => o = some (-1) ∧ G = H3) I3 ⟨1, rfl, -1, rfl, rfl, rfl⟩) fun b z4 ⟨o3, H4, I4, is3, eo3, eH3⟩ => ?_
  subst eo3 eH3
  obtain ⟨z5, e5⟩ : ∃ z5 : Shared, z5 = { z4 with heap := z4.heap.push { cls := .type "slice", data := .fields #[.none, .none, b] } } := ⟨_, rfl⟩
  have I5 : Inv X pins σ H4 z5 := e5 ▸ I4.kept (t' := z4.toks) fun c ob y => Heap.get?_push_of_some _ y
  obtain ⟨us, r, ht, few⟩ := I5.tuple hx
  have hs : z5.heap.IsSliceOf z4.heap.objs.size .none .none b := by rw [e5]; exact Heap.IsSliceOf.new z4.heap .none .none b
  show wpAny (model X.prog X.w) X.A (subscriptTail e (.Slice none none (some (.UnaryOp .USub (.Constant (.int 1) k p1) p2)) p3) (.ref g) (.ref z4.heap.objs.size)) (EP X pins σ Q) X.xe _
  rw [← e5]
  refine tail_any (ops := [.ref g, .ref z4.heap.objs.size]) ht.typeIs PyProof.Rows.slot_tuple_getitem.lookup (item_back ht hs is3 ?_ (by rw [List.size_toArray, ← r.length]; exact few)) (by with_unfolding_all rfl)
  exact I5.newT (t' := z5.toks) r.reverse (by rw [List.length_reverse]; exact few) q
end
end G
end

section
set_option Elab.async false
set_option linter.all false
set_option maxRecDepth 100000
set_option maxHeartbeats 4000000
/-! G35: a law that calls such a def three times. -/
namespace G
open PySem PySem.Spec PyProof.Rows L2
def noT (H : Hp) : Hp := fun b => match H b with
  | some (.tbl _) => none
  | o => o
theorem noT_some {H : Hp} {b : Addr} {o : HO} (h : H b = some o) (n : ∀ ps, o ≠ .tbl ps) : noT H b = some o := by
  unfold noT
  rw [h]
  split
  · rename_i ps e
    exact absurd (Option.some.inj e) (n ps)
  · rfl
theorem noT_same (H : Hp) : Same (noT H) H := fun b o e => by
  unfold noT at e
  split at e
  · cases e
  · exact e
theorem noT_no (H : Hp) : NoTb (noT H) := fun b ps e => by
  have h := noT_same H b _ e
  unfold noT at e
  rw [h] at e
  cases e
section
variable {K : PySem.W.Frag} {w : World} {H : Hp}
theorem noT_fz {a : Addr} {xs : List V} (h : Fz H a xs) : Fz (noT H) a xs := let ⟨o, e, d⟩ := h; ⟨o, noT_some e (fun _ z => by cases z), d⟩
theorem noT_sq {a : Addr} {xs : List V} (h : SqL K H a xs) : SqL K (noT H) a xs := by
  rcases h with (h | ⟨o, h⟩) | h
  · exact .inl (.inl (noT_some h (fun _ z => by cases z)))
  · exact .inl (.inr ⟨o, noT_some h (fun _ z => by cases z)⟩)
  · exact .inr h
mutual
theorem Rp.noT : ∀ {v : V} {d : D}, Rp K w H v d → Rp K w (noT H) v d
  | _, _, .non => .non
  | _, _, .bl b => .bl b
  | _, _, .int i => .int i
  | _, _, .str x => .str x
  | _, _, .lst h a => .lst (noT_some h (fun _ z => by cases z)) (RpAll.noT a)
  | _, _, .tup h a => .tup (noT_fz h) (RpAll.noT a)
  | _, _, .loose h a => .loose (noT_some h (fun _ z => by cases z)) (RpAll.noT a)
  | _, _, .scr h => .scr (noT_sq h)
  | _, _, .dct h n i r => .dct (noT_some h (fun _ z => by unfold dkO at z; cases z)) n i (RpKvs.noT r)
theorem RpAll.noT : ∀ {vs : List V} {ds : List D}, RpAll K w H vs ds → RpAll K w (noT H) vs ds
  | _, _, .nil => .nil
  | _, _, .cons h t => .cons (Rp.noT h) (RpAll.noT t)
theorem RpKvs.noT : ∀ {ks : KsT} {kvs : List (D × D)}, RpKvs K w H ks kvs → RpKvs K w (noT H) ks kvs
  | _, _, .nil => .nil
  | _, _, .cons k h v t => .cons k (Rp.noT h) (Rp.noT v) (RpKvs.noT t)
end
theorem rp_tupI {v : V} {xs : List Int} (r : Rp K w H v (.tuple (xs.map .int))) : ∃ g, v = .ref g ∧ Fz H g (xs.map V.int) := by
  cases r with
  | tup f r =>
    obtain rfl := RpAll.ints r
    exact ⟨_, rfl, f⟩
end
def lgF (xs : List Int) : List Int := lgR xs (sortK xs (sortU xs))
section
variable (K : PySem.W.Frag) (w : World) (cl : Nat → Addr) (W : WX) (sp : Sp) (E1 E2 E3 : L2.St → XK)
/-- a block whose base is chosen where it is read -/
def tSx (f : Sg → Out) : TS := fun D σ H => ∃ Hd0 H0, tS K w ⟨cl, Hd0, H0⟩ W f D σ H
def lawT2 (u6 : Sg → Out) : TS :=
  tSeq (tAsg (tCallS sp E1 (tCons (tVar 1) (tCons (tVar 2) tNil))) (gName 8))
  (tSeq (tSx K w cl W u6)
  (tRet (tAndV (tOp (rEqP K false) (tCallS sp E2 (tCons (tVar 1) (tCons (tVar 8) tNil))) (tVar 8)) (tOp (rEqP K false) (tCallS sp E3 (tCons (tVar 1) (tCons (tRevT K (tVar 2)) tNil))) (tVar 8)))))
def lawT (B : Bx) (u1 u2 u3 u4 u6 : Sg → Out) : TS := tSeq (tS K w B W u1) (tSeq (tS K w B W u2) (tSeq (tS K w B W u3) (tSeq (tS K w B W u4) (lawT2 K w cl W sp E1 E2 E3 u6))))
end
theorem PS.sx {X : Cx} {W : WX} {st : Stmt} {cl : Nat → Addr} {f : Sg → Out} (h : ∀ Hd0 H0, DS X ⟨cl, Hd0, H0⟩ W st f) : PS X st (tSx X.K X.w cl W f) := ⟨fun pins s σ H D I ⟨Hd0, H0, hw⟩ => (h Hd0 H0).run pins s σ H D I hw⟩
def st6 (d0 : D) (cs : List Int) (rows : List D) : Sg := [.un, .dat d0, .dat (.tuple (cs.map .int)), .dat (.list rows), .un, .un, .un, .un, .dat (.tuple ((lgF cs).map .int))]
/-- what the law's own facts come to -/
structure LawOk (u1 u2 u3 u4 u6 : Sg → Out) (φ1 φ2 : Fn) (d0 : D) (cs : List Int) (rows : List D) (ns : List Int) : Prop where
  run : ∃ g1 g2 g3 g4, u1 (initS 9 [scrD ns]) = .nx g1 ∧ u2 g1 = .nx g2 ∧ u3 g2 = .nx g3 ∧ u4 (g3.set 0 .un) = .nx g4 ∧ g4[1]? = some (.dat d0) ∧ g4[2]? = some (.dat (.tuple (cs.map .int))) ∧ g4[3]? = some (.lst rows) ∧ g4.length = 9
  h1 : ∃ r, φ1 [d0] = .ok r
  h2 : ∃ r, φ2 [d0, .tuple (cs.map .int)] = .ok r
  h3 : ∃ r, φ2 [d0, .tuple ((lgF cs).map .int)] = .ok r
  h4 : ∃ r, φ2 [d0, .tuple (cs.reverse.map .int)] = .ok r
  l1 : cs.length < 64
  l2 : (lgF cs).length < 64
  e1 : lgF (lgF cs) = lgF cs
  e2 : lgF cs.reverse = lgF cs
  e6 : u6 (st6 d0 cs rows) = .nx (st6 d0 cs rows)
section
variable {K : PySem.W.Frag} {w : World} {cl : Nat → Addr} {W : WX} {φ1 φ2 : Fn} {P : Addr} {q : Str}
theorem lg_call {v1 v2 : V} {Hd H : Hp} {d0 : D} {cs : List Int} {Q : VK} (sm : Same Hd H) (nt : NoTb Hd) (t : LamX.TabS H P q) (r1 : Rp K w Hd v1 d0) (r2 : Rp K w Hd v2 (.tuple (cs.map .int))) (h1 : ∃ r, φ1 [d0] = .ok r) (h2 : ∃ r, φ2 [d0, .tuple (cs.map .int)] = .ok r) (l : cs.length < 64)
    (k : ∀ v' Hd' H', Same Hd Hd' → Same Hd' H' → NoTb Hd' → LamX.TabS H' P q → Rp K w Hd' v' (.tuple ((lgF cs).map .int)) → Q v' H') : spLg K w φ1 φ2 P q [v1, v2] H Q (fun _ _ _ => False) := by
  obtain ⟨g, rfl, f⟩ := rp_tupI r2
  obtain ⟨a, h1⟩ := h1
  obtain ⟨b, h2⟩ := h2
  exact ⟨d0, a, b, cs, v1, g, Hd, rfl, sm, nt, r1, f, h1, h2, l, t, fun v' Hd' H' s1 s2 n _ _ t' r' => k v' Hd' H' s1 s2 n t' r'⟩
theorem dp_tupI {v : V} {Hd H : Hp} {xs : List Int} (s : Same Hd H) (r : Rp K w Hd v (.tuple (xs.map .int))) : Dp K H v (.tuple (xs.map .int)) := (r.mono s).dp (by simp [PyData.plain, plain_ints])
theorem eqvAll_self : ∀ xs : List Int, PyData.eqvAll (xs.map .int) (xs.map .int) = true
  | [] => by simp [PyData.eqvAll]
  | x :: xs => by
    have := eqvAll_self xs
    simp [PyData.eqvAll, PyData.eqv] at this ⊢
    exact this
theorem rEq_tups {v1 v2 : V} {Hd H : Hp} {xs : List Int} {Q : VK} (s : Same Hd H) (r1 : Rp K w Hd v1 (.tuple (xs.map .int))) (r2 : Rp K w Hd v2 (.tuple (xs.map .int))) (k : Q (.bl true) H) : rEqP K false v1 v2 H Q := by
  have fi : fine (PyData.tuple (xs.map .int)) = true := fine_iff.mpr ⟨by simp [PyData.plain, plain_ints], ?_⟩
  · refine ⟨_, _, dp_tupI s r1, dp_tupI s r2, fi, fi, ?_⟩
    have e : PyData.eqv (.tuple (xs.map .int)) (.tuple (xs.map .int)) = true := by
      simp [PyData.eqv, eqvAll_self]
    rw [if_neg Bool.false_ne_true, e]
    exact k
  · have key : ∀ xs : List Int, PyData.depthAll (xs.map .int) ≤ 1 := fun xs => by
      induction xs with
      | nil => simp [PyData.depthAll]
      | cons x xs ih => simp [PyData.depthAll, PyData.depth] at ih ⊢; omega
    have := key xs
    simp only [PyData.depth]
    omega
theorem rep_of {Hd H : Hp} {σ : L2.St} {g : Sg} (sm : Same Hd H) (l : σ.length = g.length) (h : ∀ (j : Nat) (s : Sl), g[j]? = some s → s = .un ∨ ∃ d v, s = .dat d ∧ σ[j]? = some (some v) ∧ Rp K w Hd v d) : Rep K w ⟨cl, Hd, H⟩ Hd H σ g := by
  refine ⟨Step.refl sm, l, fun _ => 0, fun i j si sj _ ei _ oi _ => ?_, fun j s e => ?_⟩
  · rcases h i si ei with rfl | ⟨d, v, rfl, _⟩ <;> cases oi
  · rcases h j s e with rfl | ⟨d, v, rfl, e2, r⟩
    · trivial
    · exact ⟨v, by rw [e2]; rfl, r⟩
theorem law_read {E1 E2 E3 : L2.St → XK} {u1 u2 u3 u4 u6 : Sg → Out} {d0 : D} {cs : List Int} {rows : List D} {ns : List Int} {N : List Str} (hN : N.length = 9) {a : Addr} {H : Hp} {Q : VK} (ok : LawOk u1 u2 u3 u4 u6 φ1 φ2 d0 cs rows ns) (hS : SqL K H a (ns.map V.int)) (hT : LamX.TabS H P q) (post : ∀ H', Q (.bl true) H') :
    lawT K w cl W (spLg K w φ1 φ2 P q) E1 E2 E3 ⟨cl, noT H, H⟩ u1 u2 u3 u4 u6 { nx := fun _ H' => Q .non H', rt := Q } (L2.start N [.ref a]) H := by
  have hst : L2.start N [.ref a] = [some (.ref a), none, none, none, none, none, none, none, none] := by
    unfold L2.start
    rw [hN]
    rfl
  rw [hst]
  obtain ⟨⟨g1, g2, g3, g4, e1, e2, e3, e4, x1, x2, x3, x4⟩, h1, h2, h3, h4, l1, l2, f1, f2, f6⟩ := ok
  have rep0 : Rep K w ⟨cl, noT H, H⟩ (noT H) H [some (.ref a), none, none, none, none, none, none, none, none] (initS 9 [scrD ns]) := by
    refine rep_of (noT_same H) rfl fun j s e => ?_
    match j, e with
    | 0, e => cases e; exact .inr ⟨_, .ref a, rfl, rfl, .scr (noT_sq hS)⟩
    | 1, e => cases e; exact .inl rfl
    | 2, e => cases e; exact .inl rfl
    | 3, e => cases e; exact .inl rfl
    | 4, e => cases e; exact .inl rfl
    | 5, e => cases e; exact .inl rfl
    | 6, e => cases e; exact .inl rfl
    | 7, e => cases e; exact .inl rfl
    | 8, e => cases e; exact .inl rfl
    | _ + 9, e => simp [initS] at e
  refine ⟨_, _, rep0, ?_⟩
  rw [e1]
  intro σ1 Hd1 H1 _ rep1
  refine ⟨_, _, rep1, ?_⟩
  rw [e2]
  intro σ2 Hd2 H2 _ rep2
  refine ⟨_, _, rep2, ?_⟩
  rw [e3]
  intro σ3 Hd3 H3 _ rep3
  refine ⟨_, _, rep3.forget 0, ?_⟩
  rw [e4]
  intro σ4 Hd4 H4 _ rep4
  obtain ⟨Hd5, _, rep5⟩ := rep4.freeze 3
  have t5 : LamX.TabS H4 P q := hT.ext fun b o e => rep5.base.h b o e
  have y3 : (fzAt 3 g4)[3]? = some (.dat (.list rows)) := by
    unfold fzAt
    rw [x3]
    simp [x4, frz]
  have y1 : (fzAt 3 g4)[1]? = some (.dat d0) := by
    unfold fzAt
    rw [x3]
    simp [x1]
  have y2 : (fzAt 3 g4)[2]? = some (.dat (.tuple (cs.map .int))) := by
    unfold fzAt
    rw [x3]
    simp [x2]
  obtain ⟨v1, w1, r1⟩ := rep5.at y1
  obtain ⟨v2, w2, r2⟩ := rep5.at y2
  obtain ⟨v3, w3, r3⟩ := rep5.at y3
  have sm5 : Same (noT Hd5) H4 := (noT_same Hd5).trans rep5.same
  have r1 := Rp.noT r1
  have r2 := Rp.noT r2
  have r3 := Rp.noT r3
  have l4 : σ4.length = 9 := rep4.len.trans x4
  match σ4, l4, w1, w2, w3 with
  | [b0, b1, b2, b3, b4, b5, b6, b7, b8], _, w1, w2, w3 =>
  cases w1
  cases w2
  cases w3
  refine ⟨v1, rfl, v2, rfl, lg_call sm5 (noT_no _) t5 r1 r2 h1 h2 l1 fun vf Hd6 H6 s6 s6' n6 t6 rf => ?_⟩
  have rep6 : Rep K w ⟨cl, Hd6, H6⟩ Hd6 H6 [b0, some v1, some v2, some v3, b4, b5, b6, b7, some vf] (st6 d0 cs rows) := by
    refine rep_of s6' rfl fun j s e => ?_
    match j, e with
    | 0, e => cases e; exact .inl rfl
    | 1, e => cases e; exact .inr ⟨_, v1, rfl, rfl, r1.mono s6⟩
    | 2, e => cases e; exact .inr ⟨_, v2, rfl, rfl, r2.mono s6⟩
    | 3, e => cases e; exact .inr ⟨_, v3, rfl, rfl, r3.mono s6⟩
    | 4, e => cases e; exact .inl rfl
    | 5, e => cases e; exact .inl rfl
    | 6, e => cases e; exact .inl rfl
    | 7, e => cases e; exact .inl rfl
    | 8, e => cases e; exact .inr ⟨_, vf, rfl, rfl, rf⟩
    | _ + 9, e => simp [st6] at e
  refine ⟨Hd6, H6, st6 d0 cs rows, Hd6, rep6, ?_⟩
  rw [f6]
  intro σ7 Hd7 H7 _ rep7
  obtain ⟨v1', w1, r1⟩ := rep7.at (i := 1) rfl
  obtain ⟨v2', w2, r2⟩ := rep7.at (i := 2) rfl
  obtain ⟨v8', w8, r8⟩ := rep7.at (i := 8) rfl
  have t7 : LamX.TabS H7 P q := t6.ext fun b o e => rep7.base.h b o e
  have sm7 : Same (noT Hd7) H7 := (noT_same Hd7).trans rep7.same
  have r1 := Rp.noT r1
  have r2 := Rp.noT r2
  have r8 := Rp.noT r8
  refine ⟨v1', w1, v8', w8, lg_call sm7 (noT_no _) t7 r1 r8 h1 h3 l2 fun vg Hd8 H8 s8 s8' n8 t8 rg => ⟨v8', w8, ?_⟩⟩
  rw [f1] at rg
  refine rEq_tups s8' rg (r8.mono s8) ⟨true, rfl, ?_⟩
  rw [if_pos rfl]
  obtain ⟨gc, ec, fc⟩ := rp_tupI r2
  refine ⟨v1', w1, v2', w2, gc, cs.map V.int, ec, (fc.same (s8.trans s8')).sq, fun p o od np => ?_⟩
  have npd : Hd8 p = none := s8'.free np
  obtain ⟨Hd9, e9⟩ : ∃ Hd9, Hd9 = upd Hd8 p (.frz o (.tup (cs.map V.int).reverse)) := ⟨_, rfl⟩
  have s9 : Same Hd8 Hd9 := by rw [e9]; exact same_upd npd
  have n9 : NoTb Hd9 := fun b ps e => by
    rw [e9] at e
    by_cases z : b = p
    · rw [z, upd_same] at e; cases e
    · rw [upd_ne z] at e; exact n8 b ps e
  have rr : Rp K w Hd9 (.ref p) (.tuple (cs.reverse.map .int)) := by
    refine .tup (xs := (cs.map V.int).reverse) ⟨o, by rw [e9, upd_same], od⟩ ?_
    rw [← List.map_reverse]
    exact RpAll.of_ints _
  refine lg_call (Hd := Hd9) (by rw [e9]; exact same_upd2 s8') n9 (t8.ext fun b o e => same_upd np b o e) ((r1.mono s8).mono s9) rr h1 h4 (by rw [List.length_reverse]; exact l1) fun vh Hd10 H10 s10 s10' n10 t10 rh => ⟨v8', w8, ?_⟩
  rw [f2] at rh
  exact rEq_tups s10' rh (((r8.mono s8).mono s9).mono s10) (post _)
end
end G
end

section
set_option Elab.async false
set_option linter.all false
set_option maxRecDepth 100000
set_option maxHeartbeats 4000000
/-! G36: defs by such readings. -/
namespace G
open PySem PySem.Spec PyProof.Rows L2
section
variable {P : Program} {w : World} {K : PySem.W.Frag} {mg : Str → Option Value} {base : Heap} {cl : Nat → Addr} {φ1 φ2 : Fn} {PT : Addr} {q : Str}
theorem mk_lg {x qual : Str} {st : Stmt} {f : Addr} {dV kV doc pm cdv ct oc : Value} {an od : Option Addr} {osl : Array (Option Value)} {N ps : List Str} {k : Nat}
    (lk : K.lookup f = some ⟨oc, od, .func (PySem.W.fnOf x qual (defArgs st) (defBody st) (defScope st) dV kV doc pm an cdv ct), osl⟩) (hcd : PySem.W.codeIn K cdv qual = true) (S : FnScope N ps (defScope st)) (hN : N.length = 5) (hps : ps.length = 2)
    (hu : ∀ (A : Around) (outer : List Env) (s : Shared) (H Hd : Hp) (E : XK), Room k (A.deeper (envOfC qual (defScope st) s.heap.objs.size f cdv)) → PSs (cxOf (L2.CX P w) P w K mg base N qual (defScope st) f cdv A outer s H E) (defBody st) (lgT K w ⟨cl, Hd, H⟩ (fun c d _ H' => E c d H') φ1 φ2 PT q)) :
    FnOk P w K mg base (L2.CX P w) (k + 1) f (PySem.W.fnOf x qual (defArgs st) (defBody st) (defScope st) dV kV doc pm an cdv ct) ps (spLg K w φ1 φ2 PT q) :=
  fn_of lk hcd S (fun vs H Q E ⟨_, _, _, _, _, _, _, e, _⟩ => by rw [e, hps]; rfl) fun A outer s H vs Q E hr h => by
    obtain ⟨d0, r1, r2, xs, v0, g, Hd, rfl, sm, nt, rv0, hg, h1, h2, hx, hT, post⟩ := h
    exact ⟨_, hu A outer s H Hd E hr, lg_read hN sm nt rv0 hg h1 h2 hx hT post⟩
def spLT (K : PySem.W.Frag) (PT : Addr) (q : Str) (u1 u2 u3 u4 u6 : Sg → Out) (φ1 φ2 : Fn) : Sp := fun vs H Q _ => ∃ (a : Addr) (ns : List Int) (d0 : D) (cs : List Int) (rows : List D), vs = [.ref a] ∧ SqL K H a (ns.map V.int) ∧ LamX.TabS H PT q ∧ LawOk u1 u2 u3 u4 u6 φ1 φ2 d0 cs rows ns ∧ ∀ H', Q (.bl true) H'
theorem mk_l15 {x qual : Str} {st : Stmt} {f : Addr} {fd : FuncData} {N ps : List Str} {k : Nat} {u1 u2 u3 u4 u6 : Sg → Out} (F : Fun K x qual st f fd) (S : FnScope N ps (defScope st)) (hN : N.length = 9) (hps : ps.length = 1)
    (hu : ∀ (cdv : Value) (A : Around) (outer : List Env) (s : Shared) (H Hd H0 : Hp) (E : XK), Room k (A.deeper (envOfC qual (defScope st) s.heap.objs.size f cdv)) → PSs (cxOf (L2.CX P w) P w K mg base N qual (defScope st) f cdv A outer s H E) (defBody st)
      (lawT K w cl (fun c d _ H' => E c d H') (spLg K w φ1 φ2 PT q) (WE fun c d _ H' => E c d H') (WE fun c d _ H' => E c d H') (WE fun c d _ H' => E c d H') ⟨cl, Hd, H0⟩ u1 u2 u3 u4 u6)) :
    FnOk P w K mg base (L2.CX P w) (k + 1) f fd ps (spLT K PT q u1 u2 u3 u4 u6 φ1 φ2) :=
  F.okX S (fun vs H Q E ⟨_, _, _, _, _, e, _⟩ => by rw [e, hps]; rfl) fun cdv A outer s H vs Q E hr h => by
    obtain ⟨a, ns, d0, cs, rows, rfl, hS, hT, ok, post⟩ := h
    exact ⟨_, hu cdv A outer s H (noT H) H E hr, law_read hN ok hS hT post⟩
end
/-- the end of the row -/
theorem law_at {l : PySem.W.OpenLaw} {w : World} {K : PySem.W.Frag} {mg : Str → Option Value} {fa c PT : Addr} {h : Heap} {k n : Nat} {x : Str}
    (H : ∃ (fd : FuncData) (sp : Sp), (∀ (s : Shared) (u : Value), BindsTo s fd ⟨[u], []⟩ [(x, u)]) ∧ (∀ (H : Hp) (a : Addr) (ns : List Int), ns.length ≤ n → H PT = some (.tbl #[]) → SqL K H a (ns.map V.int) → sp [.ref a] H (fun v _ => v = .bl true) fun _ _ _ => False) ∧
      ∀ base : Heap, K.In base → base.Ns mainGlobals mg → LamX.TabB base mg c PT → FnOk l.prog w K mg base (L2.CX l.prog w) k fa fd [x] sp)
    (t1 : h.get? PT = some { cls := .none, data := .fields #[] }) (t2 : K.lookup PT = none) (X : K.In h) (t3 : PySem.W.codeHdIn K c PT = true) : LamX.LawAtS l w K (L2.CX l.prog w) k n x mg fa h := by
  obtain ⟨fd, sp, hb, hsp, hF⟩ := H
  refine ⟨fd, [(c, PT)], sp, ?_, ?_, ?_, hb, fun H a ns hl _ hT hS => hsp H a ns hl (hT _ (List.mem_singleton.mpr rfl)) hS, fun base X' G hT => hF base X' G (hT _ (List.mem_singleton.mpr rfl))⟩
  · intro p hp
    rw [List.mem_singleton.mp hp]
    exact t1
  · intro p hp
    rw [List.mem_singleton.mp hp]
    exact t2
  · intro p hp
    rw [List.mem_singleton.mp hp]
    exact PySem.W.codeHd_of_K X t3
end G
end

section
set_option Elab.async false
set_option linter.all false
set_option maxRecDepth 100000
set_option maxHeartbeats 4000000
namespace W
open PySem PySem.Spec PyProof.Rows L2 G
noncomputable section
def u1_k15 : Sg → Out := (oSet 1 (fBin ixD (fL (fLst (fCons (fTup (fCons (fC (.int 2)) (fCons (fC (.int 3)) fNil))) (fCons (fTup (fCons (fC (.int 3)) (fCons (fC (.int 2)) fNil))) (fCons (fTup (fCons (fC (.int 3)) (fCons (fC (.int 3)) fNil))) (fCons (fTup (fCons (fC (.int 2)) (fCons (fC (.int 4)) fNil))) (fCons (fTup (fCons (fC (.int 4)) (fCons (fC (.int 2)) fNil))) (fCons (fTup (fCons (fC (.int 1)) (fCons (fC (.int 5)) fNil))) (fCons (fTup (fCons (fC (.int 2)) (fCons (fC (.int 5)) fNil))) (fCons (fTup (fCons (fC (.int 5)) (fCons (fC (.int 2)) fNil))) fNil)))))))))) (fBin modD (fCall m_law_cell (fCons (fVar 0) (fCons (fC (.int 0)) fNil))) (fC (.int 8)))))
def u2_k15 : Sg → Out := (oSet 2 (fCall m_law_code (fCons (fVar 1) (fCons (fCall m_law_cell (fCons (fVar 0) (fCons (fC (.int 1)) fNil))) fNil))))
def u3_k15 : Sg → Out := (oSetO 3 (fLst fNil))
def u4_k15 : Sg → Out := (oFor (fUn itD (fCall m_law_orders (fCons (fBin ixD (fVarT 1) (fC (.int 0))) fNil))) (gN 4) (oNames (oOwn 3 (fUn tupleD (fVarT 6)) appF)))
def u6_k15 : Sg → Out := (oIf (fOr (fNot (fTru (fIsi "tuple" (fVarT 8)))) (fB (fBin neD (fVarT 8) (fUn minA (fVarT 3))))) (oRet (fC (.bool false))) oNx)
end
end W
end

section
set_option Elab.async false
set_option linter.all false
set_option maxRecDepth 100000
set_option maxHeartbeats 4000000
namespace W
open PySem PySem.Spec PyProof.Rows L2 G
def topS (i : Nat) : Stmt := PySem.Challenge.pw_guesscode_k15_least_names.main.body.getD i (.Pass ⟨0, 0, 0, 0⟩)
structure GC (mg : Str → Option Value) : Prop where
  MOST_CODES : ∃ t, mg "MOST_CODES" = some (.int 300 t)
  MOST_COLOURS : ∃ t, mg "MOST_COLOURS" = some (.int 8 t)
  MOST_PLACES : ∃ t, mg "MOST_PLACES" = some (.int 5 t)
structure CF (K : PySem.W.Frag) (mg : Str → Option Value) (cl : Nat → Addr) : Prop where
  x_BadCode : ClsF K mg cl 2 "BadCode"
  x_BadGame : ClsF K mg cl 1 "BadGame"
section
variable {P : Program} {w : World} {K : PySem.W.Frag} {mg : Str → Option Value} {base : Heap} {cl : Nat → Addr}
/-! ### _law_cell -/
abbrev s_law_cell : Stmt := topS 16
theorem sc_law_cell : FnScope ["_law_script", "_law_k"] ["_law_script", "_law_k"] (defScope s_law_cell) := ⟨rfl, rfl, rfl, by decide +kernel, rfl, by decide +kernel, by decide +kernel⟩
theorem ok_law_cell {f : Addr} {fd : FuncData} (bt : Blt mg) (gc : GC mg) (cf : CF K mg cl) (F : Fun K "_law_cell" "_law_cell" s_law_cell f fd)  : FnOk P w K mg base (L2.CX P w) 1 f fd ["_law_script", "_law_k"] (spF K w cl 2 m_law_cell) :=
  mk_def F sc_law_cell fun cdv A outer s H Hd E hr => (dss_cons (ds_if (db_lt (dt_pv (pv 1)) (DE.t (de_len (by rfl) bt.len (dt_pv (pv 0))))) (dss_one (ds_ret (de_ix (dt_pv (pv 0)) (dt_pv (pv 1))))) dss_nil)
    (dss_one (ds_ret de_int)))
/-! ### _law_mix -/
abbrev s_law_mix : Stmt := topS 17
theorem sc_law_mix : FnScope ["_law_cell_here", "_law_prime", "_law_many"] ["_law_cell_here", "_law_prime", "_law_many"] (defScope s_law_mix) := ⟨rfl, rfl, rfl, by decide +kernel, rfl, by decide +kernel, by decide +kernel⟩
theorem ok_law_mix {f : Addr} {fd : FuncData} (bt : Blt mg) (gc : GC mg) (cf : CF K mg cl) (F : Fun K "_law_mix" "_law_mix" s_law_mix f fd)  : FnOk P w K mg base (L2.CX P w) 1 f fd ["_law_cell_here", "_law_prime", "_law_many"] (spF K w cl 3 m_law_mix) :=
  mk_def F sc_law_mix fun cdv A outer s H Hd E hr => (dss_one (ds_ret (de_mod (DE.t (de_mod (DE.t (de_mul (dt_pv (pv 0)) (DE.t de_int))) (dt_pv (pv 1)))) (dt_pv (pv 2)))))
/-! ### _law_code -/
abbrev s_law_code : Stmt := topS 18
theorem sc_law_code : FnScope ["_law_game", "_law_cell_here", "_law_found", "_law_place"] ["_law_game", "_law_cell_here"] (defScope s_law_code) := ⟨rfl, rfl, rfl, by decide +kernel, rfl, by decide +kernel, by decide +kernel⟩
theorem ok_law_code {f : Addr} {fd : FuncData} (bt : Blt mg) (gc : GC mg) (cf : CF K mg cl) (F : Fun K "_law_code" "_law_code" s_law_code f fd) (h_law_mix : Has P w K mg base cl 1 "_law_mix" ["_law_cell_here", "_law_prime", "_law_many"] m_law_mix) : FnOk P w K mg base (L2.CX P w) 2 f fd ["_law_game", "_law_cell_here"] (spF K w cl 2 m_law_code) :=
  mk_def F sc_law_code fun cdv A outer s H Hd E hr => (dss_cons (ds_setO (i := 2) sc_law_code.nd rfl (by first | exact .inl rfl | exact .inr rfl) (do_lst da_nil))
    (dss_cons (ds_for (passes_of rfl) rfl (di_range1 (by rfl) bt.range (DE.t (de_ix (dt_pv (pv 0)) (DE.t de_int)))) (dg_name (i := 3) sc_law_code.nd rfl (by first | exact .inl rfl | exact .inr rfl)) (dss_one (ds_append (pv 2) (de_call h_law_mix hr (by omega) (takes_of rfl rfl rfl rfl) (by rfl) (da_cons (de_add (DE.t (de_add (dt_pv (pv 1)) (DE.t (de_mul (DE.t (de_mul (DE.t de_int) (dt_pv (pv 3)))) (dt_pv (pv 3)))))) (DE.t (de_mul (DE.t de_int) (dt_pv (pv 3))))) (da_cons de_int (da_cons (de_ix (dt_pv (pv 0)) (DE.t de_int)) da_nil))) (by exact (lenS (lenS (lenS len0))))) rfl rfl (pe_bm PySem.F.plainAttrs_list PySem.F.slot_list_append PySem.F.type_list_append mt_append (pv 2) (pa_cons (de_call h_law_mix hr (by omega) (takes_of rfl rfl rfl rfl) (by rfl) (da_cons (de_add (DE.t (de_add (dt_pv (pv 1)) (DE.t (de_mul (DE.t (de_mul (DE.t de_int) (dt_pv (pv 3)))) (dt_pv (pv 3)))))) (DE.t (de_mul (DE.t de_int) (dt_pv (pv 3))))) (da_cons de_int (da_cons (de_ix (dt_pv (pv 0)) (DE.t de_int)) da_nil))) (by exact (lenS (lenS (lenS len0))))) pa_nil)))))
    (dss_one (ds_ret (de_tuple (by rfl) bt.tuple (dt_pv (pv 2)))))))
/-! ### _law_orders -/
abbrev s_law_orders : Stmt := topS 19
theorem sc_law_orders : FnScope ["_law_many", "_law_found", "_law_turn", "_law_more", "_law_row", "_law_one"] ["_law_many"] (defScope s_law_orders) := ⟨rfl, rfl, rfl, by decide +kernel, rfl, by decide +kernel, by decide +kernel⟩
theorem ok_law_orders {f : Addr} {fd : FuncData} (bt : Blt mg) (gc : GC mg) (cf : CF K mg cl) (F : Fun K "_law_orders" "_law_orders" s_law_orders f fd)  : FnOk P w K mg base (L2.CX P w) 1 f fd ["_law_many"] (spF K w cl 1 m_law_orders) :=
  mk_def F sc_law_orders fun cdv A outer s H Hd E hr => (dss_cons (ds_set (i := 1) sc_law_orders.nd rfl (by first | exact .inl rfl | exact .inr rfl) (DO.toE (do_lst (da_cons (de_tup da_nil) da_nil))))
    (dss_cons (ds_for (passes_of rfl) rfl (di_range1 (by rfl) bt.range (dt_pv (pv 0))) (dg_name (i := 2) sc_law_orders.nd rfl (by first | exact .inl rfl | exact .inr rfl)) (dss_cons (ds_set (i := 3) sc_law_orders.nd rfl (by first | exact .inl rfl | exact .inr rfl) (DO.toE (do_lst da_nil)))
    (dss_cons (ds_for (passes_of rfl) rfl (di_any (de_pv (pv 1))) (dg_name (i := 4) sc_law_orders.nd rfl (by first | exact .inl rfl | exact .inr rfl)) (dss_one (ds_set (i := 3) sc_law_orders.nd rfl (by first | exact .inl rfl | exact .inr rfl) (de_add (dt_pv (pv 3)) (DE.t (DO.toE (do_lc rfl sc_law_orders.nd (di_range1 (by rfl) bt.range (dt_pv (pv 0))) (blkOk_by (own := [("_law_one", 5)]) (by rfl)) (fun _ _ _ _ _ => (dg_name (i := 5) sc_law_orders.nd rfl (by first | exact .inl rfl | exact .inr rfl))) (fun _ _ _ _ _ => (dts_one (db_nin (u65 hr) (dt_pv (pv 5)) (dt_pv (pv 4))))) (fun _ _ _ _ _ => (de_add (dt_pv (pv 4)) (DE.t (de_tup (da_cons (de_pv (pv 5)) da_nil))))))))))))
    (dss_one (ds_set (i := 1) sc_law_orders.nd rfl (by first | exact .inl rfl | exact .inr rfl) (de_pv (pv 3)))))))
    (dss_one (ds_ret (de_pv (pv 1))))))
/-! ### is_within -/
abbrev s_is_within : Stmt := topS 8
theorem sc_is_within : FnScope ["thing", "low", "high"] ["thing", "low", "high"] (defScope s_is_within) := ⟨rfl, rfl, rfl, by decide +kernel, rfl, by decide +kernel, by decide +kernel⟩
theorem ok_is_within {f : Addr} {fd : FuncData} (bt : Blt mg) (gc : GC mg) (cf : CF K mg cl) (F : Fun K "is_within" "is_within" s_is_within f fd)  : FnOk P w K mg base (L2.CX P w) 1 f fd ["thing", "low", "high"] (spF K w cl 3 m_is_within) :=
  mk_def F sc_is_within fun cdv A outer s H Hd E hr => (dss_one (ds_ret (de_and (de_isi kit_int G.boot_int (by rfl) bt.isinstance (by rfl) bt.int (dt_pv (pv 0))) (de_and (de_notT (DE.t (de_isi kit_bool G.boot_bool (by rfl) bt.isinstance (by rfl) bt.bool (dt_pv (pv 0))))) (de_one (de_chain2 (dt_pv (pv 1)) (dt_pv (pv 0)) (dt_pv (pv 2))))))))
/-! ### power -/
abbrev s_power : Stmt := topS 9
theorem sc_power : FnScope ["base", "many", "found", "turn"] ["base", "many"] (defScope s_power) := ⟨rfl, rfl, rfl, by decide +kernel, rfl, by decide +kernel, by decide +kernel⟩
theorem ok_power {f : Addr} {fd : FuncData} (bt : Blt mg) (gc : GC mg) (cf : CF K mg cl) (F : Fun K "power" "power" s_power f fd)  : FnOk P w K mg base (L2.CX P w) 1 f fd ["base", "many"] (spF K w cl 2 m_power) :=
  mk_def F sc_power fun cdv A outer s H Hd E hr => (dss_cons (ds_set (i := 2) sc_power.nd rfl (by first | exact .inl rfl | exact .inr rfl) de_int)
    (dss_cons (ds_for (passes_of rfl) rfl (di_range1 (by rfl) bt.range (dt_pv (pv 1))) (dg_name (i := 3) sc_power.nd rfl (by first | exact .inl rfl | exact .inr rfl)) (dss_one (ds_set (i := 2) sc_power.nd rfl (by first | exact .inl rfl | exact .inr rfl) (de_mul (dt_pv (pv 2)) (dt_pv (pv 0))))))
    (dss_one (ds_ret (de_pv (pv 2))))))
/-! ### checked_game -/
abbrev s_checked_game : Stmt := topS 10
theorem sc_checked_game : FnScope ["game"] ["game"] (defScope s_checked_game) := ⟨rfl, rfl, rfl, by decide +kernel, rfl, by decide +kernel, by decide +kernel⟩
theorem ok_checked_game {f : Addr} {fd : FuncData} (bt : Blt mg) (gc : GC mg) (cf : CF K mg cl) (F : Fun K "checked_game" "checked_game" s_checked_game f fd) (h_is_within : Has P w K mg base cl 1 "is_within" ["thing", "low", "high"] m_is_within) (h_power : Has P w K mg base cl 1 "power" ["base", "many"] m_power) : FnOk P w K mg base (L2.CX P w) 2 f fd ["game"] (spF K w cl 1 m_checked_game) :=
  mk_def F sc_checked_game fun cdv A outer s H Hd E hr => (dss_cons (ds_if (db_w (dw_or (db_not (db_tru (DE.t (de_isi kit_tuple G.boot_tuple (by rfl) bt.isinstance (by rfl) bt.tuple (dt_pv (pv 0)))))) (dw_or1 (db_ne hr.units (DE.t (de_len (by rfl) bt.len (dt_pv (pv 0)))) (DE.t de_int))))) (dss_one (ds_raise cf.x_BadGame rfl (takes_of rfl rfl rfl rfl) (by rfl))) dss_nil)
    (dss_cons (ds_if (db_w (dw_or (db_not (db_tru (DE.t (de_call h_is_within hr (by omega) (takes_of rfl rfl rfl rfl) (by rfl) (da_cons (de_ix (dt_pv (pv 0)) (DE.t de_int)) (da_cons de_int (da_cons (de_globI (by rfl) (gc.MOST_PLACES).choose_spec) da_nil))) (by exact (lenS (lenS (lenS len0)))))))) (dw_or1 (db_not (db_tru (DE.t (de_call h_is_within hr (by omega) (takes_of rfl rfl rfl rfl) (by rfl) (da_cons (de_ix (dt_pv (pv 0)) (DE.t de_int)) (da_cons de_int (da_cons (de_globI (by rfl) (gc.MOST_COLOURS).choose_spec) da_nil))) (by exact (lenS (lenS (lenS len0))))))))))) (dss_one (ds_raise cf.x_BadGame rfl (takes_of rfl rfl rfl rfl) (by rfl))) dss_nil)
    (dss_cons (ds_if (db_gt (DE.t (de_call h_power hr (by omega) (takes_of rfl rfl rfl rfl) (by rfl) (da_cons (de_ix (dt_pv (pv 0)) (DE.t de_int)) (da_cons (de_ix (dt_pv (pv 0)) (DE.t de_int)) da_nil)) (by exact (lenS (lenS len0))))) (DE.t (de_globI (by rfl) (gc.MOST_CODES).choose_spec))) (dss_one (ds_raise cf.x_BadGame rfl (takes_of rfl rfl rfl rfl) (by rfl))) dss_nil)
    (dss_one (ds_ret (de_pv (pv 0)))))))
/-! ### is_code -/
abbrev s_is_code : Stmt := topS 11
theorem sc_is_code : FnScope ["game", "thing", "colour"] ["game", "thing"] (defScope s_is_code) := ⟨rfl, rfl, rfl, by decide +kernel, rfl, by decide +kernel, by decide +kernel⟩
theorem ok_is_code {f : Addr} {fd : FuncData} (bt : Blt mg) (gc : GC mg) (cf : CF K mg cl) (F : Fun K "is_code" "is_code" s_is_code f fd) (h_is_within : Has P w K mg base cl 1 "is_within" ["thing", "low", "high"] m_is_within) : FnOk P w K mg base (L2.CX P w) 2 f fd ["game", "thing"] (spF K w cl 2 m_is_code) :=
  mk_def F sc_is_code fun cdv A outer s H Hd E hr => (dss_cons (ds_if (db_w (dw_or (db_not (db_tru (DE.t (de_isi kit_tuple G.boot_tuple (by rfl) bt.isinstance (by rfl) bt.tuple (dt_pv (pv 1)))))) (dw_or1 (db_ne hr.units (DE.t (de_len (by rfl) bt.len (dt_pv (pv 1)))) (DE.t (de_ix (dt_pv (pv 0)) (DE.t de_int))))))) (dss_one (ds_ret de_bl)) dss_nil)
    (dss_one (ds_ret (de_notT (DE.t (DO.toE (do_lc rfl sc_is_code.nd (di_any (de_pv (pv 1))) (blkOk_by (own := [("colour", 2)]) (by rfl)) (fun _ _ _ _ _ => (dg_name (i := 2) sc_is_code.nd rfl (by first | exact .inl rfl | exact .inr rfl))) (fun _ _ _ _ _ => (dts_one (db_not (db_tru (DE.t (de_call h_is_within hr (by omega) takes0 (by rfl) (da_cons (de_pv (pv 2)) (da_cons de_int (da_cons (de_sub (DE.t (de_ix (dt_pv (pv 0)) (DE.t de_int))) (DE.t de_int)) da_nil))) (by exact (lenS (lenS (lenS len0)))))))))) (fun _ _ _ _ _ => (de_pv (pv 2))))))))))
/-! ### look_code -/
abbrev s_look_code : Stmt := topS 12
theorem sc_look_code : FnScope ["game", "code"] ["game", "code"] (defScope s_look_code) := ⟨rfl, rfl, rfl, by decide +kernel, rfl, by decide +kernel, by decide +kernel⟩
theorem ok_look_code {f : Addr} {fd : FuncData} (bt : Blt mg) (gc : GC mg) (cf : CF K mg cl) (F : Fun K "look_code" "look_code" s_look_code f fd) (h_is_code : Has P w K mg base cl 2 "is_code" ["game", "thing"] m_is_code) : FnOk P w K mg base (L2.CX P w) 3 f fd ["game", "code"] (spF K w cl 2 m_look_code) :=
  mk_def F sc_look_code fun cdv A outer s H Hd E hr => (dss_one (ds_if (db_not (db_tru (DE.t (de_call h_is_code hr (by omega) (takes_of rfl rfl rfl rfl) (by rfl) (da_cons (de_pv (pv 0)) (da_cons (de_pv (pv 1)) da_nil)) (by exact (lenS (lenS len0))))))) (dss_one (ds_raise cf.x_BadCode rfl (takes_of rfl rfl rfl rfl) (by rfl))) dss_nil))
/-! ### least_guess_like -/
abbrev s_least_guess_like : Stmt := topS 14
theorem sc_least_guess_like : FnScope ["game", "guess", "found", "names", "colour"] ["game", "guess"] (defScope s_least_guess_like) := ⟨rfl, rfl, rfl, by decide +kernel, rfl, by decide +kernel, by decide +kernel⟩
abbrev qLam : Str := (("least_guess_like" : Str) ++ (".<locals>." : Str)) ++ ("<lambda>" : Str)
theorem ok_least_guess_like {f cL PL : Addr} {kV doc pm ct oc : Value} {an od : Option Addr} {osl : Array (Option Value)} (bt : Blt mg) (gc : GC mg) (cf : CF K mg cl) (lk : K.lookup f = some ⟨oc, od, .func (PySem.W.fnOf "least_guess_like" "least_guess_like" (defArgs s_least_guess_like) (defBody s_least_guess_like) (defScope s_least_guess_like) .none kV doc pm an (.ref cL) ct), osl⟩) (hcd : PySem.W.codeIn K (.ref cL) "least_guess_like" = true) (TB : LamX.TabB base mg cL PL) (h_checked_game : Has P w K mg base cl 2 "checked_game" ["game"] m_checked_game) (h_look_code : Has P w K mg base cl 3 "look_code" ["game", "code"] m_look_code) :
    FnOk P w K mg base (L2.CX P w) 4 f (PySem.W.fnOf "least_guess_like" "least_guess_like" (defArgs s_least_guess_like) (defBody s_least_guess_like) (defScope s_least_guess_like) .none kV doc pm an (.ref cL) ct) ["game", "guess"] (spLg K w m_checked_game m_look_code PL qLam) :=
  mk_lg (cl := cl) lk hcd sc_least_guess_like rfl rfl fun A outer s H Hd E hr => pss_cons (ds_expr (de_call h_checked_game hr (by omega) (takes_of rfl rfl rfl rfl) (by rfl) (da_cons (de_pv (pv 0)) da_nil) (by exact (lenS len0)))) (pss_cons (ds_expr (de_call h_look_code hr (by omega) (takes_of rfl rfl rfl rfl) (by rfl) (da_cons (de_pv (pv 0)) (da_cons (de_pv (pv 1)) da_nil)) (by exact (lenS (lenS len0)))))
    (pss_cons (ps_set (i := 2) sc_least_guess_like.nd rfl (by first | exact .inl rfl | exact .inr rfl) (pe_lst pa_nil)) (pss_cons (ps_set (i := 3) sc_least_guess_like.nd rfl (by first | exact .inl rfl | exact .inr rfl) pe_dnewK)
    (pss_cons (ps_for (passes_of rfl) rfl (pi_list (pe_sortkey hr (by rfl) bt.sorted (do_sortset (by rfl) (by rfl) bt.sorted (by rfl) bt.set (dt_pv (pv 1))) TB rfl rfl rfl rfl (by decide +kernel) (by decide +kernel) rfl rfl rfl rfl rfl (by decide +kernel) rfl (fun _ _ _ _ _ _ _ => rfl))) (pg_name (i := 4) sc_least_guess_like.nd rfl (by first | exact .inl rfl | exact .inr rfl)) (pss_cons (ps_dput (hu_of hr) (pv 3) (pv 4) (pe_callB G.call_lenD (by rfl) bt.len PySem.boot_len (pa_cons (pv 3) pa_nil)) rfl) (pss_one (ps_expr (pe_bm PySem.F.plainAttrs_list PySem.F.slot_list_extend PySem.F.type_list_extend mt_extend (pv 2) (pa_cons (pe_op op_rep (pe_lst (pa_cons (pe_dget (hu_of hr) (pv 3) (pv 4) (fun _ _ => rfl)) pa_nil)) (pe_bf PySem.F.plainAttrs_tuple PySem.F.slot_tuple_count PySem.F.type_tuple_count (mt_cntT (u65 hr)) (pv 1) (pa_cons (pv 4) pa_nil))) pa_nil))))))
    (pss_one (ps_ret (pe_callTy call_tuple_ofF (by rfl) bt.tuple G.boot_tuple (pa_cons (pv 2) pa_nil))))))))
/-! ### law -/
abbrev s_law : Stmt := topS 20
theorem sc_law : FnScope ["_law_script", "_law_game", "_law_code_here", "_law_rows", "_law_order", "_law_names", "_law_row", "_law_at", "_law_found"] ["_law_script"] (defScope s_law) := ⟨rfl, rfl, rfl, by decide +kernel, rfl, by decide +kernel, by decide +kernel⟩
theorem ok_law {f : Addr} {fd : FuncData} {PL : Addr} (bt : Blt mg) (gc : GC mg) (cf : CF K mg cl) (F : Fun K "law" "law" s_law f fd) (h_law_cell : Has P w K mg base cl 1 "_law_cell" ["_law_script", "_law_k"] m_law_cell) (h_law_code : Has P w K mg base cl 2 "_law_code" ["_law_game", "_law_cell_here"] m_law_code) (h_law_orders : Has P w K mg base cl 1 "_law_orders" ["_law_many"] m_law_orders) (h_least_guess_like : HasS P w K mg base 4 "least_guess_like" ["game", "guess"] (spLg K w m_checked_game m_look_code PL qLam)) :
    FnOk P w K mg base (L2.CX P w) 5 f fd ["_law_script"] (spLT K PL qLam u1_k15 u2_k15 u3_k15 u4_k15 u6_k15 m_checked_game m_look_code) :=
  mk_l15 (cl := cl) F sc_law rfl rfl fun cdv A outer s H Hd H0 E hr => pss_cons (ds_set (i := 1) sc_law.nd rfl (by first | exact .inl rfl | exact .inr rfl) (de_ix (DE.t (DO.toE (do_lst (da_cons (de_tup (da_cons de_int (da_cons de_int da_nil))) (da_cons (de_tup (da_cons de_int (da_cons de_int da_nil))) (da_cons (de_tup (da_cons de_int (da_cons de_int da_nil))) (da_cons (de_tup (da_cons de_int (da_cons de_int da_nil))) (da_cons (de_tup (da_cons de_int (da_cons de_int da_nil))) (da_cons (de_tup (da_cons de_int (da_cons de_int da_nil))) (da_cons (de_tup (da_cons de_int (da_cons de_int da_nil))) (da_cons (de_tup (da_cons de_int (da_cons de_int da_nil))) da_nil))))))))))) (DE.t (de_mod (DE.t (de_call h_law_cell hr (by omega) (takes_of rfl rfl rfl rfl) (by rfl) (da_cons (de_pv (pv 0)) (da_cons de_int da_nil)) (by exact (lenS (lenS len0))))) (DE.t de_int))))) (pss_cons (ds_set (i := 2) sc_law.nd rfl (by first | exact .inl rfl | exact .inr rfl) (de_call h_law_code hr (by omega) (takes_of rfl rfl rfl rfl) (by rfl) (da_cons (de_pv (pv 1)) (da_cons (de_call h_law_cell hr (by omega) (takes_of rfl rfl rfl rfl) (by rfl) (da_cons (de_pv (pv 0)) (da_cons de_int da_nil)) (by exact (lenS (lenS len0)))) da_nil)) (by exact (lenS (lenS len0))))) (pss_cons (ds_setO (i := 3) sc_law.nd rfl (by first | exact .inl rfl | exact .inr rfl) (do_lst da_nil)) (pss_cons (ds_for (passes_of rfl) rfl (di_any (de_call h_law_orders hr (by omega) (takes_of rfl rfl rfl rfl) (by rfl) (da_cons (de_ix (dt_pv (pv 1)) (DE.t de_int)) da_nil) (by exact (lenS len0)))) (dg_name (i := 4) sc_law.nd rfl (by first | exact .inl rfl | exact .inr rfl)) (dss_names (ps_set (i := 5) sc_law.nd rfl (by first | exact .inl rfl | exact .inr rfl) pe_dnewK) (ps_set (i := 6) sc_law.nd rfl (by first | exact .inl rfl | exact .inr rfl) (pe_lst pa_nil)) (ps_for (passes_of rfl) rfl (pi_tup (pv 4)) (pg_name (i := 7) sc_law.nd rfl (by first | exact .inl rfl | exact .inr rfl)) (pss_cons (ps_if (pt_cmp (pc_dnotin (hu_of hr) (pe_ix ix_seq (pv 2) (pv 7) (fun _ _ => rfl)) (pv 5))) (pss_one (ps_dput (hu_of hr) (pv 5) (pe_ix ix_seq (pv 2) (pv 7) (fun _ _ => rfl)) (pe_callB G.call_lenD (by rfl) bt.len PySem.boot_len (pa_cons (pv 5) pa_nil)) rfl)) pss_nil) (pss_one (ps_expr (pe_bm PySem.F.plainAttrs_list PySem.F.slot_list_append PySem.F.type_list_append mt_append (pv 6) (pa_cons (pe_dget (hu_of hr) (pv 5) (pe_ix ix_seq (pv 2) (pv 7) (fun _ _ => rfl)) (fun _ _ => rfl)) pa_nil)))))) (dss_one (ds_append (pv 3) (de_tuple (by rfl) bt.tuple (dt_pv (pv 6))) rfl rfl (pe_bm PySem.F.plainAttrs_list PySem.F.slot_list_append PySem.F.type_list_append mt_append (pv 3) (pa_cons (de_tuple (by rfl) bt.tuple (dt_pv (pv 6))) pa_nil))))))
    (pss_cons (ps_set (i := 8) sc_law.nd rfl (by first | exact .inl rfl | exact .inr rfl) (pe_callSp h_least_guess_like hr (by omega) (takes_of rfl rfl rfl rfl) (by rfl) (pa_cons (pv 1) (pa_cons (pv 2) pa_nil)))) (pss_cons (PS.sx fun Hd0 H0 => (ds_if (db_w (dw_or (db_not (db_tru (DE.t (de_isi kit_tuple G.boot_tuple (by rfl) bt.isinstance (by rfl) bt.tuple (dt_pv (pv 8)))))) (dw_or1 (db_ne hr.units (dt_pv (pv 8)) (DE.t (de_min rfl hr.units (by rfl) bt.min (dt_pv (pv 3)))))))) (dss_one (ds_ret de_bl)) dss_nil))
    (pss_one (ps_ret (pe_and (pe_cmpR (op_eqP hr.units) (pe_callSp h_least_guess_like hr (by omega) (takes_of rfl rfl rfl rfl) (by rfl) (pa_cons (pv 1) (pa_cons (pv 8) pa_nil))) (pv 8) (nomark _)) (pe_one (pe_cmpR (op_eqP hr.units) (pe_callSp h_least_guess_like hr (by omega) (takes_of rfl rfl rfl rfl) (by rfl) (pa_cons (pv 1) (pa_cons (pe_revT (pv 2)) pa_nil))) (pv 8) (nomark _)))))))))))
end
theorem all_mk {P : Program} {w : World} {K : PySem.W.Frag} {h : Heap} {mg : Str → Option Value} {fa : Addr} (X : K.In h) (G : h.Ns mainGlobals mg) (hfa : mg "law" = some (.ref fa)) {f0 f1 f2 f3 f4 f5 f6 f7 f8 f9 f10 : Addr} {od0 an0 od1 an1 od2 an2 od3 an3 od4 an4 od5 an5 od6 an6 od7 an7 od8 an8 od9 an9 od10 an10 : Option Addr} {sl0 sl1 sl2 sl3 sl4 sl5 sl6 sl7 sl8 sl9 sl10 : Array (Option Value)} {oc0 kV0 dc0 pm0 cd0 ct0 oc1 kV1 dc1 pm1 cd1 ct1 oc2 kV2 dc2 pm2 cd2 ct2 oc3 kV3 dc3 pm3 cd3 ct3 oc4 kV4 dc4 pm4 cd4 ct4 oc5 kV5 dc5 pm5 cd5 ct5 oc6 kV6 dc6 pm6 cd6 ct6 oc7 kV7 dc7 pm7 cd7 ct7 oc8 kV8 dc8 pm8 cd8 ct8 oc9 kV9 dc9 pm9 ct9 oc10 kV10 dc10 pm10 cd10 ct10 : Value} {cL PL : Addr} (a0 : PySem.W.nsIn K mainGlobals "_law_cell" = some (some (.ref f0))) (l0 : K.lookup f0 = some ⟨oc0, od0, .func (PySem.W.fnOf "_law_cell" "_law_cell" (defArgs s_law_cell) (defBody s_law_cell) (defScope s_law_cell) .none kV0 dc0 pm0 an0 cd0 ct0), sl0⟩) (c0 : PySem.W.codeIn K cd0 "_law_cell" = true) (k0 : PySem.W.keepIn K (.ref f0) = true) (a1 : PySem.W.nsIn K mainGlobals "_law_mix" = some (some (.ref f1))) (l1 : K.lookup f1 = some ⟨oc1, od1, .func (PySem.W.fnOf "_law_mix" "_law_mix" (defArgs s_law_mix) (defBody s_law_mix) (defScope s_law_mix) .none kV1 dc1 pm1 an1 cd1 ct1), sl1⟩) (c1 : PySem.W.codeIn K cd1 "_law_mix" = true) (k1 : PySem.W.keepIn K (.ref f1) = true) (a2 : PySem.W.nsIn K mainGlobals "_law_code" = some (some (.ref f2))) (l2 : K.lookup f2 = some ⟨oc2, od2, .func (PySem.W.fnOf "_law_code" "_law_code" (defArgs s_law_code) (defBody s_law_code) (defScope s_law_code) .none kV2 dc2 pm2 an2 cd2 ct2), sl2⟩) (c2 : PySem.W.codeIn K cd2 "_law_code" = true) (k2 : PySem.W.keepIn K (.ref f2) = true) (a3 : PySem.W.nsIn K mainGlobals "_law_orders" = some (some (.ref f3))) (l3 : K.lookup f3 = some ⟨oc3, od3, .func (PySem.W.fnOf "_law_orders" "_law_orders" (defArgs s_law_orders) (defBody s_law_orders) (defScope s_law_orders) .none kV3 dc3 pm3 an3 cd3 ct3), sl3⟩) (c3 : PySem.W.codeIn K cd3 "_law_orders" = true) (k3 : PySem.W.keepIn K (.ref f3) = true) (a4 : PySem.W.nsIn K mainGlobals "is_within" = some (some (.ref f4))) (l4 : K.lookup f4 = some ⟨oc4, od4, .func (PySem.W.fnOf "is_within" "is_within" (defArgs s_is_within) (defBody s_is_within) (defScope s_is_within) .none kV4 dc4 pm4 an4 cd4 ct4), sl4⟩) (c4 : PySem.W.codeIn K cd4 "is_within" = true) (k4 : PySem.W.keepIn K (.ref f4) = true) (a5 : PySem.W.nsIn K mainGlobals "power" = some (some (.ref f5))) (l5 : K.lookup f5 = some ⟨oc5, od5, .func (PySem.W.fnOf "power" "power" (defArgs s_power) (defBody s_power) (defScope s_power) .none kV5 dc5 pm5 an5 cd5 ct5), sl5⟩) (c5 : PySem.W.codeIn K cd5 "power" = true) (k5 : PySem.W.keepIn K (.ref f5) = true) (a6 : PySem.W.nsIn K mainGlobals "checked_game" = some (some (.ref f6))) (l6 : K.lookup f6 = some ⟨oc6, od6, .func (PySem.W.fnOf "checked_game" "checked_game" (defArgs s_checked_game) (defBody s_checked_game) (defScope s_checked_game) .none kV6 dc6 pm6 an6 cd6 ct6), sl6⟩) (c6 : PySem.W.codeIn K cd6 "checked_game" = true) (k6 : PySem.W.keepIn K (.ref f6) = true) (a7 : PySem.W.nsIn K mainGlobals "is_code" = some (some (.ref f7))) (l7 : K.lookup f7 = some ⟨oc7, od7, .func (PySem.W.fnOf "is_code" "is_code" (defArgs s_is_code) (defBody s_is_code) (defScope s_is_code) .none kV7 dc7 pm7 an7 cd7 ct7), sl7⟩) (c7 : PySem.W.codeIn K cd7 "is_code" = true) (k7 : PySem.W.keepIn K (.ref f7) = true) (a8 : PySem.W.nsIn K mainGlobals "look_code" = some (some (.ref f8))) (l8 : K.lookup f8 = some ⟨oc8, od8, .func (PySem.W.fnOf "look_code" "look_code" (defArgs s_look_code) (defBody s_look_code) (defScope s_look_code) .none kV8 dc8 pm8 an8 cd8 ct8), sl8⟩) (c8 : PySem.W.codeIn K cd8 "look_code" = true) (k8 : PySem.W.keepIn K (.ref f8) = true) (a9 : PySem.W.nsIn K mainGlobals "least_guess_like" = some (some (.ref f9))) (l9 : K.lookup f9 = some ⟨oc9, od9, .func (PySem.W.fnOf "least_guess_like" "least_guess_like" (defArgs s_least_guess_like) (defBody s_least_guess_like) (defScope s_least_guess_like) .none kV9 dc9 pm9 an9 (.ref cL) ct9), sl9⟩) (c9 : PySem.W.codeIn K (.ref cL) "least_guess_like" = true) (k9 : PySem.W.keepIn K (.ref f9) = true) (a10 : PySem.W.nsIn K mainGlobals "law" = some (some (.ref f10))) (l10 : K.lookup f10 = some ⟨oc10, od10, .func (PySem.W.fnOf "law" "law" (defArgs s_law) (defBody s_law) (defScope s_law) .none kV10 dc10 pm10 an10 cd10 ct10), sl10⟩) (c10 : PySem.W.codeIn K cd10 "law" = true) (k10 : PySem.W.keepIn K (.ref f10) = true) {C1 C2 : Addr} (ca2 : PySem.W.nsIn K mainGlobals "BadCode" = some (some (.ref C2))) (ca1 : PySem.W.nsIn K mainGlobals "BadGame" = some (some (.ref C1))) (ck2 : PySem.W.keepIn K (.ref C2) = true) (cq2 : PySem.W.excIn K C2 [.type "ValueError", .type "Exception", .type "BaseException", .type "object"] "ValueError.__new__" = true) (ce2 : PySem.W.subIn K (.ref C2) (.type "BaseException") = some true) (ct2k : PySem.W.typeIn K (.ref C2) = some (.type "type")) (ck1 : PySem.W.keepIn K (.ref C1) = true) (cq1 : PySem.W.excIn K C1 [.type "ValueError", .type "Exception", .type "BaseException", .type "object"] "ValueError.__new__" = true) (ce1 : PySem.W.subIn K (.ref C1) (.type "BaseException") = some true) (ct1k : PySem.W.typeIn K (.ref C1) = some (.type "type")) (z_ValueError : PySem.W.nsIn K mainGlobals "ValueError" = some none) (z_len : PySem.W.nsIn K mainGlobals "len" = some none) (z_tuple : PySem.W.nsIn K mainGlobals "tuple" = some none) (z_list : PySem.W.nsIn K mainGlobals "list" = some none) (z_isinstance : PySem.W.nsIn K mainGlobals "isinstance" = some none) (z_int : PySem.W.nsIn K mainGlobals "int" = some none) (z_bool : PySem.W.nsIn K mainGlobals "bool" = some none) (z_str : PySem.W.nsIn K mainGlobals "str" = some none) (z_range : PySem.W.nsIn K mainGlobals "range" = some none) (z_sum : PySem.W.nsIn K mainGlobals "sum" = some none) (z_min : PySem.W.nsIn K mainGlobals "min" = some none) (z_max : PySem.W.nsIn K mainGlobals "max" = some none) (z_sorted : PySem.W.nsIn K mainGlobals "sorted" = some none) (z_set : PySem.W.nsIn K mainGlobals "set" = some none) (z_enumerate : PySem.W.nsIn K mainGlobals "enumerate" = some none) (z_zip : PySem.W.nsIn K mainGlobals "zip" = some none) {t_MOST_CODES : Tok} (g_MOST_CODES : PySem.W.nsIn K mainGlobals "MOST_CODES" = some (some (.int 300 t_MOST_CODES))) {t_MOST_COLOURS : Tok} (g_MOST_COLOURS : PySem.W.nsIn K mainGlobals "MOST_COLOURS" = some (some (.int 8 t_MOST_COLOURS))) {t_MOST_PLACES : Tok} (g_MOST_PLACES : PySem.W.nsIn K mainGlobals "MOST_PLACES" = some (some (.int 5 t_MOST_PLACES)))
    (hlaw : ∀ ns : List Int, ns.length ≤ 63 → ∃ d0 cs rows, LawOk u1_k15 u2_k15 u3_k15 u4_k15 u6_k15 m_checked_game m_look_code d0 cs rows ns) :
    ∃ (fd : FuncData) (sp : Sp), (∀ (s : Shared) (u : Value), BindsTo s fd ⟨[u], []⟩ [("_law_script", u)]) ∧ (∀ (H : Hp) (a : Addr) (ns : List Int), ns.length ≤ 63 → H PL = some (.tbl #[]) → SqL K H a (ns.map V.int) → sp [.ref a] H (fun v _ => v = .bl true) fun _ _ _ => False) ∧
      ∀ base : Heap, K.In base → base.Ns mainGlobals mg → LamX.TabB base mg cL PL → FnOk P w K mg base (L2.CX P w) 5 fa fd ["_law_script"] sp := by
  have e := hfa.symm.trans (PySem.W.mg_of X G a10)
  cases e
  have bt : Blt mg := ⟨PySem.W.mg_none_of X G z_ValueError, PySem.W.mg_none_of X G z_len, PySem.W.mg_none_of X G z_tuple, PySem.W.mg_none_of X G z_list, PySem.W.mg_none_of X G z_isinstance, PySem.W.mg_none_of X G z_int, PySem.W.mg_none_of X G z_bool, PySem.W.mg_none_of X G z_str, PySem.W.mg_none_of X G z_range, PySem.W.mg_none_of X G z_sum, PySem.W.mg_none_of X G z_min, PySem.W.mg_none_of X G z_max, PySem.W.mg_none_of X G z_sorted, PySem.W.mg_none_of X G z_set, PySem.W.mg_none_of X G z_enumerate, PySem.W.mg_none_of X G z_zip⟩
  have gc : GC mg := ⟨⟨_, PySem.W.mg_of X G g_MOST_CODES⟩, ⟨_, PySem.W.mg_of X G g_MOST_COLOURS⟩, ⟨_, PySem.W.mg_of X G g_MOST_PLACES⟩⟩
  let cl : Nat → Addr := fun k => match k with | 1 => C1 | 2 => C2 | _ => 0
  have cf : CF K mg cl := ⟨⟨PySem.W.mg_of X G ca2, ck2, cq2, ce2, ct2k⟩, ⟨PySem.W.mg_of X G ca1, ck1, cq1, ce1, ct1k⟩⟩
  have F0 := fun_mk (st := s_law_cell) l0 c0 k0
  have F1 := fun_mk (st := s_law_mix) l1 c1 k1
  have F2 := fun_mk (st := s_law_code) l2 c2 k2
  have F3 := fun_mk (st := s_law_orders) l3 c3 k3
  have F4 := fun_mk (st := s_is_within) l4 c4 k4
  have F5 := fun_mk (st := s_power) l5 c5 k5
  have F6 := fun_mk (st := s_checked_game) l6 c6 k6
  have F7 := fun_mk (st := s_is_code) l7 c7 k7
  have F8 := fun_mk (st := s_look_code) l8 c8 k8
  have F9 := fun_mk (st := s_least_guess_like) l9 c9 k9
  have F10 := fun_mk (st := s_law) l10 c10 k10
  have b0 := F0.binds (ps := ["_law_script", "_law_k"]) fun _ _ _ _ _ _ us hl => match us, hl with | [_, _], _ => rfl
  have b1 := F1.binds (ps := ["_law_cell_here", "_law_prime", "_law_many"]) fun _ _ _ _ _ _ us hl => match us, hl with | [_, _, _], _ => rfl
  have b2 := F2.binds (ps := ["_law_game", "_law_cell_here"]) fun _ _ _ _ _ _ us hl => match us, hl with | [_, _], _ => rfl
  have b3 := F3.binds (ps := ["_law_many"]) fun _ _ _ _ _ _ us hl => match us, hl with | [_], _ => rfl
  have b4 := F4.binds (ps := ["thing", "low", "high"]) fun _ _ _ _ _ _ us hl => match us, hl with | [_, _, _], _ => rfl
  have b5 := F5.binds (ps := ["base", "many"]) fun _ _ _ _ _ _ us hl => match us, hl with | [_, _], _ => rfl
  have b6 := F6.binds (ps := ["game"]) fun _ _ _ _ _ _ us hl => match us, hl with | [_], _ => rfl
  have b7 := F7.binds (ps := ["game", "thing"]) fun _ _ _ _ _ _ us hl => match us, hl with | [_, _], _ => rfl
  have b8 := F8.binds (ps := ["game", "code"]) fun _ _ _ _ _ _ us hl => match us, hl with | [_, _], _ => rfl
  have b9 := F9.binds (ps := ["game", "guess"]) fun _ _ _ _ _ _ us hl => match us, hl with | [_, _], _ => rfl
  refine ⟨PySem.W.fnOf "law" "law" (defArgs s_law) (defBody s_law) (defScope s_law) .none kV10 dc10 pm10 an10 cd10 ct10, spLT K PL qLam u1_k15 u2_k15 u3_k15 u4_k15 u6_k15 m_checked_game m_look_code, fun s v => .of_eq rfl, fun H a ns hl hT hS => (let ⟨d0, cs, rows, ok⟩ := hlaw ns hl; ⟨a, ns, d0, cs, rows, rfl, hS, .nil hT, ok, fun _ => rfl⟩), fun base _ _ TB => ?_⟩
  have h_law_cell : Has P w K mg base cl 1 "_law_cell" ["_law_script", "_law_k"] m_law_cell := has_mk (PySem.W.mg_of X G a0) k0 b0 (ok_law_cell (base := base) (cl := cl) (P := P) (w := w) bt gc cf F0  )
  have h_law_mix : Has P w K mg base cl 1 "_law_mix" ["_law_cell_here", "_law_prime", "_law_many"] m_law_mix := has_mk (PySem.W.mg_of X G a1) k1 b1 (ok_law_mix (base := base) (cl := cl) (P := P) (w := w) bt gc cf F1  )
  have h_law_code : Has P w K mg base cl 2 "_law_code" ["_law_game", "_law_cell_here"] m_law_code := has_mk (PySem.W.mg_of X G a2) k2 b2 (ok_law_code (base := base) (cl := cl) (P := P) (w := w) bt gc cf F2  h_law_mix)
  have h_law_orders : Has P w K mg base cl 1 "_law_orders" ["_law_many"] m_law_orders := has_mk (PySem.W.mg_of X G a3) k3 b3 (ok_law_orders (base := base) (cl := cl) (P := P) (w := w) bt gc cf F3  )
  have h_is_within : Has P w K mg base cl 1 "is_within" ["thing", "low", "high"] m_is_within := has_mk (PySem.W.mg_of X G a4) k4 b4 (ok_is_within (base := base) (cl := cl) (P := P) (w := w) bt gc cf F4  )
  have h_power : Has P w K mg base cl 1 "power" ["base", "many"] m_power := has_mk (PySem.W.mg_of X G a5) k5 b5 (ok_power (base := base) (cl := cl) (P := P) (w := w) bt gc cf F5  )
  have h_checked_game : Has P w K mg base cl 2 "checked_game" ["game"] m_checked_game := has_mk (PySem.W.mg_of X G a6) k6 b6 (ok_checked_game (base := base) (cl := cl) (P := P) (w := w) bt gc cf F6  h_is_within h_power)
  have h_is_code : Has P w K mg base cl 2 "is_code" ["game", "thing"] m_is_code := has_mk (PySem.W.mg_of X G a7) k7 b7 (ok_is_code (base := base) (cl := cl) (P := P) (w := w) bt gc cf F7  h_is_within)
  have h_look_code : Has P w K mg base cl 3 "look_code" ["game", "code"] m_look_code := has_mk (PySem.W.mg_of X G a8) k8 b8 (ok_look_code (base := base) (cl := cl) (P := P) (w := w) bt gc cf F8  h_is_code)
  have h_least_guess_like : HasS P w K mg base 4 "least_guess_like" ["game", "guess"] (spLg K w m_checked_game m_look_code PL qLam) := ⟨f9, _, PySem.W.mg_of X G a9, k9, b9, ok_least_guess_like (base := base) (cl := cl) (P := P) (w := w) bt gc cf l9 c9 TB h_checked_game h_look_code⟩
  exact (ok_law (base := base) (cl := cl) (P := P) (w := w) bt gc cf F10  h_law_cell h_law_code h_law_orders h_least_guess_like)
end W
end

section
set_option Elab.async false
set_option linter.all false
set_option maxRecDepth 100000
set_option maxHeartbeats 4000000
/-! M1: what the combinators come to (plain law). -/
namespace G
open PySem PyProof.Rows L2
/-- lists of ints as data -/
abbrev ti (ns : List Int) : D := .tuple (ns.map .int)
abbrev dd (d : D) : R Ret := .ok (.dat d)
@[simp] theorem fVar_dat {i : Nat} {g : Sg} {d : D} (h : g[i]? = some (.dat d)) : fVar i g = .ok d := by unfold fVar; rw [h]
theorem fVarT_dat {i : Nat} {g : Sg} {d : D} (h : g[i]? = some (.dat d)) : fVarT i g = .ok d := by unfold fVarT; rw [h]
theorem fVarT_lst {i : Nat} {g : Sg} {ds : List D} (h : g[i]? = some (.lst ds)) : fVarT i g = .ok (.list ds) := by unfold fVarT; rw [h]
@[simp] theorem ixN_nat (n j : Nat) (h : j < n) : ixN n (j : Int) = some j := by
  unfold ixN
  rw [if_pos (by omega), if_pos (by omega)]
  rfl
theorem atI_nat' {α : Type} (xs : List α) (j : Nat) (h : j < xs.length) : atI xs (j : Int) = some xs[j] := by
  unfold atI
  rw [ixN_nat _ _ h]
  exact List.getElem?_eq_getElem h
theorem fine_int (i : Int) : fine (.int i) = true := by
  rw [fine_iff]
  exact ⟨by simp [PyData.plain], by simp [PyData.depth]⟩
theorem plainAll_ints : ∀ ns : List Int, PyData.plainAll (ns.map .int) = true
  | [] => by simp [PyData.plainAll]
  | n :: ns => by simp [PyData.plainAll, PyData.plain, plainAll_ints ns]
theorem depthAll_ints : ∀ ns : List Int, PyData.depthAll (ns.map PyData.int) ≤ 1
  | [] => by simp [PyData.depthAll]
  | n :: ns => by
    have := depthAll_ints ns
    simp [PyData.depthAll, PyData.depth] at this ⊢
    omega
theorem fine_ti (ns : List Int) : fine (ti ns) = true := by
  rw [fine_iff]
  have := depthAll_ints ns
  exact ⟨by simp [PyData.plain, plainAll_ints], by simp [PyData.depth] at this ⊢; omega⟩
theorem fine_li (ns : List Int) : fine (.list (ns.map .int)) = true := by
  rw [fine_iff]
  have := depthAll_ints ns
  exact ⟨by simp [PyData.plain, plainAll_ints], by simp [PyData.depth] at this ⊢; omega⟩
theorem eqv_int (i j : Int) : PyData.eqv (.int i) (.int j) = (i == j) := by simp [PyData.eqv]
theorem eqvAll_ints : ∀ xs ys : List Int, PyData.eqvAll (xs.map .int) (ys.map .int) = (xs == ys)
  | [], [] => by simp [PyData.eqvAll]
  | [], _ :: _ => by simp [PyData.eqvAll]
  | _ :: _, [] => by simp [PyData.eqvAll]
  | x :: xs, y :: ys => by
    simp [PyData.eqvAll, eqv_int, eqvAll_ints xs ys]
theorem eqv_ti (xs ys : List Int) : PyData.eqv (ti xs) (ti ys) = (xs == ys) := by simp [PyData.eqv, eqvAll_ints]
theorem eqD_int (i j : Int) : eqD (.int i) (.int j) = .ok (.bool (i == j)) := by unfold eqD; rw [fine_int, fine_int, eqv_int]; rfl
theorem eqD_ti (xs ys : List Int) : eqD (ti xs) (ti ys) = .ok (.bool (xs == ys)) := by unfold eqD; rw [fine_ti, fine_ti, eqv_ti]; rfl
theorem neD_int (i j : Int) : neD (.int i) (.int j) = .ok (.bool (!(i == j))) := by unfold neD; rw [fine_int, fine_int, eqv_int]; rfl
theorem neD_ti (xs ys : List Int) : neD (ti xs) (ti ys) = .ok (.bool (!(xs == ys))) := by unfold neD; rw [fine_ti, fine_ti, eqv_ti]; rfl
theorem count_ints (xs : List Int) (c : Int) : (xs.map PyData.int).countP (fun z => PyData.eqv z (.int c)) = xs.count c := by
  induction xs with
  | nil => rfl
  | cons x xs ih => simp [List.countP_cons, List.count_cons, eqv_int, ih]
theorem any_ints (xs : List Int) (c : Int) : (xs.map PyData.int).any (fun z => PyData.eqv z (.int c)) = xs.contains c := by
  induction xs with
  | nil => rfl
  | cons x xs ih =>
    simp [eqv_int, ih, List.contains_cons]
    by_cases h : c = x
    · simp [h]
    · simp [h, Ne.symm h]
/-- a comprehension over data made of things -/
theorem compD_map {α : Type} {t : Tg} {tt : Sg → R Bool} {te : Sg → R D} {g0 : Sg} {f : α → D} {p : α → Bool} {e : α → D} : ∀ {l : List α}, (∀ x ∈ l, ∃ g, t (f x) g0 = some g ∧ tt g = .ok (p x) ∧ (p x = true → te g = .ok (e x))) →
    compD t tt te g0 (l.map f) = .ok ((l.filter p).map e)
  | [], _ => rfl
  | x :: l, h => by
    obtain ⟨g, h1, h2, h3⟩ := h x (List.mem_cons_self ..)
    have ih := compD_map (t := t) (tt := tt) (te := te) (g0 := g0) (f := f) (p := p) (e := e) (l := l) fun y hy => h y (List.mem_cons_of_mem _ hy)
    rw [List.map_cons]
    unfold compD
    rw [h1]
    show (match tt g with | .ok true => _ | .ok false => _ | _ => _) = _
    rw [h2]
    cases e1 : p x with
    | true =>
      show (match te g with | .ok y => _ | _ => _) = _
      rw [h3 e1]
      show (compD t tt te g0 (l.map f)).map _ = _
      rw [ih, List.filter_cons_of_pos e1]
      rfl
    | false =>
      show compD t tt te g0 (l.map f) = _
      rw [ih, List.filter_cons_of_neg (by simp [e1])]
theorem loopD_nx {t : Tg} {body : Sg → Out} {d : D} {ds : List D} {g g1 g2 : Sg} (h1 : t d g = some g1) (h2 : body g1 = .nx g2) : loopD t body (d :: ds) g = loopD t body ds g2 := by
  conv => lhs; unfold loopD
  simp only [h1, h2]
/-- a for that runs to its end -/
theorem loopD_map {α β : Type} {t : Tg} {body : Sg → Out} {f : α → D} {step : β → α → β} {I : β → Sg → Prop} : ∀ {l : List α} {b : β} {g : Sg}, I b g → (∀ b g x, x ∈ l → I b g → ∃ g1 g2, t (f x) g = some g1 ∧ (body g1 = .nx g2 ∨ body g1 = .ct g2) ∧ I (step b x) g2) →
    ∃ g', loopD t body (l.map f) g = .nx g' ∧ I (l.foldl step b) g'
  | [], b, g, h, _ => ⟨g, rfl, h⟩
  | x :: l, b, g, h, hs => by
    obtain ⟨g1, g2, h1, h2, h3⟩ := hs b g x (List.mem_cons_self ..) h
    obtain ⟨g', h4, h5⟩ := loopD_map (t := t) (body := body) (f := f) (step := step) (I := I) (l := l) h3 fun b g y hy => hs b g y (List.mem_cons_of_mem _ hy)
    refine ⟨g', ?_, h5⟩
    rw [List.map_cons]
    unfold loopD
    rw [h1]
    show (match body g1 with | .nx g2 => _ | .ct g2 => _ | .bk g2 => _ | o => o) = _
    rcases h2 with h2 | h2
    · rw [h2]; exact h4
    · rw [h2]; exact h4
/-- a for that runs to its end, by places -/
theorem loopD_idx {α : Type} {t : Tg} {body : Sg → Out} {f : α → D} {l : List α} {I : Nat → Sg → Prop} {g : Sg} (h0 : I 0 g) (hs : ∀ i g x, l[i]? = some x → I i g → ∃ g1 g2, t (f x) g = some g1 ∧ (body g1 = .nx g2 ∨ body g1 = .ct g2) ∧ I (i + 1) g2) :
    ∃ g', loopD t body (l.map f) g = .nx g' ∧ I l.length g' := by
  have key : ∀ (m k : Nat) (g : Sg), k + m = l.length → I k g → ∃ g', loopD t body ((l.drop k).map f) g = .nx g' ∧ I l.length g' := by
    intro m
    induction m with
    | zero =>
      intro k g e h
      have e2 : k = l.length := by omega
      subst e2
      rw [List.drop_length]
      exact ⟨g, rfl, h⟩
    | succ m ih =>
      intro k g e h
      have hk : k < l.length := by omega
      obtain ⟨g1, g2, h1, h2, h3⟩ := hs k g l[k] (List.getElem?_eq_getElem hk) h
      obtain ⟨g', h4, h5⟩ := ih (k + 1) g2 (by omega) h3
      refine ⟨g', ?_, h5⟩
      rw [List.drop_eq_getElem_cons hk, List.map_cons]
      unfold loopD
      rw [h1]
      show (match body g1 with | .nx g2 => _ | .ct g2 => _ | .bk g2 => _ | o => o) = _
      rcases h2 with h2 | h2
      · rw [h2]; exact h4
      · rw [h2]; exact h4
  have := key l.length 0 g (by omega) h0
  rwa [List.drop_zero] at this
theorem range_map (n : Int) : rangeD 0 n = (List.range n.toNat).map fun i => .int (i : Nat) := by
  unfold rangeD
  rw [Int.sub_zero]
  exact List.map_congr_left fun i _ => by rw [Int.zero_add]
/-- enumerate -/
theorem enumD_map (ds : List D) : enumD ds = ds.zipIdx.map fun p => pairD (.int (p.2 : Nat)) p.1 := by
  unfold enumD
  rw [List.mapIdx_eq_zipIdx_map]

/-! small steps -/
theorem oSeq_nx {u1 u2 : Sg → Out} {g g' : Sg} (h : u1 g = .nx g') : oSeq u1 u2 g = u2 g' := by unfold oSeq; rw [h]
theorem oSeq_rt {u1 u2 : Sg → Out} {g : Sg} {d : D} (h : u1 g = .rt d) : oSeq u1 u2 g = .rt d := by unfold oSeq; rw [h]
theorem oSeq_rl {u1 u2 : Sg → Out} {g : Sg} {d : List D} (h : u1 g = .rl d) : oSeq u1 u2 g = .rl d := by unfold oSeq; rw [h]
theorem oE_ok {α : Type} {f : Sg → R α} {k : Sg → α → Out} {g : Sg} {a : α} (h : f g = .ok a) : oE f k g = k g a := by unfold oE; rw [h]
theorem oSet_ok {f : Sg → R D} {i : Nat} {g : Sg} {d : D} (h : f g = .ok d) : oSet i f g = .nx (g.set i (.dat d)) := oE_ok h
theorem oSetO_ok {f : Sg → R (List D)} {i : Nat} {g : Sg} {d : List D} (h : f g = .ok d) : oSetO i f g = .nx (g.set i (.lst d)) := oE_ok h
theorem oRet_ok {f : Sg → R D} {g : Sg} {d : D} (h : f g = .ok d) : oRet f g = .rt d := oE_ok h
theorem oRetO_ok {f : Sg → R (List D)} {g : Sg} {d : List D} (h : f g = .ok d) : oRetO f g = .rl d := oE_ok h
theorem oEx_ok {f : Sg → R D} {g : Sg} {d : D} (h : f g = .ok d) : oEx f g = .nx g := oE_ok h
theorem oIf_t {t : Sg → R Bool} {u1 u2 : Sg → Out} {g : Sg} (h : t g = .ok true) : oIf t u1 u2 g = u1 g := by unfold oIf; rw [oE_ok h]; rfl
theorem oIf_f {t : Sg → R Bool} {u1 u2 : Sg → Out} {g : Sg} (h : t g = .ok false) : oIf t u1 u2 g = u2 g := by unfold oIf; rw [oE_ok h]; rfl
theorem oIf_b {t : Sg → R Bool} {u1 u2 : Sg → Out} {g : Sg} {b : Bool} (h : t g = .ok b) : oIf t u1 u2 g = if b then u1 g else u2 g := by unfold oIf; rw [oE_ok h]
theorem oFor_ok {src : Sg → R (List D)} {t : Tg} {u : Sg → Out} {g : Sg} {ds : List D} (h : src g = .ok ds) : oFor src t u g = loopD t u ds g := by unfold oFor; rw [oE_ok h]
theorem oOwn_ok {α : Type} {i : Nat} {f : Sg → R α} {F : List D → α → R (List D)} {g : Sg} {ds ds' : List D} {a : α} (h1 : g[i]? = some (.lst ds)) (h2 : f g = .ok a) (h3 : F ds a = .ok ds') : oOwn i f F g = .nx (g.set i (.lst ds')) := by
  unfold oOwn
  rw [h1]
  show oE f _ g = _
  rw [oE_ok h2]
  show (match F ds a with | .ok ds' => _ | _ => _) = _
  rw [h3]
theorem oFz_lst {i : Nat} {u : Sg → Out} {g g' : Sg} {o : Out} (h : fzAt i g = g') (h2 : u g' = o) : oFz i u g = o := by subst h; exact h2
theorem oFg_eq {vs : List Nat} {u : Sg → Out} {g g' : Sg} (h : gwipe g vs = g') : oFg vs u g = u g' := by subst h; rfl
theorem run_ex {n m : Nat} {u : Sg → Out} {ds : List D} {e : Exc} {g : Sg} (hl : ds.length = n) (h : u (initS m ds) = .ex e g) : runF n m u ds = .ex e := by
  unfold runF
  rw [if_pos hl, h]
  rfl
theorem oSeq_ex {u1 u2 : Sg → Out} {g g' : Sg} {e : Exc} (h : u1 g = .ex e g') : oSeq u1 u2 g = .ex e g' := by unfold oSeq; rw [h]
theorem oE_ex {α : Type} {f : Sg → R α} {k : Sg → α → Out} {g : Sg} {e : Exc} (h : f g = .ex e) : oE f k g = .ex e g := by unfold oE; rw [h]
theorem fCall_ex {φ : Fn} {fs : Sg → R (List D)} {g : Sg} {ds : List D} {e : Exc} (h1 : fs g = .ok ds) (h2 : φ ds = .ex e) : fCall φ fs g = .ex e := by
  unfold fCall
  rw [h1, R.bind_ok, h2]
  rfl
theorem oTry_ex {l : List (Nat × List Bool)} {u : Sg → Out} {g g' : Sg} {k : Nat} {bs : List Bool} (h : u g = .ex ⟨k, none⟩ g') (h2 : l.lookup k = some bs) : oTry l u g = .rl (bs.map .bool) := by
  unfold oTry
  simp only [h, h2]
theorem oTry_rt {l : List (Nat × List Bool)} {u : Sg → Out} {g : Sg} {d : D} (h : u g = .rt d) : oTry l u g = .rt d := by unfold oTry; rw [h]
theorem oTry_nx {l : List (Nat × List Bool)} {u : Sg → Out} {g g' : Sg} (h : u g = .nx g') : oTry l u g = .nx g' := by unfold oTry; rw [h]
theorem run_rt {n m : Nat} {u : Sg → Out} {ds : List D} {d : D} (hl : ds.length = n) (h : u (initS m ds) = .rt d) : runF n m u ds = .ok (.dat d) := by
  unfold runF
  rw [if_pos hl, h]
  rfl
theorem run_rl {n m : Nat} {u : Sg → Out} {ds : List D} {l : List D} (hl : ds.length = n) (h : u (initS m ds) = .rl l) : runF n m u ds = .ok (.own l) := by
  unfold runF
  rw [if_pos hl, h]
  rfl
theorem run_nx {n m : Nat} {u : Sg → Out} {ds : List D} {g : Sg} (hl : ds.length = n) (h : u (initS m ds) = .nx g) : runF n m u ds = .ok (.dat .none) := by
  unfold runF
  rw [if_pos hl, h]
  rfl
theorem fCall_ok {φ : Fn} {fs : Sg → R (List D)} {g : Sg} {ds : List D} {r : Ret} (h1 : fs g = .ok ds) (h2 : φ ds = .ok r) : fCall φ fs g = .ok r.d := by
  unfold fCall
  rw [h1, R.bind_ok, h2]
  rfl
theorem fLc_map {α : Type} {ixs : List Nat} {src : Sg → R (List D)} {t : Tg} {tt : Sg → R Bool} {te : Sg → R D} {g : Sg} {f : α → D} {p : α → Bool} {e : α → D} {l : List α} (hs : src g = .ok (l.map f)) (hl : l.length ≤ 1000000)
    (h : ∀ x ∈ l, ∃ g', t (f x) (gwipe g ixs) = some g' ∧ tt g' = .ok (p x) ∧ (p x = true → te g' = .ok (e x))) : fLc ixs src t tt te g = .ok ((l.filter p).map e) := by
  unfold fLc
  rw [hs, R.bind_ok, if_pos (by rw [List.length_map]; exact hl)]
  exact compD_map h
theorem fLc_all {α : Type} {ixs : List Nat} {src : Sg → R (List D)} {t : Tg} {te : Sg → R D} {g : Sg} {f : α → D} {e : α → D} {l : List α} (hs : src g = .ok (l.map f)) (hl : l.length ≤ 1000000)
    (h : ∀ x ∈ l, ∃ g', t (f x) (gwipe g ixs) = some g' ∧ te g' = .ok (e x)) : fLc ixs src t tYesD te g = .ok (l.map e) := by
  have := fLc_map (tt := tYesD) (p := fun _ => true) (e := e) hs hl fun x hx => by
    obtain ⟨g', h1, h2⟩ := h x hx
    exact ⟨g', h1, rfl, fun _ => h2⟩
  rw [this, List.filter_eq_self.mpr (by simp)]
theorem fUn_ok {α : Type} {F : D → R α} {f : Sg → R D} {g : Sg} {x : D} (h : f g = .ok x) : fUn F f g = F x := by unfold fUn; rw [h]; rfl
theorem fL_ok {f : Sg → R (List D)} {g : Sg} {l : List D} (h : f g = .ok l) : fL f g = .ok (.list l) := by show (f g).map _ = _; rw [h]; rfl
theorem fBin_ok {F : D → D → R D} {f1 f2 : Sg → R D} {g : Sg} {x y : D} (h1 : f1 g = .ok x) (h2 : f2 g = .ok y) : fBin F f1 f2 g = F x y := by unfold fBin; rw [h1, R.bind_ok, h2]; rfl
theorem fB_ok {f : Sg → R D} {g : Sg} {b : Bool} (h : f g = .ok (.bool b)) : fB f g = .ok b := by unfold fB; rw [h]; rfl
theorem fTru_ok {f : Sg → R D} {g : Sg} {b : Bool} (h : f g = .ok (.bool b)) : fTru f g = .ok b := by unfold fTru; rw [h]; rfl
theorem fTru_any {f : Sg → R D} {g : Sg} {d : D} (h : f g = .ok d) : fTru f g = truD d := by unfold fTru; rw [h]; rfl
theorem fOr_f {t1 t2 : Sg → R Bool} {g : Sg} (h : t1 g = .ok false) : fOr t1 t2 g = t2 g := by unfold fOr; rw [h]; rfl
theorem fOr_t {t1 t2 : Sg → R Bool} {g : Sg} (h : t1 g = .ok true) : fOr t1 t2 g = .ok true := by unfold fOr; rw [h]; rfl
theorem fAnd_f {t1 t2 : Sg → R Bool} {g : Sg} (h : t1 g = .ok false) : fAnd t1 t2 g = .ok false := by unfold fAnd; rw [h]; rfl
theorem fAnd_t {t1 t2 : Sg → R Bool} {g : Sg} (h : t1 g = .ok true) : fAnd t1 t2 g = t2 g := by unfold fAnd; rw [h]; rfl
theorem fAndV_t {f1 f2 : Sg → R D} {g : Sg} (h : f1 g = .ok (.bool true)) : fAndV f1 f2 g = f2 g := by unfold fAndV; rw [h]; rfl
theorem fAndV_f {f1 f2 : Sg → R D} {g : Sg} (h : f1 g = .ok (.bool false)) : fAndV f1 f2 g = .ok (.bool false) := by unfold fAndV; rw [h]; rfl
theorem fOrV_t {f1 f2 : Sg → R D} {g : Sg} (h : f1 g = .ok (.bool true)) : fOrV f1 f2 g = .ok (.bool true) := by unfold fOrV; rw [h]; rfl
theorem fOrV_f {f1 f2 : Sg → R D} {g : Sg} (h : f1 g = .ok (.bool false)) : fOrV f1 f2 g = f2 g := by unfold fOrV; rw [h]; rfl
theorem fNot_ok {t : Sg → R Bool} {g : Sg} {b : Bool} (h : t g = .ok b) : fNot t g = .ok (!b) := by unfold fNot; rw [h]; rfl
theorem fCons_ok {f : Sg → R D} {fs : Sg → R (List D)} {g : Sg} {x : D} {xs : List D} (h1 : f g = .ok x) (h2 : fs g = .ok xs) : fCons f fs g = .ok (x :: xs) := by unfold fCons; rw [h1, R.bind_ok, h2]; rfl
theorem filter_two {p q : Int → Bool} (h : ∀ x, p x = true → q x = true → False) : ∀ l : List Int, (l.filter p).length + (l.filter q).length ≤ l.length
  | [] => Nat.le_refl _
  | x :: l => by
    have ih := filter_two h l
    have := h x
    rw [List.filter_cons, List.filter_cons]
    split <;> split <;> simp_all <;> omega
theorem sortU_len (ns : List Int) : (sortU ns).length ≤ ns.length := by
  induction ns with
  | nil => exact Nat.le_refl _
  | cons n ns ih =>
    show (((sortU ns).filter (· < n)) ++ n :: ((sortU ns).filter (n < ·))).length ≤ _
    have := filter_two (p := fun x => decide (x < n)) (q := fun x => decide (n < x)) (fun x h1 h2 => by simp at h1 h2; omega) (sortU ns)
    simp only [List.length_append, List.length_cons]
    omega
theorem sortU_nodup (ns : List Int) : (sortU ns).Nodup := (sortU_pw ns).imp fun h => by omega
theorem mulD_int (i j : Int) (h : (-18446744073709551616 < i ∧ i < 18446744073709551616) ∨ (-18446744073709551616 < j ∧ j < 18446744073709551616)) : mulD (.int i) (.int j) = .ok (.int (i * j)) := by
  show (if _ then _ else _) = _
  exact if_pos h
theorem tupleD_list (l : List D) (h : l.length ≤ 1000000) : tupleD (.list l) = .ok (.tuple l) := by
  have h2 : l.length ≤ big := by unfold big; omega
  simp only [tupleD, h2, if_true]
theorem rng1_nat (n : Nat) (h : n < 1000000) : rng1 (.int n) = .ok ((List.range n).map fun i : Nat => .int (i : Nat)) := by
  have h2 : -1000000 < (n : Int) ∧ (n : Int) < 1000000 := by omega
  simp only [rng1, h2, and_self, if_true, range_map, Int.toNat_natCast]
theorem appF_ok (l : List D) (d : D) (h : l.length < 1000000) : appF l d = .ok (l ++ [d]) := by
  have h2 : l.length < big := by unfold big; omega
  simp only [appF, h2, if_true]
theorem addD_tup (a b : List D) (h : a.length + b.length ≤ 1000000) : addD (.tuple a) (.tuple b) = .ok (.tuple (a ++ b)) := by
  have h2 : a.length + b.length ≤ big := by unfold big; omega
  simp only [addD, h2, if_true]
theorem addD_list (a b : List D) (h : a.length + b.length ≤ 1000000) : addD (.list a) (.list b) = .ok (.list (a ++ b)) := by
  have h2 : a.length + b.length ≤ big := by unfold big; omega
  simp only [addD, h2, if_true]
theorem extF_ok (a b : List D) (h : a.length + b.length ≤ 1000000) : extF a (.list b) = .ok (a ++ b) := by
  have h2 : a.length + b.length ≤ big := by unfold big; omega
  simp only [extF, h2, if_true]
end G
end

section
set_option Elab.async false
set_option linter.all false
set_option maxRecDepth 100000
set_option maxHeartbeats 4000000
/-! M2: what the small defs come to. -/
namespace W
open PySem PyProof.Rows L2 G
def cell (ns : List Int) (k : Nat) : Int := ns.getD k 0
def mix (c p m : Int) : Int := c * 48271 % p % m
theorem cell_eq (ns : List Int) (k : Nat) : m_law_cell [scrD ns, .int (k : Nat)] = dd (.int (cell ns k)) := by
  by_cases h : k < ns.length
  · have h2 : (ns.map PyData.int).length = ns.length := List.length_map ..
    have : atI (ns.map PyData.int) (k : Int) = some (.int ns[k]) := by rw [atI_nat' _ _ (by simpa using h)]; simp
    simp [m_law_cell, u_law_cell, runF, initS, oSeq, oIf, oE, fB, fBin, fUn, fVarT, scrD, lenD, ltD, cmpI, asB, h, ixD, this, outR, cell]
  · simp [m_law_cell, u_law_cell, runF, initS, oSeq, oIf, oE, fB, fBin, fUn, fVarT, scrD, lenD, ltD, cmpI, asB, h, ixD, outR, cell, oNx, fC]
theorem mix_eq (c p m : Int) (hp : 0 < p) (hm : 0 < m) : m_law_mix [.int c, .int p, .int m] = dd (.int (mix c p m)) := by
  simp [m_law_mix, u_law_mix, runF, initS, oE, fBin, fVarT, fC, modD, mulD, outR, mix, hp, hm]
end W
end

section
set_option Elab.async false
set_option linter.all false
set_option maxRecDepth 100000
set_option maxHeartbeats 4000000
/-! M3: the answer of two codes, by the program and by the law: the same. -/
namespace W
open PySem PyProof.Rows L2 G
theorem enum_ti (xs : List Int) : enumD (xs.map .int) = xs.zipIdx.map fun q => pairD (.int (q.2 : Nat)) (.int q.1) := by
  rw [enumD_map, List.zipIdx_map, List.map_map]
  rfl
/-- right places, as the program counts -/
def plcI (one other : List Int) : Nat := (one.zipIdx.filter fun q => other[q.2]? == some q.1).length
def colI (one other : List Int) : Int := ((sortU one).map fun c => ((min (one.count c) (other.count c) : Nat) : Int)).sum
def ansI (one other : List Int) : D := ti [plcI one other, colI one other - plcI one other]
theorem answered_eq (one other : List Int) (h : one.length ≤ other.length) (h64 : one.length < 64) : m_answered [ti one, ti other] = dd (ansI one other) := by
  have e1 : fUn lenD (fL (fLc [4, 5] (fUn enD (fVar 0)) (gT 2 (gsC (gN 4) (gsC (gN 5) gs0))) (fB (fBin eqD (fBin ixD (fVarT 1) (fVarT 4)) (fVarT 5))) (fVar 4))) [.dat (ti one), .dat (ti other), .un, .un, .un, .un]
      = .ok (.int (plcI one other)) := by
    have s1 : (fUn enD (fVar 0)) [.dat (ti one), .dat (ti other), .un, .un, .un, .un] = .ok (one.zipIdx.map fun q => pairD (.int (q.2 : Nat)) (.int q.1)) := by
      simp [fUn, fVar, enD, enum_ti]
    rw [fUn_ok (fL_ok (fLc_map (p := fun q => other[q.2]? == some q.1) (e := fun q => .int (q.2 : Nat)) s1 (by simp; omega) ?_))]
    · simp [lenD, plcI]
    intro q hq
    have hq2 : q.2 < one.length := by
      obtain ⟨a, b⟩ := q
      have := List.mem_zipIdx hq
      simp at this
      omega
    have ha : atI (other.map PyData.int) (q.2 : Int) = some (.int (other[q.2]'(by omega))) := by rw [atI_nat' _ _ (by simp; omega)]; simp
    refine ⟨_, rfl, ?_, fun _ => rfl⟩
    simp [gwipe, fB, fBin, fVarT, ixD, ha, eqD_int, asB, List.getElem?_eq_getElem (show q.2 < other.length by omega)]
  have e2 : fUn sumD (fL (fLc [5] (fUn itD (fL (fUn ssD (fVarT 0)))) (gN 5) tYesD (fBin min2D (fCntT (fVarT 0) (fVarT 5)) (fCntT (fVarT 1) (fVarT 5))))) [.dat (ti one), .dat (ti other), .dat (.int (plcI one other)), .un, .un, .un]
      = .ok (.int (colI one other)) := by
    have s1 : (fUn itD (fL (fUn ssD (fVarT 0)))) [.dat (ti one), .dat (ti other), .dat (.int (plcI one other)), .un, .un, .un] = .ok ((sortU one).map PyData.int) := by
      simp [fUn, fVarT, fL, ssD, itD, h64]
    have hl : (sortU one).length ≤ 1000000 := by
      have := sortU_len one
      omega
    rw [fUn_ok (fL_ok (fLc_all (e := fun c => .int ((min (one.count c) (other.count c) : Nat) : Int)) s1 hl ?_))]
    · have e3 : ((sortU one).map fun c => PyData.int ((min (one.count c) (other.count c) : Nat) : Int)) = ((sortU one).map fun c => ((min (one.count c) (other.count c) : Nat) : Int)).map PyData.int := by rw [List.map_map]; rfl
      rw [e3]
      show (R.ofO (intsOf _)).bind _ = _
      rw [intsOf_map]
      rfl
    · intro c hc
      refine ⟨_, rfl, ?_⟩
      simp [-List.countP_map, gwipe, fBin, fCntT, fVarT, asTup, fine_int, fine_ti, count_ints, min2D]
      omega
  refine run_rt rfl ?_
  show u_answered [.dat (ti one), .dat (ti other), .un, .un, .un, .un] = _
  unfold u_answered
  rw [oSeq_nx (oSet_ok e1)]
  show oSeq _ _ [.dat (ti one), .dat (ti other), .dat (.int (plcI one other)), .un, .un, .un] = _
  rw [oSeq_nx (oSet_ok e2)]
  refine oRet_ok ?_
  simp [fTup, fCons, fBin, fVar, fVarT, fNil, subD, big, ansI]
end W
end

section
set_option Elab.async false
set_option linter.all false
set_option maxRecDepth 100000
set_option maxHeartbeats 4000000
/-! M4: the law's own answer. -/
namespace W
open PySem PyProof.Rows L2 G
def mt : List Int → List Int → List Int
  | a :: as, b :: bs => if a = b then a :: mt as bs else mt as bs
  | _, _ => []
def mn : List Int → List Int → List Int
  | a :: as, b :: bs => if a = b then mn as bs else a :: mn as bs
  | _, _ => []
def th : List Int → List Int → List Int
  | a :: as, b :: bs => if a = b then th as bs else b :: th as bs
  | _, _ => []
def inter : List Int → List Int → Nat
  | [], _ => 0
  | c :: cs, t => if c ∈ t then inter cs (t.erase c) + 1 else inter cs t
theorem zipD_ints : ∀ xs ys : List Int, zipD (xs.map .int) (ys.map .int) = (xs.zip ys).map fun q => pairD (.int q.1) (.int q.2)
  | [], _ => rfl
  | _ :: _, [] => rfl
  | x :: xs, y :: ys => by
    show pairD _ _ :: zipD (xs.map .int) (ys.map .int) = _
    rw [zipD_ints xs ys]
    rfl
theorem rem_ints (c : Int) : ∀ t : List Int, c ∈ t → ∃ j, (t.map PyData.int).findIdx? (fun z => PyData.eqv z (.int c)) = some j ∧ (t.map PyData.int).eraseIdx j = (t.erase c).map .int
  | [], h => by cases h
  | x :: t, h => by
    by_cases e : x = c
    · subst e
      exact ⟨0, by simp [List.findIdx?_cons, eqv_int], by simp⟩
    · have hm : c ∈ t := by
        cases h with
        | head => exact absurd rfl e
        | tail _ h => exact h
      obtain ⟨j, h1, h2⟩ := rem_ints c t hm
      refine ⟨j + 1, ?_, ?_⟩
      · rw [List.map_cons, List.findIdx?_cons, eqv_int, h1]
        simp [e]
      · rw [List.map_cons, List.eraseIdx_cons_succ, h2, List.erase_cons_tail (by simp [e])]
        rfl
def body1 : Sg → Out := (oIf (fB (fBin eqD (fVarT 5) (fVarT 6))) (oSet 2 (fBin addD (fVarT 2) (fC (.int 1)))) (oSeq (oOwn 3 (fVar 5) appF) (oOwn 4 (fVar 6) appF)))
theorem loop1 (A B : Sl) : ∀ (xs ys m t : List Int) (r : Int) (x y : Sl), m.length + xs.length ≤ 1000 → t.length + xs.length ≤ 1000 →
    ∃ x' y', loopD (gT 2 (gsC (gN 5) (gsC (gN 6) gs0))) body1 ((xs.zip ys).map fun q => pairD (.int q.1) (.int q.2)) [A, B, .dat (.int r), .lst (m.map .int), .lst (t.map .int), x, y, .un, .un]
      = .nx [A, B, .dat (.int (r + (mt xs ys).length)), .lst ((m ++ mn xs ys).map .int), .lst ((t ++ th xs ys).map .int), x', y', .un, .un]
  | [], ys, m, t, r, x, y, _, _ => ⟨x, y, by simp [mt, mn, th, loopD]⟩
  | _ :: _, [], m, t, r, x, y, _, _ => ⟨x, y, by simp [mt, mn, th, loopD]⟩
  | a :: xs, b :: ys, m, t, r, x, y, h1, h2 => by
    rw [List.length_cons] at h1 h2
    by_cases e : a = b
    · obtain ⟨x', y', h⟩ := loop1 A B xs ys m t (r + 1) (.dat (.int a)) (.dat (.int b)) (by omega) (by omega)
      refine ⟨x', y', ?_⟩
      have hb : body1 [A, B, .dat (.int r), .lst (m.map .int), .lst (t.map .int), .dat (.int a), .dat (.int b), .un, .un] = .nx [A, B, .dat (.int (r + 1)), .lst (m.map .int), .lst (t.map .int), .dat (.int a), .dat (.int b), .un, .un] := by
        unfold body1
        rw [oIf_t (fB_ok (b := true) (by rw [fBin_ok (x := .int a) (y := .int b) rfl rfl, eqD_int]; simp [e]))]
        rfl
      rw [List.zip_cons_cons, List.map_cons]
      unfold loopD
      show (match body1 [A, B, .dat (.int r), .lst (m.map .int), .lst (t.map .int), .dat (.int a), .dat (.int b), .un, .un] with | .nx g2 => _ | .ct g2 => _ | .bk g2 => _ | o => o) = _
      rw [hb]
      show loopD _ _ _ _ = _
      rw [h]
      simp [mt, mn, th, e]
      omega
    · obtain ⟨x', y', h⟩ := loop1 A B xs ys (m ++ [a]) (t ++ [b]) r (.dat (.int a)) (.dat (.int b)) (by simp; omega) (by simp; omega)
      refine ⟨x', y', ?_⟩
      have hb : body1 [A, B, .dat (.int r), .lst (m.map .int), .lst (t.map .int), .dat (.int a), .dat (.int b), .un, .un] = .nx [A, B, .dat (.int r), .lst ((m ++ [a]).map .int), .lst ((t ++ [b]).map .int), .dat (.int a), .dat (.int b), .un, .un] := by
        unfold body1
        rw [oIf_f (fB_ok (b := false) (by rw [fBin_ok (x := .int a) (y := .int b) rfl rfl, eqD_int]; simp [e]))]
        rw [oSeq_nx (oOwn_ok (ds := m.map .int) (a := PyData.int a) (ds' := (m ++ [a]).map .int) rfl rfl (by unfold appF; rw [if_pos (by simp [big]; omega)]; simp))]
        rw [oOwn_ok (ds := t.map .int) (a := PyData.int b) (ds' := (t ++ [b]).map .int) rfl rfl (by unfold appF; rw [if_pos (by simp [big]; omega)]; simp)]
        rfl
      rw [List.zip_cons_cons, List.map_cons]
      unfold loopD
      show (match body1 [A, B, .dat (.int r), .lst (m.map .int), .lst (t.map .int), .dat (.int a), .dat (.int b), .un, .un] with | .nx g2 => _ | .ct g2 => _ | .bk g2 => _ | o => o) = _
      rw [hb]
      show loopD _ _ _ _ = _
      rw [h]
      simp [mt, mn, th, e]
def body2 : Sg → Out := (oIf (fB (fBin inD (fVarT 8) (fVarT 4))) (oSeq (oOwn 4 (fVar 8) remF) (oSet 7 (fBin addD (fVarT 7) (fC (.int 1))))) oNx)
theorem loop2 (A B C M E F : Sl) : ∀ (cs t : List Int) (n : Int) (x : Sl), t.length ≤ 1000 →
    ∃ t' x', loopD (gN 8) body2 (cs.map .int) [A, B, C, M, .lst (t.map .int), E, F, .dat (.int n), x] = .nx [A, B, C, M, t', E, F, .dat (.int (n + inter cs t)), x']
  | [], t, n, x, _ => ⟨_, x, by simp [inter, loopD]; rfl⟩
  | c :: cs, t, n, x, h => by
    have ht : fB (fBin inD (fVarT 8) (fVarT 4)) [A, B, C, M, .lst (t.map .int), E, F, .dat (.int n), .dat (.int c)] = .ok (t.contains c) := by
      refine fB_ok ?_
      rw [fBin_ok (x := .int c) (y := .list (t.map .int)) rfl rfl]
      simp only [inD, inB, fine_int, fine_li, Bool.and_self, if_true, G.any_ints, R.map_ok]
    by_cases e : c ∈ t
    · obtain ⟨j, h1, h2⟩ := rem_ints c t e
      obtain ⟨t', x', ih⟩ := loop2 A B C M E F cs (t.erase c) (n + 1) (.dat (.int c)) (by have := List.length_erase_le (a := c) (l := t); omega)
      refine ⟨t', x', ?_⟩
      have hb : body2 [A, B, C, M, .lst (t.map .int), E, F, .dat (.int n), .dat (.int c)] = .nx [A, B, C, M, .lst ((t.erase c).map .int), E, F, .dat (.int (n + 1)), .dat (.int c)] := by
        unfold body2
        rw [oIf_t (by rw [ht]; simp [e])]
        rw [oSeq_nx (oOwn_ok (ds := t.map .int) (a := PyData.int c) (ds' := (t.erase c).map .int) rfl rfl (by
          unfold remF
          rw [if_pos (by simp [fine_int, plainAll_ints, big]; omega), h1]
          show R.ok (List.eraseIdx _ _) = _
          rw [h2]))]
        rfl
      rw [List.map_cons]
      unfold loopD
      show (match body2 [A, B, C, M, .lst (t.map .int), E, F, .dat (.int n), .dat (.int c)] with | .nx g2 => _ | .ct g2 => _ | .bk g2 => _ | o => o) = _
      rw [hb]
      show loopD _ _ _ _ = _
      rw [ih]
      simp [inter, e]
      omega
    · obtain ⟨t', x', ih⟩ := loop2 A B C M E F cs t n (.dat (.int c)) h
      refine ⟨t', x', ?_⟩
      have hb : body2 [A, B, C, M, .lst (t.map .int), E, F, .dat (.int n), .dat (.int c)] = .nx [A, B, C, M, .lst (t.map .int), E, F, .dat (.int n), .dat (.int c)] := by
        unfold body2
        rw [oIf_f (by rw [ht]; simp [e])]
        rfl
      rw [List.map_cons]
      unfold loopD
      show (match body2 [A, B, C, M, .lst (t.map .int), E, F, .dat (.int n), .dat (.int c)] with | .nx g2 => _ | .ct g2 => _ | .bk g2 => _ | o => o) = _
      rw [hb]
      show loopD _ _ _ _ = _
      rw [ih]
      simp [inter, e]
theorem th_len : ∀ xs ys : List Int, (th xs ys).length ≤ xs.length
  | [], _ => by simp [th]
  | _ :: _, [] => by simp [th]
  | a :: xs, b :: ys => by
    have := th_len xs ys
    unfold th
    split <;> simp <;> omega
theorem law_answer_eq (one other : List Int) (h64 : one.length < 64) : m_law_answer [ti one, ti other] = dd (ti [(mt one other).length, inter (mn one other) (th one other)]) := by
  refine run_rt rfl ?_
  show u_law_answer [.dat (ti one), .dat (ti other), .un, .un, .un, .un, .un, .un, .un] = _
  unfold u_law_answer
  rw [oSeq_nx (oSet_ok (d := .int 0) rfl)]
  rw [oSeq_nx (oSetO_ok (d := []) rfl)]
  rw [oSeq_nx (oSetO_ok (d := []) rfl)]
  obtain ⟨x, y, h1⟩ := loop1 (.dat (ti one)) (.dat (ti other)) one other [] [] 0 .un .un (by simp; omega) (by simp; omega)
  rw [oSeq_nx (g' := [.dat (ti one), .dat (ti other), .dat (.int (mt one other).length), .lst ((mn one other).map .int), .lst ((th one other).map .int), x, y, .un, .un]) (by
    rw [oFor_ok (ds := (one.zip other).map fun q => pairD (.int q.1) (.int q.2)) (by rw [← zipD_ints]; rfl)]
    refine h1.trans ?_
    simp)]
  rw [oSeq_nx (oSet_ok (d := .int 0) rfl)]
  obtain ⟨t', x', h2⟩ := loop2 (.dat (ti one)) (.dat (ti other)) (.dat (.int (mt one other).length)) (.dat (.list ((mn one other).map .int))) x y (mn one other) (th one other) 0 .un (by have := th_len one other; omega)
  rw [oSeq_nx (g' := [.dat (ti one), .dat (ti other), .dat (.int (mt one other).length), .dat (.list ((mn one other).map .int)), t', x, y, .dat (.int (inter (mn one other) (th one other))), x']) (by
    show oFor _ _ _ [.dat (ti one), .dat (ti other), .dat (.int (mt one other).length), .dat (.list ((mn one other).map .int)), .lst ((th one other).map .int), x, y, .dat (.int 0), .un] = _
    rw [oFor_ok (ds := (mn one other).map .int) rfl]
    refine h2.trans ?_
    simp)]
  rfl
end W
end

section
set_option Elab.async false
set_option linter.all false
set_option maxRecDepth 100000
set_option maxHeartbeats 4000000
/-! M5: both answers are the same. -/
namespace W
open PySem PyProof.Rows L2 G
theorem plc_eq : ∀ (xs ys : List Int) (k : Nat) (zs : List Int), zs.drop k = ys → ((xs.zipIdx k).filter fun q => zs[q.2]? == some q.1).length = (mt xs ys).length
  | [], ys, k, zs, _ => by simp [mt]
  | a :: xs, [], k, zs, h => by
    have hk : zs.length ≤ k := by
      have := congrArg List.length h
      simp at this
      omega
    rw [List.filter_eq_nil_iff.mpr]
    · simp [mt]
    · intro q hq
      obtain ⟨c, i⟩ := q
      have := List.le_snd_of_mem_zipIdx hq
      rw [List.getElem?_eq_none (by simp at this ⊢; omega)]
      simp
  | a :: xs, b :: ys, k, zs, h => by
    have hb : zs[k]? = some b := by
      have := congrArg (·[0]?) h
      simpa [List.getElem?_drop] using this
    have h2 : zs.drop (k + 1) = ys := by
      have := congrArg (List.drop 1) h
      simpa [List.drop_drop] using this
    have ih := plc_eq xs ys (k + 1) zs h2
    rw [List.zipIdx_cons, List.filter_cons]
    by_cases e : a = b
    · rw [if_pos (by simp [hb, e]), List.length_cons, ih]
      simp [mt, e]
    · rw [if_neg (by simp [hb]; exact fun z => e z.symm), ih]
      simp [mt, e]
theorem plcI_eq (xs ys : List Int) : plcI xs ys = (mt xs ys).length := plc_eq xs ys 0 ys rfl
def sumN (S : List Int) (f : Int → Nat) : Nat := (S.map f).sum
theorem sumN_congr {S : List Int} {f g : Int → Nat} (h : ∀ c ∈ S, f c = g c) : sumN S f = sumN S g := by
  unfold sumN
  rw [List.map_congr_left h]
theorem sumN_add (S : List Int) (f g : Int → Nat) : sumN S (fun c => f c + g c) = sumN S f + sumN S g := by
  induction S with
  | nil => rfl
  | cons a S ih =>
    show (f a + g a) + sumN S _ = (f a + sumN S f) + (g a + sumN S g)
    rw [ih]
    omega
theorem sumN_one {S : List Int} {f g : Int → Nat} {a : Int} (hn : S.Nodup) (ha : a ∈ S) (h1 : f a = g a + 1) (h2 : ∀ c, c ≠ a → f c = g c) : sumN S f = sumN S g + 1 := by
  induction S with
  | nil => cases ha
  | cons b S ih =>
    rw [List.nodup_cons] at hn
    show f b + sumN S f = g b + sumN S g + 1
    by_cases e : b = a
    · subst e
      rw [h1, sumN_congr (S := S) (f := f) (g := g) fun c hc => h2 c fun z => hn.1 (z ▸ hc)]
      omega
    · have : a ∈ S := by
        cases ha with
        | head => exact absurd rfl e
        | tail _ h => exact h
      rw [h2 b e, ih hn.2 this]
      omega
theorem sumN_zero (S : List Int) : sumN S (fun _ => 0) = 0 := by
  induction S with
  | nil => rfl
  | cons a S ih => show 0 + sumN S _ = 0; rw [ih]
theorem inter_eq {S : List Int} (hn : S.Nodup) : ∀ xs ys : List Int, (∀ x ∈ xs, x ∈ S) → inter xs ys = sumN S fun c => min (xs.count c) (ys.count c)
  | [], ys, _ => by
    have : sumN S (fun c => min (([] : List Int).count c) (ys.count c)) = sumN S fun _ => 0 := sumN_congr fun c _ => by simp
    rw [this, sumN_zero]
    rfl
  | a :: xs, ys, h => by
    have ha := h a (List.mem_cons_self ..)
    have h' : ∀ x ∈ xs, x ∈ S := fun x hx => h x (List.mem_cons_of_mem _ hx)
    unfold inter
    by_cases e : a ∈ ys
    · rw [if_pos e, inter_eq hn xs (ys.erase a) h']
      symm
      have hc : 0 < ys.count a := List.count_pos_iff.mpr e
      refine sumN_one hn ha ?_ fun c hc' => ?_
      · simp [List.count_erase_self]
        omega
      · rw [List.count_cons_of_ne (fun z => hc' z.symm), List.count_erase_of_ne hc']
    · rw [if_neg e, inter_eq hn xs ys h']
      refine sumN_congr fun c _ => ?_
      by_cases hc : c = a
      · subst hc
        rw [List.count_eq_zero.mpr e]
        simp
      · rw [List.count_cons_of_ne (fun z => hc z.symm)]
theorem cnt_sum {S : List Int} (hn : S.Nodup) : ∀ xs : List Int, (∀ x ∈ xs, x ∈ S) → sumN S (fun c => xs.count c) = xs.length
  | [], _ => by
    have : sumN S (fun c => ([] : List Int).count c) = sumN S fun _ => 0 := sumN_congr fun c _ => by simp
    rw [this, sumN_zero]
    rfl
  | a :: xs, h => by
    have ha := h a (List.mem_cons_self ..)
    rw [List.length_cons, ← cnt_sum hn xs fun x hx => h x (List.mem_cons_of_mem _ hx)]
    exact sumN_one hn ha (by simp) fun c hc => by rw [List.count_cons_of_ne (fun z => hc z.symm)]
theorem cnt_one : ∀ (xs ys : List Int) (c : Int), xs.length = ys.length → xs.count c = (mt xs ys).count c + (mn xs ys).count c ∧ ys.count c = (mt xs ys).count c + (th xs ys).count c
  | [], [], c, _ => by simp [mt, mn, th]
  | a :: xs, b :: ys, c, h => by
    obtain ⟨h1, h2⟩ := cnt_one xs ys c (by simpa using h)
    unfold mt mn th
    by_cases e : a = b
    · subst e
      simp [List.count_cons, h1, h2]
      omega
    · simp [e, List.count_cons, h1, h2]
      omega
theorem mt_sub : ∀ (xs ys : List Int) (c : Int), c ∈ mt xs ys → c ∈ xs
  | [], _, c, h => by simp [mt] at h
  | _ :: _, [], c, h => by simp [mt] at h
  | a :: xs, b :: ys, c, h => by
    unfold mt at h
    split at h
    · cases h with
      | head => exact List.mem_cons_self ..
      | tail _ h => exact List.mem_cons_of_mem _ (mt_sub xs ys c h)
    · exact List.mem_cons_of_mem _ (mt_sub xs ys c h)
theorem mn_sub : ∀ (xs ys : List Int) (c : Int), c ∈ mn xs ys → c ∈ xs
  | [], _, c, h => by simp [mn] at h
  | _ :: _, [], c, h => by simp [mn] at h
  | a :: xs, b :: ys, c, h => by
    unfold mn at h
    split at h
    · exact List.mem_cons_of_mem _ (mn_sub xs ys c h)
    · cases h with
      | head => exact List.mem_cons_self ..
      | tail _ h => exact List.mem_cons_of_mem _ (mn_sub xs ys c h)
theorem col_eq {xs ys : List Int} (h : xs.length = ys.length) {S : List Int} (hn : S.Nodup) (hs : ∀ x ∈ xs, x ∈ S) : sumN S (fun c => min (xs.count c) (ys.count c)) = (mt xs ys).length + inter (mn xs ys) (th xs ys) := by
  rw [inter_eq hn _ _ fun x hx => hs x (mn_sub xs ys x hx), ← cnt_sum hn _ fun x hx => hs x (mt_sub xs ys x hx), ← sumN_add]
  refine sumN_congr fun c _ => ?_
  obtain ⟨h1, h2⟩ := cnt_one xs ys c h
  omega
theorem sum_cast (S : List Int) (f : Int → Nat) : (S.map fun c => ((f c : Nat) : Int)).sum = ((sumN S f : Nat) : Int) := by
  induction S with
  | nil => rfl
  | cons a S ih =>
    show (f a : Int) + (S.map fun c => ((f c : Nat) : Int)).sum = ((f a + sumN S f : Nat) : Int)
    rw [ih]
    omega
/-- the answer of two codes -/
def ansP (xs ys : List Int) : Int × Int := ((mt xs ys).length, inter (mn xs ys) (th xs ys))
theorem ansI_eq {xs ys : List Int} (h : xs.length = ys.length) : ansI xs ys = ti [(ansP xs ys).1, (ansP xs ys).2] := by
  unfold ansI colI ansP
  rw [sum_cast, col_eq h (sortU_nodup xs) fun x hx => (sortU_mem xs x).mpr hx, plcI_eq]
  congr 3
  simp
  omega
theorem answered_law {xs ys : List Int} (h : xs.length = ys.length) (h64 : xs.length < 64) : m_answered [ti xs, ti ys] = dd (ti [(ansP xs ys).1, (ansP xs ys).2]) := by
  rw [answered_eq xs ys (by omega) h64, ansI_eq h]
theorem law_answer_law {xs ys : List Int} (h64 : xs.length < 64) : m_law_answer [ti xs, ti ys] = dd (ti [(ansP xs ys).1, (ansP xs ys).2]) := law_answer_eq xs ys h64
end W
end

section
set_option Elab.async false
set_option linter.all false
set_option maxRecDepth 100000
set_option maxHeartbeats 4000000
/-! M6: games, codes. -/
namespace W
open PySem PyProof.Rows L2 G
/-! answers -/
theorem mt_mn_len : ∀ xs ys : List Int, xs.length = ys.length → (mt xs ys).length + (mn xs ys).length = xs.length
  | [], [], _ => rfl
  | a :: xs, b :: ys, h => by
    have := mt_mn_len xs ys (by simpa using h)
    unfold mt mn
    split <;> simp <;> omega
theorem mn_th_len : ∀ xs ys : List Int, (mn xs ys).length = (th xs ys).length
  | [], _ => by simp [mn, th]
  | _ :: _, [] => by simp [mn, th]
  | a :: xs, b :: ys => by
    have := mn_th_len xs ys
    unfold mn th
    split <;> simp [this]
theorem mt_comm : ∀ xs ys : List Int, mt xs ys = mt ys xs
  | [], [] => rfl
  | [], _ :: _ => rfl
  | _ :: _, [] => rfl
  | a :: xs, b :: ys => by
    unfold mt
    by_cases e : a = b
    · subst e; rw [mt_comm xs ys]
    · rw [if_neg e, if_neg (fun z => e z.symm), mt_comm xs ys]
theorem mn_comm : ∀ xs ys : List Int, mn xs ys = th ys xs
  | [], [] => rfl
  | [], _ :: _ => rfl
  | _ :: _, [] => rfl
  | a :: xs, b :: ys => by
    unfold mn th
    by_cases e : a = b
    · subst e; rw [mn_comm xs ys]
    · rw [if_neg e, if_neg (fun z => e z.symm), mn_comm xs ys]
theorem inter_comm (xs ys : List Int) : inter xs ys = inter ys xs := by
  have hn := sortU_nodup (xs ++ ys)
  rw [inter_eq hn xs ys fun x hx => (sortU_mem _ _).mpr (by simp [hx]), inter_eq hn ys xs fun x hx => (sortU_mem _ _).mpr (by simp [hx])]
  exact sumN_congr fun c _ => Nat.min_comm _ _
theorem ansP_comm (xs ys : List Int) : ansP xs ys = ansP ys xs := by
  unfold ansP
  rw [mt_comm xs ys, mn_comm xs ys, ← mn_comm ys xs, inter_comm]
theorem inter_le : ∀ xs ys : List Int, inter xs ys ≤ xs.length
  | [], _ => Nat.le_refl _
  | c :: cs, t => by
    unfold inter
    split
    · have := inter_le cs (t.erase c); simp; omega
    · have := inter_le cs t; simp; omega
theorem ansP_sum {xs ys : List Int} (h : xs.length = ys.length) : (ansP xs ys).1 + (ansP xs ys).2 ≤ xs.length := by
  have h1 := mt_mn_len xs ys h
  have h2 := inter_le (mn xs ys) (th xs ys)
  unfold ansP
  show ((mt xs ys).length : Int) + (inter (mn xs ys) (th xs ys) : Nat) ≤ _
  omega
theorem mt_self : ∀ xs : List Int, mt xs xs = xs
  | [] => rfl
  | a :: xs => by unfold mt; rw [if_pos rfl, mt_self xs]
theorem mn_self : ∀ xs : List Int, mn xs xs = []
  | [] => rfl
  | a :: xs => by unfold mn; rw [if_pos rfl, mn_self xs]
theorem mn_nil : ∀ xs ys : List Int, xs.length = ys.length → mn xs ys = [] → xs = ys
  | [], [], _, _ => rfl
  | a :: xs, b :: ys, h, e => by
    unfold mn at e
    split at e
    · rename_i z
      rw [z, mn_nil xs ys (by simpa using h) e]
    · cases e
theorem ansP_self (xs : List Int) : ansP xs xs = ((xs.length : Int), 0) := by
  unfold ansP
  rw [mt_self, mn_self]
  rfl
theorem ansP_full {xs ys : List Int} (h : xs.length = ys.length) : ansP xs ys = ((xs.length : Int), 0) ↔ xs = ys := by
  constructor
  · intro e
    have h1 := mt_mn_len xs ys h
    have e1 : ((mt xs ys).length : Int) = xs.length := congrArg Prod.fst e
    exact mn_nil xs ys h (List.length_eq_zero_iff.mp (by omega))
  · intro e
    subst e
    exact ansP_self xs
theorem mn_one : ∀ xs ys : List Int, ∀ a b, mn xs ys = [a] → th xs ys = [b] → a ≠ b
  | [], _, a, b, h, _ => by simp [mn] at h
  | _ :: _, [], a, b, h, _ => by simp [mn] at h
  | x :: xs, y :: ys, a, b, h, h2 => by
    unfold mn at h
    unfold th at h2
    split at h
    · rename_i e
      rw [if_pos e] at h2
      exact mn_one xs ys a b h h2
    · rename_i e
      rw [if_neg e] at h2
      rw [List.cons.injEq] at h h2
      rw [← h.1, ← h2.1]
      exact e
theorem ansP_last {xs ys : List Int} (h : xs.length = ys.length) : ansP xs ys ≠ ((xs.length : Int) - 1, 1) := by
  intro e
  have h1 := mt_mn_len xs ys h
  have h2 := mn_th_len xs ys
  have e1 : ((mt xs ys).length : Int) = xs.length - 1 := congrArg Prod.fst e
  have e2 : (inter (mn xs ys) (th xs ys) : Int) = 1 := congrArg Prod.snd e
  have l1 : (mn xs ys).length = 1 := by omega
  obtain ⟨a, ha⟩ := List.length_eq_one_iff.mp l1
  obtain ⟨b, hb⟩ := List.length_eq_one_iff.mp (h2 ▸ l1)
  have := mn_one xs ys a b ha hb
  rw [ha, hb] at e2
  simp [inter, this] at e2
/-! games -/
def games : List (Int × Int) := [(2, 3), (3, 2), (3, 3), (2, 4), (4, 2), (1, 5), (2, 5), (3, 4), (4, 3)]
abbrev gD (p q : Int) : D := ti [p, q]
def gameI (ns : List Int) (k : Nat) : Int × Int := games.getD (mix (cell ns k) 9973 9).toNat (2, 3)
theorem mix_lt (c p m : Int) (hm : 0 < m) : 0 ≤ mix c p m ∧ mix c p m < m := ⟨Int.emod_nonneg _ (by omega), Int.emod_lt_of_pos _ hm⟩
theorem gameI_mem (ns : List Int) (k : Nat) : gameI ns k ∈ games := by
  unfold gameI
  obtain ⟨h1, h2⟩ := mix_lt (cell ns k) 9973 9 (by omega)
  rw [List.getD_eq_getElem?_getD, List.getElem?_eq_getElem (by simp [games]; omega)]
  exact List.getElem_mem _
def game13 : List D := [gD 2 3, gD 3 2, gD 3 3, gD 2 4, gD 4 2, gD 1 5, gD 2 5, gD 3 4, gD 4 3, gD 5 2, gD 2 8, gD 1 1, gD 2 2]
theorem at13 (c : Int) (h1 : 0 ≤ c) (h2 : c < 9) : atI game13 c = some (gD (games.getD c.toNat (2, 3)).1 (games.getD c.toNat (2, 3)).2) := by
  have : c = 0 ∨ c = 1 ∨ c = 2 ∨ c = 3 ∨ c = 4 ∨ c = 5 ∨ c = 6 ∨ c = 7 ∨ c = 8 := by omega
  rcases this with rfl | rfl | rfl | rfl | rfl | rfl | rfl | rfl | rfl <;> rfl
theorem game_eq (ns : List Int) (h : ns.length ≤ 63) (k : Nat) : m_law_game [scrD ns, .int (k : Nat)] = dd (gD (gameI ns k).1 (gameI ns k).2) := by
  refine run_rt rfl ?_
  show u_law_game [.dat (scrD ns), .dat (.int (k : Nat)), .un, .un] = _
  unfold u_law_game
  rw [oSeq_nx (oSet_ok (d := .list game13) rfl)]
  rw [oSeq_nx (oSet_ok (d := .int 9) rfl)]
  show oSeq _ _ [.dat (scrD ns), .dat (.int (k : Nat)), .dat (.list game13), .dat (.int 9)] = _
  rw [oSeq_nx (g' := [.dat (scrD ns), .dat (.int (k : Nat)), .dat (.list game13), .dat (.int 9)]) (by
    rw [oIf_f (fB_ok (b := false) (by
      rw [fBin_ok (x := .int ns.length) (y := .int 63) (by rw [fUn_ok (x := scrD ns) rfl]; simp [lenD, scrD]) rfl]
      simp [gtD, cmpI]; omega))]
    rfl)]
  refine oRet_ok ?_
  have c1 : fCall m_law_cell (fCons (fVar 0) (fCons (fVar 1) fNil)) [.dat (scrD ns), .dat (.int (k : Nat)), .dat (.list game13), .dat (.int 9)] = .ok (.int (cell ns k)) := fCall_ok (ds := [scrD ns, .int (k : Nat)]) rfl (cell_eq ns k)
  have c2 : fCall m_law_mix (fCons (fCall m_law_cell (fCons (fVar 0) (fCons (fVar 1) fNil))) (fCons (fC (.int 9973)) (fCons (fVar 3) fNil))) [.dat (scrD ns), .dat (.int (k : Nat)), .dat (.list game13), .dat (.int 9)] = .ok (.int (mix (cell ns k) 9973 9)) :=
    fCall_ok (ds := [.int (cell ns k), .int 9973, .int 9]) (fCons_ok c1 rfl) (mix_eq _ _ _ (by omega) (by omega))
  obtain ⟨h1, h2⟩ := mix_lt (cell ns k) 9973 9 (by omega)
  rw [fBin_ok (x := .list game13) rfl c2]
  show R.ofO (atI game13 _) = _
  rw [at13 _ h1 h2]
  rfl
/-! codes -/
def codeI (p : Nat) (q c : Int) : List Int := (List.range p).map fun i : Nat => mix (c + 31 * i * i + 7 * i) 9967 q
theorem range_get {p i j : Nat} (h : (List.range p)[i]? = some j) : j = i ∧ i < p := by
  obtain ⟨h1, h2⟩ := List.getElem?_eq_some_iff.mp h
  rw [List.getElem_range] at h2
  exact ⟨h2.symm, by simpa using h1⟩
theorem codeI_succ (i : Nat) (q c : Int) : codeI (i + 1) q c = codeI i q c ++ [mix (c + 31 * i * i + 7 * i) 9967 q] := by
  unfold codeI
  rw [List.range_succ, List.map_append]
  rfl
theorem codeI_len (p : Nat) (q c : Int) : (codeI p q c).length = p := by simp [codeI]
theorem codeI_in {p : Nat} {q c x : Int} (hq : 0 < q) (h : x ∈ codeI p q c) : 0 ≤ x ∧ x < q := by
  obtain ⟨i, _, rfl⟩ := List.mem_map.mp h
  exact mix_lt _ _ _ hq
theorem small_num (i : Nat) (h : i ≤ 100000) : (-18446744073709551616 < (i : Int) ∧ (i : Int) < 18446744073709551616) := by omega
theorem code_eq (p : Nat) (q c : Int) (hp : p ≤ 100) (hq : 0 < q) : m_law_code [gD p q, .int c] = dd (ti (codeI p q c)) := by
  refine run_rt rfl ?_
  show u_law_code [.dat (gD p q), .dat (.int c), .un, .un] = _
  unfold u_law_code
  rw [oSeq_nx (oSetO_ok (d := []) rfl)]
  show oSeq _ _ [.dat (gD p q), .dat (.int c), .lst [], .un] = _
  obtain ⟨g', h1, x, h2⟩ := loopD_idx (t := gN 3) (body := (oOwn 2 (fCall m_law_mix (fCons (fBin addD (fBin addD (fVarT 1) (fBin mulD (fBin mulD (fC (.int 31)) (fVarT 3)) (fVarT 3))) (fBin mulD (fC (.int 7)) (fVarT 3))) (fCons (fC (.int 9967)) (fCons (fBin ixD (fVarT 0) (fC (.int 1))) fNil)))) appF))
    (f := fun i : Nat => PyData.int (i : Nat)) (I := fun i g => ∃ x, g = [.dat (gD p q), .dat (.int c), .lst ((codeI i q c).map .int), x]) (l := List.range p) (g := [.dat (gD p q), .dat (.int c), .lst [], .un]) ⟨_, rfl⟩ (by
      intro j g i hj ⟨x, hg⟩
      subst hg
      obtain ⟨e, hi⟩ := range_get hj
      subst e
      clear hj
      refine ⟨[.dat (gD p q), .dat (.int c), .lst ((codeI i q c).map .int), .dat (.int (i : Nat))], _, rfl, .inl (oOwn_ok (ds := (codeI i q c).map .int) (a := PyData.int (mix (c + 31 * i * i + 7 * i) 9967 q)) (ds' := (codeI (i + 1) q c).map .int) rfl ?_ ?_), ⟨_, rfl⟩⟩
      · refine fCall_ok (r := .dat (.int (mix (c + 31 * i * i + 7 * i) 9967 q))) (ds := [.int (c + 31 * i * i + 7 * i), .int 9967, .int q]) (fCons_ok ?_ rfl) (mix_eq _ _ _ (by omega) hq)
        have m1 : fBin mulD (fC (.int 31)) (fVarT 3) [.dat (gD p q), .dat (.int c), .lst ((codeI i q c).map .int), .dat (.int (i : Nat))] = .ok (.int (31 * i)) := by
          rw [fBin_ok (x := .int 31) (y := .int (i : Nat)) rfl rfl, mulD_int _ _ (by omega)]
        have m2 : fBin mulD (fC (.int 7)) (fVarT 3) [.dat (gD p q), .dat (.int c), .lst ((codeI i q c).map .int), .dat (.int (i : Nat))] = .ok (.int (7 * i)) := by
          rw [fBin_ok (x := .int 7) (y := .int (i : Nat)) rfl rfl, mulD_int _ _ (by omega)]
        have m3 : fBin mulD (fBin mulD (fC (.int 31)) (fVarT 3)) (fVarT 3) [.dat (gD p q), .dat (.int c), .lst ((codeI i q c).map .int), .dat (.int (i : Nat))] = .ok (.int (31 * i * i)) := by
          rw [fBin_ok (x := .int (31 * i)) (y := .int (i : Nat)) m1 rfl, mulD_int _ _ (by omega)]
        rw [fBin_ok (x := .int (c + 31 * i * i)) (y := .int (7 * i)) (by rw [fBin_ok (x := .int c) (y := .int (31 * i * i)) rfl m3]; rfl) m2]
        rfl
      · rw [appF_ok _ _ (by rw [List.length_map, codeI_len]; omega), codeI_succ, List.map_append]
        rfl)
  rw [List.length_range] at h2
  subst h2
  rw [oSeq_nx (g' := [.dat (gD p q), .dat (.int c), .lst ((codeI p q c).map .int), x]) (by
    rw [oFor_ok (ds := (List.range p).map fun i : Nat => PyData.int (i : Nat)) (by
      rw [fUn_ok (x := .int p) (by rw [fBin_ok (x := gD p q) (y := .int 0) rfl rfl]; rfl)]
      exact rng1_nat p (by omega))]
    exact h1)]
  refine oRet_ok ?_
  rw [fUn_ok (x := .list ((codeI p q c).map .int)) rfl]
  exact tupleD_list _ (by rw [List.length_map, codeI_len]; omega)
end W
end

section
set_option Elab.async false
set_option linter.all false
set_option maxRecDepth 100000
set_option maxHeartbeats 4000000
/-! M7: the program's looks. -/
namespace W
open PySem PyProof.Rows L2 G
theorem isi_ok (T : String) (d : D) (f : Sg → R D) (g : Sg) (h : f g = .ok d) (h2 : noDict d = true) : fIsi T f g = .ok (.bool (isiD T d)) := by
  unfold fIsi
  rw [fUn_ok h, h2]
  rfl
theorem is_within_eq (a lo hi : Int) : m_is_within [.int a, .int lo, .int hi] = dd (.bool (decide (lo ≤ a) && decide (a ≤ hi))) := by
  refine run_rt rfl ?_
  show u_is_within [.dat (.int a), .dat (.int lo), .dat (.int hi)] = _
  unfold u_is_within
  refine oRet_ok ?_
  by_cases h : lo ≤ a
  · simp [fAndV, fIsi, fUn, fVarT, noDict, isiD, tyN, asB, fNotT, truD, fChain, leD, cmpI, h]
  · simp [fAndV, fIsi, fUn, fVarT, noDict, isiD, tyN, asB, fNotT, truD, fChain, leD, cmpI, h]
theorem power_eq (q : Int) (p : Nat) (hp : p < 100) (hq : -18446744073709551616 < q ∧ q < 18446744073709551616) : m_power [.int q, .int (p : Nat)] = dd (.int (q ^ p)) := by
  refine run_rt rfl ?_
  show u_power [.dat (.int q), .dat (.int (p : Nat)), .un, .un] = _
  unfold u_power
  rw [oSeq_nx (oSet_ok (d := .int 1) rfl)]
  show oSeq _ _ [.dat (.int q), .dat (.int (p : Nat)), .dat (.int 1), .un] = _
  obtain ⟨g', h1, x, h2⟩ := loopD_idx (t := gN 3) (body := oSet 2 (fBin mulD (fVarT 2) (fVarT 0))) (f := fun i : Nat => PyData.int (i : Nat)) (I := fun i g => ∃ x, g = [.dat (.int q), .dat (.int (p : Nat)), .dat (.int (q ^ i)), x]) (l := List.range p) (g := [.dat (.int q), .dat (.int (p : Nat)), .dat (.int 1), .un]) ⟨_, by rw [Int.pow_zero]⟩ (by
      intro j g i hj ⟨x, hg⟩
      subst hg
      obtain ⟨e, hi⟩ := range_get hj
      subst e
      refine ⟨_, _, rfl, .inl (oSet_ok (d := .int (q ^ i * q)) ?_), ⟨_, by rw [Int.pow_succ]; rfl⟩⟩
      show fBin mulD (fVarT 2) (fVarT 0) [.dat (.int q), .dat (.int (p : Nat)), .dat (.int (q ^ i)), .dat (.int (i : Nat))] = _
      rw [fBin_ok (x := .int (q ^ i)) (y := .int q) rfl rfl, mulD_int _ _ (.inr hq)])
  rw [List.length_range] at h2
  subst h2
  rw [oSeq_nx (g' := [.dat (.int q), .dat (.int (p : Nat)), .dat (.int (q ^ p)), x]) (by
    rw [oFor_ok (ds := (List.range p).map fun i : Nat => PyData.int (i : Nat)) (by
      rw [fUn_ok (x := .int (p : Nat)) rfl]
      exact rng1_nat p (by omega))]
    exact h1)]
  exact oRet_ok rfl
/-- what the program takes as a game -/
def okG (p : Nat) (q : Int) : Prop := 1 ≤ p ∧ p ≤ 5 ∧ 1 ≤ q ∧ q ≤ 8 ∧ q ^ p ≤ 300
theorem checked_eq (p : Nat) (q : Int) (h : okG p q) : m_checked_game [gD p q] = dd (gD p q) := by
  obtain ⟨h1, h2, h3, h4, h5⟩ := h
  refine run_rt rfl ?_
  show u_checked_game [.dat (gD p q)] = _
  unfold u_checked_game
  rw [oSeq_nx (g' := [.dat (gD p q)]) (by
    rw [oIf_f]
    · rfl
    · simp [fOr, fNot, fTru, fIsi, fUn, fVarT, noDict, isiD, tyN, truD, fB, fBin, lenD, fC, neD_int, asB])]
  have w1 : fCall m_is_within (fCons (fBin ixD (fVarT 0) (fC (.int 0))) (fCons (fC (.int 1)) (fCons (fC (.int 5)) fNil))) [.dat (gD p q)] = .ok (.bool true) := by
    rw [fCall_ok (ds := [.int p, .int 1, .int 5]) rfl (is_within_eq p 1 5)]
    simp [Ret.d]
    omega
  have w2 : fCall m_is_within (fCons (fBin ixD (fVarT 0) (fC (.int 1))) (fCons (fC (.int 1)) (fCons (fC (.int 8)) fNil))) [.dat (gD p q)] = .ok (.bool true) := by
    rw [fCall_ok (ds := [.int q, .int 1, .int 8]) rfl (is_within_eq q 1 8)]
    simp [Ret.d]
    omega
  have w3 : fCall m_power (fCons (fBin ixD (fVarT 0) (fC (.int 1))) (fCons (fBin ixD (fVarT 0) (fC (.int 0))) fNil)) [.dat (gD p q)] = .ok (.int (q ^ p)) :=
    fCall_ok (ds := [.int q, .int p]) rfl (power_eq q p (by omega) (by omega))
  rw [oSeq_nx (g' := [.dat (gD p q)]) (by
    rw [oIf_f]
    · rfl
    · unfold fOr
      rw [fNot_ok (fTru_ok w1), R.bind_ok]
      exact fNot_ok (fTru_ok w2))]
  rw [oSeq_nx (g' := [.dat (gD p q)]) (by
    rw [oIf_f]
    · rfl
    · refine fB_ok ?_
      rw [fBin_ok (y := .int 300) w3 rfl]
      simp [gtD, cmpI]
      exact h5)]
  exact oRet_ok rfl
def okC (p : Nat) (q : Int) (xs : List Int) : Prop := xs.length = p ∧ ∀ x ∈ xs, 0 ≤ x ∧ x < q
theorem is_code_eq {p : Nat} {q : Int} {xs : List Int} (h : okC p q xs) (hl : p ≤ 1000) : m_is_code [gD p q, ti xs] = dd (.bool true) := by
  obtain ⟨h1, h2⟩ := h
  refine run_rt rfl ?_
  show u_is_code [.dat (gD p q), .dat (ti xs), .un] = _
  unfold u_is_code
  rw [oSeq_nx (g' := [.dat (gD p q), .dat (ti xs), .un]) (by
    rw [oIf_f]
    · rfl
    · have z : atI [PyData.int (p : Nat), .int q] 0 = some (.int p) := rfl
      simp [fOr, fNot, fTru, fIsi, fUn, fVarT, noDict, isiD, tyN, truD, fB, fBin, lenD, fC, neD_int, asB, ixD, z, h1])]
  refine oRet_ok ?_
  have e1 : fLc [2] (fUn itD (fVar 1)) (gN 2) (fNot (fTru (fCall m_is_within (fCons (fVar 2) (fCons (fC (.int 0)) (fCons (fBin subD (fBin ixD (fVarT 0) (fC (.int 1))) (fC (.int 1))) fNil)))))) (fVar 2) [.dat (gD p q), .dat (ti xs), .un]
      = .ok ((xs.filter fun _ => false).map .int) := by
    refine fLc_map (f := PyData.int) rfl (by omega) fun x hx => ⟨_, rfl, ?_, fun z => by cases z⟩
    obtain ⟨a1, a2⟩ := h2 x hx
    have : fCall m_is_within (fCons (fVar 2) (fCons (fC (.int 0)) (fCons (fBin subD (fBin ixD (fVarT 0) (fC (.int 1))) (fC (.int 1))) fNil))) [.dat (gD p q), .dat (ti xs), .dat (.int x)] = .ok (.bool true) := by
      rw [fCall_ok (ds := [.int x, .int 0, .int (q - 1)]) rfl (is_within_eq x 0 (q - 1))]
      simp [Ret.d]
      omega
    exact fNot_ok (fTru_ok this)
  unfold fNotT
  rw [fL_ok e1]
  simp [truD]
theorem look_code_eq {p : Nat} {q : Int} {xs : List Int} (h : okC p q xs) (hl : p ≤ 1000) : m_look_code [gD p q, ti xs] = dd .none := by
  refine run_nx (g := [.dat (gD p q), .dat (ti xs)]) rfl ?_
  show u_look_code [.dat (gD p q), .dat (ti xs)] = _
  unfold u_look_code
  rw [oIf_f (fNot_ok (b := true) (fTru_ok (fCall_ok (r := .dat (.bool true)) (ds := [gD p q, ti xs]) rfl (is_code_eq h hl))))]
  rfl
abbrev ansD (xs ys : List Int) : D := ti [(ansP xs ys).1, (ansP xs ys).2]
theorem answer_eq {p : Nat} {q : Int} {xs ys : List Int} (hg : okG p q) (h1 : okC p q xs) (h2 : okC p q ys) : m_answer [gD p q, ti xs, ti ys] = dd (ansD xs ys) := by
  have hp : p ≤ 1000 := by have := hg.2.1; omega
  refine run_rt rfl ?_
  show u_answer [.dat (gD p q), .dat (ti xs), .dat (ti ys)] = _
  unfold u_answer
  rw [oSeq_nx (oEx_ok (fCall_ok (r := .dat (gD p q)) (ds := [gD p q]) rfl (checked_eq p q hg)))]
  rw [oSeq_nx (oEx_ok (fCall_ok (r := .dat .none) (ds := [gD p q, ti xs]) rfl (look_code_eq h1 hp)))]
  rw [oSeq_nx (oEx_ok (fCall_ok (r := .dat .none) (ds := [gD p q, ti ys]) rfl (look_code_eq h2 hp)))]
  exact oRet_ok (fCall_ok (r := .dat (ansD xs ys)) (ds := [ti xs, ti ys]) rfl (answered_law (by rw [h1.1, h2.1]) (by rw [h1.1]; have := hg.2.1; omega)))
theorem games_ok {p q : Int} (h : (p, q) ∈ games) : ∃ n : Nat, p = n ∧ okG n q := by
  simp only [games, List.mem_cons, Prod.mk.injEq, List.not_mem_nil, or_false] at h
  rcases h with ⟨rfl, rfl⟩ | ⟨rfl, rfl⟩ | ⟨rfl, rfl⟩ | ⟨rfl, rfl⟩ | ⟨rfl, rfl⟩ | ⟨rfl, rfl⟩ | ⟨rfl, rfl⟩ | ⟨rfl, rfl⟩ | ⟨rfl, rfl⟩
  · exact ⟨2, rfl, by unfold okG; decide⟩
  · exact ⟨3, rfl, by unfold okG; decide⟩
  · exact ⟨3, rfl, by unfold okG; decide⟩
  · exact ⟨2, rfl, by unfold okG; decide⟩
  · exact ⟨4, rfl, by unfold okG; decide⟩
  · exact ⟨1, rfl, by unfold okG; decide⟩
  · exact ⟨2, rfl, by unfold okG; decide⟩
  · exact ⟨3, rfl, by unfold okG; decide⟩
  · exact ⟨4, rfl, by unfold okG; decide⟩
end W
end

section
set_option Elab.async false
set_option linter.all false
set_option maxRecDepth 100000
set_option maxHeartbeats 4000000
/-! M8: all codes, asks, what fits. -/
namespace W
open PySem PyProof.Rows L2 G
/-! small data -/
def sm (d : D) (n : Nat) : Prop := d.plain = true ∧ d.depth ≤ n
theorem sm.fine {d : D} {n : Nat} (h : sm d n) (hn : n ≤ 60) : G.fine d = true := fine_iff.mpr ⟨h.1, Nat.le_trans h.2 hn⟩
theorem sm.mono {d : D} {n m : Nat} (h : sm d n) (hn : n ≤ m) : sm d m := ⟨h.1, Nat.le_trans h.2 hn⟩
theorem sm_int (i : Int) : sm (.int i) 1 := ⟨by simp [PyData.plain], by simp [PyData.depth]⟩
theorem plainAll_of : ∀ {ds : List D}, (∀ d ∈ ds, d.plain = true) → PyData.plainAll ds = true
  | [], _ => by simp [PyData.plainAll]
  | d :: ds, h => by
    simp only [PyData.plainAll]
    rw [h d (List.mem_cons_self ..), plainAll_of fun x hx => h x (List.mem_cons_of_mem _ hx)]
    rfl
theorem depthAll_of {n : Nat} : ∀ {ds : List D}, (∀ d ∈ ds, d.depth ≤ n) → PyData.depthAll ds ≤ n
  | [], _ => by simp [PyData.depthAll]
  | d :: ds, h => by
    have h1 := h d (List.mem_cons_self ..)
    have h2 := depthAll_of (n := n) (ds := ds) fun x hx => h x (List.mem_cons_of_mem _ hx)
    simp [PyData.depthAll]
    omega
theorem sm_tup {ds : List D} {n : Nat} (h : ∀ d ∈ ds, sm d n) : sm (.tuple ds) (n + 1) := by
  have h2 := depthAll_of (n := n) (ds := ds) fun d hd => (h d hd).2
  exact ⟨by simp [PyData.plain, plainAll_of fun d hd => (h d hd).1], by simp [PyData.depth]; omega⟩
theorem sm_list {ds : List D} {n : Nat} (h : ∀ d ∈ ds, sm d n) : sm (.list ds) (n + 1) := by
  have h2 := depthAll_of (n := n) (ds := ds) fun d hd => (h d hd).2
  exact ⟨by simp [PyData.plain, plainAll_of fun d hd => (h d hd).1], by simp [PyData.depth]; omega⟩
theorem sm_ti (xs : List Int) : sm (ti xs) 2 := sm_tup fun d hd => by
  obtain ⟨i, _, rfl⟩ := List.mem_map.mp hd
  exact sm_int i
theorem eqD_sm {x y : D} {n m : Nat} (h1 : sm x n) (h2 : sm y m) (hn : n ≤ 60) (hm : m ≤ 60) : eqD x y = .ok (.bool (PyData.eqv x y)) := by
  unfold eqD
  rw [h1.fine hn, h2.fine hm]
  rfl
theorem neD_sm {x y : D} {n m : Nat} (h1 : sm x n) (h2 : sm y m) (hn : n ≤ 60) (hm : m ≤ 60) : neD x y = .ok (.bool (!PyData.eqv x y)) := by
  unfold neD
  rw [h1.fine hn, h2.fine hm]
  rfl
theorem eqvAll_map {α : Type} [BEq α] {f : α → D} (h : ∀ a b, PyData.eqv (f a) (f b) = (a == b)) : ∀ xs ys : List α, PyData.eqvAll (xs.map f) (ys.map f) = (xs == ys)
  | [], [] => by simp [PyData.eqvAll]
  | [], _ :: _ => by simp [PyData.eqvAll]
  | _ :: _, [] => by simp [PyData.eqvAll]
  | x :: xs, y :: ys => by
    simp [PyData.eqvAll, h, eqvAll_map h xs ys]
theorem eqv_list_map {α : Type} [BEq α] {f : α → D} (h : ∀ a b, PyData.eqv (f a) (f b) = (a == b)) (xs ys : List α) : PyData.eqv (.list (xs.map f)) (.list (ys.map f)) = (xs == ys) := by
  simp [PyData.eqv, eqvAll_map h]
abbrev cl (cs : List (List Int)) : D := .list (cs.map ti)
theorem sm_cl (cs : List (List Int)) : sm (cl cs) 3 := sm_list fun d hd => by
  obtain ⟨i, _, rfl⟩ := List.mem_map.mp hd
  exact sm_ti i
theorem eqv_cl (xs ys : List (List Int)) : PyData.eqv (cl xs) (cl ys) = (xs == ys) := eqv_list_map eqv_ti xs ys
/-! all codes -/
def more (cs : List (List Int)) (q : Nat) : List (List Int) := cs.flatMap fun c => (List.range q).map fun x : Nat => c ++ [(x : Int)]
def codes : Nat → Nat → List (List Int)
  | 0, _ => [[]]
  | p + 1, q => more (codes p q) q
theorem more_len (cs : List (List Int)) (q : Nat) : (more cs q).length = cs.length * q := by
  unfold more
  induction cs with
  | nil => simp
  | cons c cs ih =>
    rw [List.flatMap_cons, List.length_append, ih, List.length_map, List.length_range, List.length_cons, Nat.succ_mul, Nat.add_comm]
theorem codes_len (q : Nat) : ∀ p : Nat, (codes p q).length = q ^ p
  | 0 => rfl
  | p + 1 => by
    unfold codes
    rw [more_len, codes_len q p, Nat.pow_succ]
theorem codes_mem (q : Nat) : ∀ (p : Nat) (c : List Int), c ∈ codes p q ↔ okC p q c
  | 0, c => by
    unfold codes okC
    constructor
    · intro h
      rw [List.mem_singleton] at h
      subst h
      exact ⟨rfl, fun x hx => by cases hx⟩
    · intro h
      rw [List.length_eq_zero_iff.mp h.1]
      exact List.mem_singleton_self _
  | p + 1, c => by
    show c ∈ more (codes p q) q ↔ _
    unfold more
    rw [List.mem_flatMap]
    constructor
    · rintro ⟨b, hb, hc⟩
      obtain ⟨x, hx, rfl⟩ := List.mem_map.mp hc
      obtain ⟨h1, h2⟩ := (codes_mem q p b).mp hb
      refine ⟨by simp [h1], fun y hy => ?_⟩
      rcases List.mem_append.mp hy with h3 | h3
      · exact h2 y h3
      · rw [List.mem_singleton] at h3
        subst h3
        have := List.mem_range.mp hx
        omega
    · rintro ⟨h1, h2⟩
      have hne : c ≠ [] := fun z => by rw [z] at h1; cases h1
      refine ⟨c.dropLast, (codes_mem q p _).mpr ⟨by simp [h1], fun x hx => h2 x ((List.dropLast_sublist c).subset hx)⟩, List.mem_map.mpr ⟨(c.getLast hne).toNat, ?_, ?_⟩⟩
      · have := h2 _ (List.getLast_mem hne)
        rw [List.mem_range]
        omega
      · have := h2 _ (List.getLast_mem hne)
        rw [show ((c.getLast hne).toNat : Int) = c.getLast hne by omega]
        exact List.dropLast_concat_getLast hne
theorem longer_eq (cs : List (List Int)) (q : Nat) (h : cs.length * q ≤ 1000) (hq : q ≤ 1000) (hc : cs.length ≤ 1000) (hl : ∀ c ∈ cs, c.length ≤ 1000) : m_longer [cl cs, .int (q : Nat)] = .ok (.own ((more cs q).map ti)) := by
  have key : ∀ (l : List (List Int)) (acc : List (List Int)) (x : Sl), (acc.length + l.length * q ≤ 1000) → (∀ c ∈ l, c.length ≤ 1000) → ∃ x', loopD (gN 3) (oOwn 2 (fL (fLc [4] (fUn rng1 (fVarT 1)) (gN 4) tYesD (fBin addD (fVarT 3) (fTup (fCons (fVar 4) fNil))))) extF) (l.map ti) [.dat (cl cs), .dat (.int (q : Nat)), .lst (acc.map ti), x, .un]
      = .nx [.dat (cl cs), .dat (.int (q : Nat)), .lst ((acc ++ more l q).map ti), x', .un] := by
    intro l
    induction l with
    | nil => intro acc x _ _; exact ⟨x, by simp [more, loopD]⟩
    | cons c l ih =>
      intro acc x hb hl2
      rw [List.length_cons, Nat.succ_mul] at hb
      have e1 : fLc [4] (fUn rng1 (fVarT 1)) (gN 4) tYesD (fBin addD (fVarT 3) (fTup (fCons (fVar 4) fNil))) [.dat (cl cs), .dat (.int (q : Nat)), .lst (acc.map ti), .dat (ti c), .un]
          = .ok ((List.range q).map fun x : Nat => ti (c ++ [(x : Int)])) := by
        refine fLc_all (f := fun x : Nat => PyData.int (x : Nat)) (by rw [fUn_ok (x := .int (q : Nat)) rfl]; exact rng1_nat q (by omega)) (by simp; omega) fun y hy => ⟨_, rfl, ?_⟩
        have := hl2 c (List.mem_cons_self ..)
        rw [fBin_ok (x := ti c) (y := .tuple [.int (y : Nat)]) rfl rfl]
        rw [addD_tup _ _ (by simp; omega)]
        simp
      obtain ⟨x', h2⟩ := ih (acc ++ (List.range q).map fun x : Nat => c ++ [(x : Int)]) (.dat (ti c)) (by simp; omega) (fun c hc => hl2 c (List.mem_cons_of_mem _ hc))
      refine ⟨x', ?_⟩
      rw [List.map_cons]
      rw [loopD_nx (g1 := [.dat (cl cs), .dat (.int (q : Nat)), .lst (acc.map ti), .dat (ti c), .un]) (g2 := [.dat (cl cs), .dat (.int (q : Nat)), .lst ((acc ++ (List.range q).map fun x : Nat => c ++ [(x : Int)]).map ti), .dat (ti c), .un]) rfl
        (oOwn_ok (ds := acc.map ti) (a := PyData.list ((List.range q).map fun x : Nat => ti (c ++ [(x : Int)]))) (ds' := (acc ++ (List.range q).map fun x : Nat => c ++ [(x : Int)]).map ti) rfl (fL_ok e1) (by
        rw [extF_ok _ _ (by simp; omega), List.map_append, List.map_map]
        rfl))]
      rw [h2]
      simp [more]
  obtain ⟨x', h1⟩ := key cs [] .un (by simp; exact h) hl
  refine run_rl rfl ?_
  show u_longer [.dat (cl cs), .dat (.int (q : Nat)), .un, .un, .un] = _
  unfold u_longer
  rw [oSeq_nx (oSetO_ok (d := []) rfl)]
  rw [oSeq_nx (g' := [.dat (cl cs), .dat (.int (q : Nat)), .lst ((more cs q).map ti), x', .un]) (by
    rw [oFor_ok (ds := cs.map ti) rfl]
    exact h1)]
  rfl
theorem pow_le {p q n : Nat} (h : q ^ p ≤ 300) (hq : 1 ≤ q) (hn : n ≤ p) : q ^ n ≤ 300 := Nat.le_trans (Nat.pow_le_pow_right hq hn) h
theorem listed_eq (p q : Nat) (hp : p ≤ 5) (hq : 1 ≤ q) (hq8 : q ≤ 8) (h : q ^ p ≤ 300) : m_listed [gD p q] = dd (cl (codes p q)) := by
  obtain ⟨g', h1, x, h2⟩ := loopD_idx (t := gN 2) (body := oSet 1 (fCall m_longer (fCons (fVar 1) (fCons (fBin ixD (fVarT 0) (fC (.int 1))) fNil)))) (f := fun i : Nat => PyData.int (i : Nat)) (I := fun i g => ∃ x, g = [.dat (gD p q), .dat (cl (codes i q)), x]) (l := List.range p) (g := [.dat (gD p q), .dat (cl (codes 0 q)), .un]) ⟨_, rfl⟩ (by
      intro j g i hj ⟨x, hg⟩
      subst hg
      obtain ⟨e, hi⟩ := range_get hj
      subst e
      have hb := pow_le h hq (n := i) (by omega)
      have hb2 := pow_le h hq (n := i + 1) (by omega)
      refine ⟨_, _, rfl, .inl (oSet_ok (d := cl (codes (i + 1) q)) (fCall_ok (r := .own ((codes (i + 1) q).map ti)) (ds := [cl (codes i q), .int (q : Nat)]) rfl ?_)), ⟨_, rfl⟩⟩
      exact longer_eq (codes i q) q (by rw [codes_len]; rw [Nat.pow_succ] at hb2; omega) (by omega) (by rw [codes_len]; omega) (fun c hc => by rw [((codes_mem q i c).mp hc).1]; omega))
  rw [List.length_range] at h2
  subst h2
  refine run_rt rfl ?_
  show u_listed [.dat (gD p q), .un, .un] = _
  unfold u_listed
  rw [oSeq_nx (oSet_ok (d := cl (codes 0 q)) rfl)]
  rw [oSeq_nx (g' := [.dat (gD p q), .dat (cl (codes p q)), x]) (by
    rw [oFor_ok (ds := (List.range p).map fun i : Nat => PyData.int (i : Nat)) (by
      rw [fUn_ok (x := .int p) rfl]
      exact rng1_nat p (by omega))]
    exact h1)]
  exact oRet_ok rfl
end W
end

section
set_option Elab.async false
set_option linter.all false
set_option maxRecDepth 100000
set_option maxHeartbeats 4000000
/-! L15: the least names. -/
namespace W
open PySem PyProof.Rows L2 G
def unK : D → Int
  | .tuple [_, .int v] => v
  | _ => 0
def sortK' (xs ys : List Int) : List Int := (srt (ys.map (keyD xs))).map unK
theorem sortK_eq (xs ys : List Int) : sortK xs ys = sortK' xs ys := by
  unfold sortK sortK'
  rw [← srt_eq, ← List.map_mergeSort (f := keyD xs) (r := PySem.W.dataLe false (keyD xs)) (s := PySem.W.dataLe false id) (fun a _ b _ => rfl), List.map_map]
  conv => lhs; rw [← List.map_id (ys.mergeSort _)]
  apply List.map_congr_left
  intro a _
  rfl
def lgF' (xs : List Int) : List Int := lgR xs (sortK' xs (sortU xs))
theorem lgF_eq (xs : List Int) : lgF xs = lgF' xs := by
  unfold lgF lgF'
  rw [sortK_eq]
def tI : D → Option (List Int)
  | .tuple ds => intsOf ds
  | _ => none
theorem tI_some {d : D} {ns : List Int} (h : tI d = some ns) : d = ti ns := by
  unfold tI at h
  split at h
  · rw [intsOf_eq h]
  · cases h
def rowsI : Option Sl → Option (List Int)
  | some (.lst rows) => (match minA (.list rows) with
    | .ok m => tI m
    | _ => none)
  | _ => none
theorem rowsI_some {o : Option Sl} {ns : List Int} (h : rowsI o = some ns) : ∃ rows, o = some (.lst rows) ∧ minA (.list rows) = .ok (ti ns) := by
  unfold rowsI at h
  split at h
  · rename_i rows
    split at h
    · rename_i m e
      exact ⟨rows, rfl, by rw [e, tI_some h]⟩
    · cases h
  · cases h
/-- one code of a game -/
def rowsOk (cs : List Int) (p : Nat) (q : Int) : Out → Bool
  | .nx g => decide (slT g[1]? = some [(p : Int), q]) && decide (slT g[2]? = some cs) && decide (g.length = 9) && decide (rowsI g[3]? = some (lgF' cs))
  | _ => false
theorem rowsOk_nx {cs : List Int} {p : Nat} {q : Int} {o : Out} (h : rowsOk cs p q o = true) : ∃ g, o = .nx g ∧ slT g[1]? = some [(p : Int), q] ∧ slT g[2]? = some cs ∧ g.length = 9 ∧ rowsI g[3]? = some (lgF' cs) := by
  cases o with
  | nx g =>
    unfold rowsOk at h
    simp only [Bool.and_eq_true, decide_eq_true_iff] at h
    exact ⟨g, rfl, h.1.1.1, h.1.1.2, h.1.2, h.2⟩
  | _ => cases h
def g0K (p : Nat) (q : Int) (cs : List Int) : Sg := [.un, .dat (gD p q), .dat (ti cs), .lst [], .un, .un, .un, .un, .un]
def okK (p : Nat) (q : Int) (cs : List Int) : Bool :=
  rowsOk cs p q (u4_k15 (g0K p q cs)) && decide (lgF' (lgF' cs) = lgF' cs) && decide (lgF' cs.reverse = lgF' cs) && decide ((lgF' cs).length = p) && (lgF' cs).all fun x => decide (0 ≤ x) && decide (x < q)
def games8 : List (Nat × Nat) := [(2, 3), (3, 2), (3, 3), (2, 4), (4, 2), (1, 5), (2, 5), (5, 2)]
theorem t1 : (codes 2 3).all (okK 2 3) = true := by decide +kernel
theorem t2 : (codes 3 2).all (okK 3 2) = true := by decide +kernel
theorem t3 : (codes 3 3).all (okK 3 3) = true := by decide +kernel
theorem t4 : (codes 2 4).all (okK 2 4) = true := by decide +kernel
theorem t5 : (codes 4 2).all (okK 4 2) = true := by decide +kernel
theorem t6 : (codes 1 5).all (okK 1 5) = true := by decide +kernel
theorem t7 : (codes 2 5).all (okK 2 5) = true := by decide +kernel
theorem v0 : okK 5 2 [0, 0, 0, 0, 0] = true := by decide +kernel
theorem v1 : okK 5 2 [0, 0, 0, 0, 1] = true := by decide +kernel
theorem v2 : okK 5 2 [0, 0, 0, 1, 0] = true := by decide +kernel
theorem v3 : okK 5 2 [0, 0, 0, 1, 1] = true := by decide +kernel
theorem v4 : okK 5 2 [0, 0, 1, 0, 0] = true := by decide +kernel
theorem v5 : okK 5 2 [0, 0, 1, 0, 1] = true := by decide +kernel
theorem v6 : okK 5 2 [0, 0, 1, 1, 0] = true := by decide +kernel
theorem v7 : okK 5 2 [0, 0, 1, 1, 1] = true := by decide +kernel
theorem v8 : okK 5 2 [0, 1, 0, 0, 0] = true := by decide +kernel
theorem v9 : okK 5 2 [0, 1, 0, 0, 1] = true := by decide +kernel
theorem v10 : okK 5 2 [0, 1, 0, 1, 0] = true := by decide +kernel
theorem v11 : okK 5 2 [0, 1, 0, 1, 1] = true := by decide +kernel
theorem v12 : okK 5 2 [0, 1, 1, 0, 0] = true := by decide +kernel
theorem v13 : okK 5 2 [0, 1, 1, 0, 1] = true := by decide +kernel
theorem v14 : okK 5 2 [0, 1, 1, 1, 0] = true := by decide +kernel
theorem v15 : okK 5 2 [0, 1, 1, 1, 1] = true := by decide +kernel
theorem v16 : okK 5 2 [1, 0, 0, 0, 0] = true := by decide +kernel
theorem v17 : okK 5 2 [1, 0, 0, 0, 1] = true := by decide +kernel
theorem v18 : okK 5 2 [1, 0, 0, 1, 0] = true := by decide +kernel
theorem v19 : okK 5 2 [1, 0, 0, 1, 1] = true := by decide +kernel
theorem v20 : okK 5 2 [1, 0, 1, 0, 0] = true := by decide +kernel
theorem v21 : okK 5 2 [1, 0, 1, 0, 1] = true := by decide +kernel
theorem v22 : okK 5 2 [1, 0, 1, 1, 0] = true := by decide +kernel
theorem v23 : okK 5 2 [1, 0, 1, 1, 1] = true := by decide +kernel
theorem v24 : okK 5 2 [1, 1, 0, 0, 0] = true := by decide +kernel
theorem v25 : okK 5 2 [1, 1, 0, 0, 1] = true := by decide +kernel
theorem v26 : okK 5 2 [1, 1, 0, 1, 0] = true := by decide +kernel
theorem v27 : okK 5 2 [1, 1, 0, 1, 1] = true := by decide +kernel
theorem v28 : okK 5 2 [1, 1, 1, 0, 0] = true := by decide +kernel
theorem v29 : okK 5 2 [1, 1, 1, 0, 1] = true := by decide +kernel
theorem v30 : okK 5 2 [1, 1, 1, 1, 0] = true := by decide +kernel
theorem v31 : okK 5 2 [1, 1, 1, 1, 1] = true := by decide +kernel
theorem t8_list : codes 5 2 = [[0, 0, 0, 0, 0], [0, 0, 0, 0, 1], [0, 0, 0, 1, 0], [0, 0, 0, 1, 1], [0, 0, 1, 0, 0], [0, 0, 1, 0, 1], [0, 0, 1, 1, 0], [0, 0, 1, 1, 1], [0, 1, 0, 0, 0], [0, 1, 0, 0, 1], [0, 1, 0, 1, 0], [0, 1, 0, 1, 1], [0, 1, 1, 0, 0], [0, 1, 1, 0, 1], [0, 1, 1, 1, 0], [0, 1, 1, 1, 1], [1, 0, 0, 0, 0], [1, 0, 0, 0, 1], [1, 0, 0, 1, 0], [1, 0, 0, 1, 1], [1, 0, 1, 0, 0], [1, 0, 1, 0, 1], [1, 0, 1, 1, 0], [1, 0, 1, 1, 1], [1, 1, 0, 0, 0], [1, 1, 0, 0, 1], [1, 1, 0, 1, 0], [1, 1, 0, 1, 1], [1, 1, 1, 0, 0], [1, 1, 1, 0, 1], [1, 1, 1, 1, 0], [1, 1, 1, 1, 1]] := by decide +kernel
theorem t8 : (codes 5 2).all (okK 5 2) = true := by
  rw [t8_list]
  simp only [List.all_cons, List.all_nil, v0, v1, v2, v3, v4, v5, v6, v7, v8, v9, v10, v11, v12, v13, v14, v15, v16, v17, v18, v19, v20, v21, v22, v23, v24, v25, v26, v27, v28, v29, v30, v31, Bool.and_self, Bool.and_true]
theorem tab8 : ∀ g ∈ games8, (codes g.1 g.2).all (okK g.1 g.2) = true := by
  intro g hg
  simp only [games8, List.mem_cons, List.not_mem_nil, or_false] at hg
  rcases hg with rfl | rfl | rfl | rfl | rfl | rfl | rfl | rfl
  · exact t1
  · exact t2
  · exact t3
  · exact t4
  · exact t5
  · exact t6
  · exact t7
  · exact t8
theorem games8_ok : ∀ g ∈ games8, okG g.1 ((g.2 : Nat) : Int) := by
  intro g hg
  simp only [games8, List.mem_cons, List.not_mem_nil, or_false] at hg
  rcases hg with rfl | rfl | rfl | rfl | rfl | rfl | rfl | rfl <;> (unfold okG; decide)
theorem u1_eq (ns : List Int) : ∃ g ∈ games8, u1_k15 (initS 9 [scrD ns]) = .nx [.dat (scrD ns), .dat (gD g.1 ((g.2 : Nat) : Int)), .un, .un, .un, .un, .un, .un, .un] := by
  have hb : 0 ≤ cell ns 0 % 8 ∧ cell ns 0 % 8 < 8 := ⟨Int.emod_nonneg _ (by decide), Int.emod_lt_of_pos _ (by decide)⟩
  have hc : fCall m_law_cell (fCons (fVar 0) (fCons (fC (.int 0)) fNil)) (initS 9 [scrD ns]) = .ok (.int (cell ns 0)) := fCall_ok (ds := [scrD ns, .int (0 : Nat)]) rfl (cell_eq ns 0)
  have hm : fBin modD (fCall m_law_cell (fCons (fVar 0) (fCons (fC (.int 0)) fNil))) (fC (.int 8)) (initS 9 [scrD ns]) = .ok (.int (cell ns 0 % 8)) := by
    rw [fBin_ok (y := .int 8) hc rfl]
    rfl
  obtain ⟨k, hk, e⟩ : ∃ k : Nat, k < 8 ∧ cell ns 0 % 8 = (k : Int) := ⟨(cell ns 0 % 8).toNat, by omega, by omega⟩
  rw [e] at hm
  unfold u1_k15
  have key : ∀ k : Nat, k < 8 → ∃ g ∈ games8, atI [gD 2 3, gD 3 2, gD 3 3, gD 2 4, gD 4 2, gD 1 5, gD 2 5, gD 5 2] (k : Int) = some (gD g.1 ((g.2 : Nat) : Int)) := fun k hk => by
    match k, hk with
    | 0, _ => exact ⟨(2, 3), by decide, rfl⟩
    | 1, _ => exact ⟨(3, 2), by decide, rfl⟩
    | 2, _ => exact ⟨(3, 3), by decide, rfl⟩
    | 3, _ => exact ⟨(2, 4), by decide, rfl⟩
    | 4, _ => exact ⟨(4, 2), by decide, rfl⟩
    | 5, _ => exact ⟨(1, 5), by decide, rfl⟩
    | 6, _ => exact ⟨(2, 5), by decide, rfl⟩
    | 7, _ => exact ⟨(5, 2), by decide, rfl⟩
    | k + 8, h => omega
  obtain ⟨g, hg, eg⟩ := key k hk
  refine ⟨g, hg, oSet_ok (d := gD g.1 ((g.2 : Nat) : Int)) ?_⟩
  rw [fBin_ok (x := .list [gD 2 3, gD 3 2, gD 3 3, gD 2 4, gD 4 2, gD 1 5, gD 2 5, gD 5 2]) rfl hm]
  show R.ofO (atI [gD 2 3, gD 3 2, gD 3 3, gD 2 4, gD 4 2, gD 1 5, gD 2 5, gD 5 2] (k : Int)) = _
  rw [eg]
  rfl
theorem u2_eq (ns : List Int) {p q : Nat} (h : okG p ((q : Nat) : Int)) : u2_k15 [.dat (scrD ns), .dat (gD p q), .un, .un, .un, .un, .un, .un, .un] = .nx [.dat (scrD ns), .dat (gD p q), .dat (ti (codeI p q (cell ns 1))), .un, .un, .un, .un, .un, .un] := by
  have hc : fCall m_law_cell (fCons (fVar 0) (fCons (fC (.int 1)) fNil)) [.dat (scrD ns), .dat (gD p q), .un, .un, .un, .un, .un, .un, .un] = .ok (.int (cell ns 1)) := fCall_ok (ds := [scrD ns, .int (1 : Nat)]) rfl (cell_eq ns 1)
  unfold u2_k15
  refine oSet_ok (d := ti (codeI p q (cell ns 1))) ?_
  refine fCall_ok (r := .dat (ti (codeI p q (cell ns 1)))) (ds := [gD p q, .int (cell ns 1)]) ?_ (code_eq p q (cell ns 1) (by have := h.2.1; omega) (by have := h.2.2.1; omega))
  show ((fCall m_law_cell (fCons (fVar 0) (fCons (fC (.int 1)) fNil)) [.dat (scrD ns), .dat (gD p q), .un, .un, .un, .un, .un, .un, .un]).bind fun x => ((R.ok []).bind fun xs => R.ok (x :: xs))).bind (fun xs => R.ok (gD p q :: xs)) = _
  rw [hc]
  rfl
theorem u3_eq (a : D) (b c : D) : u3_k15 [.dat a, .dat b, .dat c, .un, .un, .un, .un, .un, .un] = .nx [.dat a, .dat b, .dat c, .lst [], .un, .un, .un, .un, .un] := rfl
theorem law_ok : ∀ ns : List Int, ns.length ≤ 63 → ∃ d0 cs rows, LawOk u1_k15 u2_k15 u3_k15 u4_k15 u6_k15 m_checked_game m_look_code d0 cs rows ns := fun ns _ => by
  obtain ⟨⟨p, q⟩, hg, e1⟩ := u1_eq ns
  have ok := games8_ok _ hg
  have e2 := u2_eq ns ok
  have hq : (0 : Int) < (q : Int) := by have := ok.2.2.1; exact this
  have hp : p ≤ 5 := ok.2.1
  obtain ⟨cs, ec⟩ : ∃ cs, cs = codeI p q (cell ns 1) := ⟨_, rfl⟩
  rw [← ec] at e2
  have hcs : okC p q cs := by
    rw [ec]
    exact ⟨codeI_len .., fun x hx => codeI_in hq hx⟩
  have hk := List.all_eq_true.mp (tab8 _ hg) cs ((codes_mem q p cs).mpr hcs)
  unfold okK at hk
  simp only [Bool.and_eq_true, decide_eq_true_iff] at hk
  obtain ⟨⟨⟨⟨h1, h2⟩, h3⟩, h4⟩, h5⟩ := hk
  obtain ⟨g4, e4, x1, x2, x3, x4⟩ := rowsOk_nx h1
  obtain ⟨rows, x5, x6⟩ := rowsI_some x4
  have hl : okC p q (lgF cs) := by
    rw [lgF_eq]
    refine ⟨h4, fun x hx => ?_⟩
    have := List.all_eq_true.mp h5 x hx
    simpa using this
  have hr : okC p q cs.reverse := ⟨by rw [List.length_reverse]; exact hcs.1, fun x hx => hcs.2 x (List.mem_reverse.mp hx)⟩
  have e6 : u6_k15 (st6 (gD p q) cs rows) = .nx (st6 (gD p q) cs rows) := by
    unfold u6_k15
    rw [oIf_f]
    · rfl
    · have i1 : fNot (fTru (fIsi "tuple" (fVarT 8))) (st6 (gD p q) cs rows) = .ok false := by
        refine fNot_ok (b := true) (fTru_ok ?_)
        rw [isi_ok "tuple" (ti (lgF cs)) _ _ rfl (by simp [noDict])]
        simp [isiD, tyN]
      have i2 : fB (fBin neD (fVarT 8) (fUn minA (fVarT 3))) (st6 (gD p q) cs rows) = .ok false := by
        refine fB_ok ?_
        rw [fBin_ok (x := ti (lgF cs)) (y := ti (lgF' cs)) rfl (by rw [fUn_ok (x := .list rows) rfl]; exact x6), neD_ti, lgF_eq]
        simp
      unfold fOr
      rw [i1]
      exact i2
  refine ⟨gD p q, cs, rows, ⟨_, _, _, g4, e1, e2, u3_eq _ _ _, e4, slT_some x1, slT_some x2, x5, x3⟩, ⟨_, checked_eq p q ok⟩, ⟨_, look_code_eq hcs (by omega)⟩, ⟨_, look_code_eq hl (by omega)⟩, ⟨_, look_code_eq hr (by omega)⟩, by have := hcs.1; omega, by have := hl.1; omega, by rw [lgF_eq, lgF_eq]; exact h2, by rw [lgF_eq, lgF_eq]; exact h3, e6⟩
end W
end
open PySem PySem.W PyProof.Rows
set_option Elab.async false
set_option maxRecDepth 100000 in
set_option maxHeartbeats 0 in
theorem PySem.Challenge.cw_guesscode_k15_least_names_holds : PySem.Challenge.rw_guesscode_k15_least_names.Holds := by
  w_on; o_law; k_head; (case hw => w_witness2)
  k_fill
  refine LamX.walk_ofTs (l := PySem.Challenge.rw_guesscode_k15_least_names) (n := 63) (k := 5) (x := "_law_script") (CX := fun w => L2.CX PySem.Challenge.pw_guesscode_k15_least_names w) rfl (by decide) rfl ⟨rfl, by decide, by decide⟩ (fun w h Y => PySem.W.km_in_of Y) ?F (fun _ _ _ _ _ h => G.cx_end h)
  case F =>
    intro w mg fa h Y KX G hmg
    have hT8 := PySem.W.km_tabs_of Y
    refine' _root_.G.law_at (PT := ?PT) (c := ?c) (W.all_mk KX G hmg ?a0 ?l0 ?c0 ?k0 ?a1 ?l1 ?c1 ?k1 ?a2 ?l2 ?c2 ?k2 ?a3 ?l3 ?c3 ?k3 ?a4 ?l4 ?c4 ?k4 ?a5 ?l5 ?c5 ?k5 ?a6 ?l6 ?c6 ?k6 ?a7 ?l7 ?c7 ?k7 ?a8 ?l8 ?c8 ?k8 ?a9 ?l9 ?c9 ?k9 ?a10 ?l10 ?c10 ?k10 ?ca2 ?ca1 ?ck2 ?cq2 ?ce2 ?ct2k ?ck1 ?cq1 ?ce1 ?ct1k ?z_ValueError ?z_len ?z_tuple ?z_list ?z_isinstance ?z_int ?z_bool ?z_str ?z_range ?z_sum ?z_min ?z_max ?z_sorted ?z_set ?z_enumerate ?z_zip ?g_MOST_CODES ?g_MOST_COLOURS ?g_MOST_PLACES W.law_ok) ?t1 ?t2 KX ?t3
    (case t1 => exact hT8 _ (List.mem_cons_self ..)); (case a0 => k_is); (case l0 => k_is); (case c0 => k_is); (case k0 => k_is); (case a1 => k_is); (case l1 => k_is); (case c1 => k_is); (case k1 => k_is); (case a2 => k_is); (case l2 => k_is); (case c2 => k_is); (case k2 => k_is); (case a3 => k_is); (case l3 => k_is); (case c3 => k_is); (case k3 => k_is); (case a4 => k_is); (case l4 => k_is); (case c4 => k_is); (case k4 => k_is); (case a5 => k_is); (case l5 => k_is); (case c5 => k_is); (case k5 => k_is); (case a6 => k_is); (case l6 => k_is); (case c6 => k_is); (case k6 => k_is); (case a7 => k_is); (case l7 => k_is); (case c7 => k_is); (case k7 => k_is); (case a8 => k_is); (case l8 => k_is); (case c8 => k_is); (case k8 => k_is); (case a9 => k_is); (case l9 => k_is); (case c9 => k_is); (case k9 => k_is); (case a10 => k_is); (case l10 => k_is); (case c10 => k_is); (case k10 => k_is); (case ca2 => k_is); (case ca1 => k_is); (case ck2 => k_is); (case cq2 => k_exc); (case ce2 => k_is); (case ct2k => k_is); (case ck1 => k_is); (case cq1 => k_exc); (case ce1 => k_is); (case ct1k => k_is); (case z_ValueError => k_is); (case z_len => k_is); (case z_tuple => k_is); (case z_list => k_is); (case z_isinstance => k_is); (case z_int => k_is); (case z_bool => k_is); (case z_str => k_is); (case z_range => k_is); (case z_sum => k_is); (case z_min => k_is); (case z_max => k_is); (case z_sorted => k_is); (case z_set => k_is); (case z_enumerate => k_is); (case z_zip => k_is); (case g_MOST_CODES => k_is); (case g_MOST_COLOURS => k_is); (case g_MOST_PLACES => k_is); (case t2 => kernel_rfl); (case t3 => kernel_rfl)
