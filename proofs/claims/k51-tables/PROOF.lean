import PyProof.Rows.All
import Wide.All
import OpenK.AllK
import Wide.FinOn
import HandS.ForMost
import HandS.ForExc
import HandS.SortInts
import HandS.TupSets
import HandS.SetFor
import HandS.Strs
import HandS.IsInst
import HandS.Walk
import HandS.Remove
import HandS.ExcIs
import HandS.Deep
import HandS.TupAny
import HandS.TupMul
import HandS.Conv
import HandS.Style
import KE.KTupSum
import KE.GoesEnum
import KE.SortData
import HandS.TupLe
import HandS.HotCalls
import HandS.SuiteRaise
import HandS.Zip
import HandS.StrSplit
import PyProof.ZipIter
import KE.Datum
import KE.KIndexOf
import HandS.CallSlots
import HandS.OwnEq
import HandS.Codes
import OpenK.KOps
import PySem.Challenge.RW_twosheap_k51_tables_by_hand
set_option Elab.async false
set_option linter.all false
set_option maxRecDepth 100000
set_option maxHeartbeats 2000000
set_option autoImplicit false
/-! tuples that are known to bear no dict: made so, kept so -/
namespace HL
open PySem PySem.Spec PyProof.Rows L2
/-- the tuple at a, known as an object without a dict -/
def TupM (H : Hp) (a : Addr) (xs : List V) : Prop := ∃ o : Obj, H a = some (.frz o (.tup xs)) ∧ o.cls = .type "tuple" ∧ o.dict = none
theorem TupM.mono {H H' : Hp} {a : Addr} {xs : List V} (h : TupM H a xs) (e : Same H H') : TupM H' a xs := by
  obtain ⟨o, h1, h2, h3⟩ := h
  exact ⟨o, e _ _ h1, h2, h3⟩
theorem TupM.seq {K : PySem.W.Frag} {H : Hp} {a : Addr} {xs : List V} (h : TupM H a xs) : SqT K H a xs := by
  obtain ⟨o, h1, _⟩ := h
  exact .inl (.inr ⟨o, h1⟩)
theorem TupM.not_lst {H : Hp} {a : Addr} {xs ys : List V} (h : TupM H a xs) (h' : H a = some (.lst ys)) : False := by
  obtain ⟨o, h1, _⟩ := h
  rw [h1] at h'; cases h'
theorem TupM.not_none {H : Hp} {a : Addr} {xs : List V} (h : TupM H a xs) (h' : H a = none) : False := by
  obtain ⟨o, h1, _⟩ := h
  rw [h1] at h'; cases h'
/-- what a new tuple brings -/
def Tnew (ys : List V) (H : Hp) (Q : VK) : Prop := ∀ p (o : Obj), H p = none → o.cls = .type "tuple" → o.dict = none → Q (.ref p) (upd H p (.frz o (.tup ys)))
section
variable {X : Cx} {pins : List (Addr × Obj)} {σ : L2.St} {H : Hp} {s : Shared} {Q : VK}
theorem laid_tup {its : List Value} {ys : List V} {n : Nat} {h' : Heap} {p : Addr} (I : Inv X pins σ H { s with heap := h' }) (hp : h'.objs.size = p) (r : Vals ys its) (hz : ys.length ≤ sizeLine) (q : Tnew ys H Q) :
    EP X pins σ Q (.ref p) { s with heap := h'.push { cls := .type "tuple", data := .seq its.toArray n } } := by
  subst hp
  have g : (h'.push { cls := .type "tuple", data := .seq its.toArray n }).get? h'.objs.size = some { cls := .type "tuple", data := .seq its.toArray n } := Heap.get?_push_size _ rfl
  refine ⟨.ref h'.objs.size, _, I.laid (t' := s.toks) (o := .frz { cls := .type "tuple", data := .seq its.toArray n } (.tup ys)) (fun b u e => Heap.get?_push_of_some _ e) (Nat.le_refl _) ⟨g, hz, its, r, ⟨_, g, rfl, _, rfl⟩⟩, rfl, q _ _ (I.hok.fresh (Nat.le_refl _)) rfl rfl⟩
def tTupF (t : TA) : TE := fun σ H Q => t σ H fun xs H1 => xs.length ≤ sizeLine ∧ Tnew xs H1 Q
theorem pe_tupF {es : List Expr} {x1} {pos : Pos} {t : TA} (h : PA X es t) : PE X (.Tuple es x1 pos) (tTupF t) := by
  refine ⟨fun pins s σ H Q I hq => ?_⟩
  refine wpAny_Tuple_spliced (thn (h.run pos pins s σ H _ I hq) fun us s1 ⟨xs, H1, I1, r, z, q⟩ => ⟨by rw [← r.length]; exact z, ?_⟩)
  exact laid_tup (s := s1) I1 rfl r z q
def rCatF (K : PySem.W.Frag) : R2 := fun x y H Q => ∃ a b xs ys, x = .ref a ∧ y = .ref b ∧ SqT K H a xs ∧ SqT K H b ys ∧ xs.length + ys.length ≤ sizeLine ∧
  (xs = [] → Q (.ref b) H) ∧ (xs ≠ [] → ys = [] → Q (.ref a) H) ∧ (xs ≠ [] → ys ≠ [] → Tnew (xs ++ ys) H Q)
theorem op_catF : OpR X (binaryOp .Add) (rCatF X.K) := by
  intro pins s σ H x y v u Q I rx ry h
  obtain ⟨a, b, xs, ys, rfl, rfl, ha, hb, hz, q0, q1, q2⟩ := h
  cases rx
  cases ry
  obtain ⟨its, r1, p1, _⟩ := I.tuple ha
  obtain ⟨its2, r2, p2, _⟩ := I.tuple hb
  by_cases hx : xs = []
  · subst hx
    cases r1
    exact cat_tup0 p1 p2 ⟨.ref b, H, I, rfl, q0 rfl⟩
  · refine HT.cat_tup p1 p2 (fun z => hx (r1.nil_iff.mp z)) (fun z => ⟨.ref a, H, I, rfl, q1 hx (r2.nil_iff.mp z)⟩) (fun z => ?_) (by rw [← r1.length, ← r2.length]; exact hz)
    exact laid_tup (s := s) I rfl (r1.append r2) (by rw [List.length_append]; exact hz) (q2 hx fun w => z (r2.nil_iff.mpr w))
def rSlF (K : PySem.W.Frag) : V → Option Int → Option Int → Hp → VK → Prop := fun x lo hi H Q => ∃ a xs, x = .ref a ∧ SqT K H a xs ∧
  (HT.sIx xs.length 0 lo = 0 ∧ HT.sIx xs.length xs.length hi = xs.length → Q (.ref a) H) ∧ (¬ (HT.sIx xs.length 0 lo = 0 ∧ HT.sIx xs.length xs.length hi = xs.length) → Tnew (cutV xs lo hi) H Q)
theorem sl_tupF : SlR X (rSlF X.K) := by
  intro pins s σ H x v vl vu lo hi sl Q I rx hs pl pu h
  obtain ⟨a, xs, rfl, hx, q1, q2⟩ := h
  cases rx
  obtain ⟨its, r, ht, hz⟩ := I.tuple hx
  have hlen : its.toArray.size = xs.length := by rw [List.size_toArray]; exact r.length.symm
  refine ⟨"tuple", _, PyProof.Rows.slot_tuple_getitem.lookup, ht.typeIs, ?_⟩
  by_cases hw : HT.sIx xs.length 0 lo = 0 ∧ HT.sIx xs.length xs.length hi = xs.length
  · exact getItem_tuple_whole ht hs pl pu (by rw [hlen]; exact hw) ⟨.ref a, H, I, rfl, q1 hw⟩
  · refine HT.getItem_tuple_cut ht hs pl pu (by rw [hlen]; exact hw) ?_ (by rw [hlen]; exact hz)
    rw [hlen]
    exact laid_tup (s := s) I rfl ((r.drop (HT.sIx xs.length 0 lo)).take (HT.sIx xs.length xs.length hi - HT.sIx xs.length 0 lo)) (Nat.le_trans (cutV_length xs lo hi) hz) (q2 hw)
theorem call_tupleF : CallR X (.type "tuple") (fun xs H Q => ∃ p ys, xs = [.ref p] ∧ ((SqL X.K H p ys ∧ Tnew ys H Q) ∨ (SqT X.K H p ys ∧ Q (.ref p) H))) := by
  intro pins s σ H xs us Q I r h
  obtain ⟨p, ys, rfl, h⟩ := h
  obtain ⟨u, rfl, rx⟩ := vals1 r
  cases rx
  rcases h with ⟨hq, q⟩ | ⟨hq, q⟩
  · obtain ⟨its, r', pl, hz⟩ := I.list hq
    have hlen := r'.length
    refine call_tuple_list pl.isList (fun h' kp => ?_) (by simp only [List.size_toArray] <;> omega)
    exact laid_tup (s := s) (I.kept (t' := s.toks) kp) rfl r' hz q
  · obtain ⟨its, r', pl, hz⟩ := I.tuple hq
    exact call_tuple_same pl ⟨.ref p, H, I, rfl, q⟩
def rRepF (K : PySem.W.Frag) : R2 := fun x y H Q => ∃ l k xs, x = .ref l ∧ y = .int k ∧ SqT K H l xs ∧ xs ≠ [] ∧ 2 ≤ k ∧ k ≤ 1000 ∧ xs.length ≤ 1000 ∧ Tnew (List.replicate k.toNat xs).flatten H Q
theorem op_repF : OpR X (binaryOp .Mult) (rRepF X.K) := by
  intro pins s σ H x y v u Q I rx ry h
  obtain ⟨l, k, xs, rfl, rfl, hT, hne, h1, h2, hz, q⟩ := h
  cases rx
  obtain ⟨t, rfl⟩ := ry
  obtain ⟨its, r, ⟨⟨cls, dd, data, sl⟩, ho, hc, n, hd⟩, hs⟩ := I.tuple hT
  simp only at hc hd
  subst hc hd
  have hle : its.length = xs.length := r.length.symm
  have hn : its ≠ [] := fun e => hne (by
    rw [e] at hle
    exact List.eq_nil_of_length_eq_zero hle.symm)
  have hi : its.toArray.isEmpty = false := by
    cases its with
    | nil => exact absurd rfl hn
    | cons a b => rfl
  have hsz0 : its.toArray.size = xs.length := by rw [List.size_toArray, hle]
  have hm : ((its.toArray.size : Nat) : Int) * k ≤ 1000000 := by
    rw [hsz0]
    have a1 : ((xs.length : Nat) : Int) * k ≤ 1000 * k := Int.mul_le_mul_of_nonneg_right (by omega) (by omega)
    omega
  have flen : (List.replicate k.toNat its).flatten.length ≤ sizeLine := by
    rw [PyProof.Rows.lm_len_rep_flat, hle, sizeLine_eq]
    have a1 : k.toNat * xs.length ≤ 1000 * 1000 := Nat.mul_le_mul (by omega) hz
    omega
  have c0 : (decide (k < -(2 ^ 63)) || decide (k ≥ 2 ^ 63)) = false := by
    rw [decide_eq_false (by omega), decide_eq_false (by omega)] <;> rfl
  have c1 : (its.toArray.isEmpty || k == 1) = false := by
    rw [hi, Bool.false_or]
    exact beq_eq_false_iff_ne.mpr (by omega)
  have c2 : (decide (k ≤ 0) || its.toArray.isEmpty) = false := by
    rw [hi, Bool.or_false]
    exact decide_eq_false (by omega)
  have c4 : Builtin.Tuple.tupleTooMany (((its.toArray.size : Nat) : Int) * k) = false := by
    unfold Builtin.Tuple.tupleTooMany
    rw [sizeLine_eq]
    exact decide_eq_false (by omega)
  refine wpAny_binaryOp_repeat_ref (T := "tuple") (U := "int") (by decide) ⟨_, ho, rfl⟩ (fun s' => typeIs_int s' k t) noFill_tuple_mul F.fills_int_mul F.slot_int_rmul repeat_tuple F.slot_int_index.lookup
    (call_meets F.slot_int_rmul (typeIs_int s k t) F.entry_int_rmul (F.args_int_rmul_2 _ _) (int_rmul_tuple k t l its.toArray n dd sl)
      ⟨ho, rfl, ⟨_, ho, rfl⟩, call_meets F.slot_tuple_mul ⟨_, ho, rfl⟩ F.entry_tuple_mul (F.args_tuple_mul_2 _ _) (tuple_mulW l its.toArray n dd sl k t c0 c1 c2 (by omega) c4 (by rw [size_rep, List.size_toArray]; exact flen)) ⟨ho, ?_⟩⟩)
  rw [size_rep]
  exact laid_tup (s := s) I rfl (r.rep k.toNat) (by rw [PyProof.Rows.lm_len_rep_flat, sizeLine_eq]; have a1 : k.toNat * xs.length ≤ 1000 * 1000 := Nat.mul_le_mul (by omega) hz; omega) q
end
end HL

set_option Elab.async false
set_option linter.all false
set_option maxRecDepth 100000
set_option maxHeartbeats 2000000
set_option autoImplicit false
namespace HL
open PySem PySem.Spec PyProof.Rows L2
abbrev D := PyData
abbrev Fg := PySem.W.Frag

/-! ### data in a heap -/
mutual
inductive Rp (H : Hp) : V → D → Prop
  | non : Rp H .non .none
  | bl (b : Bool) : Rp H (.bl b) (.bool b)
  | int (i : Int) : Rp H (.int i) (.int i)
  | str (x : Str) : Rp H (.str x) (.str x)
  | lst {a : Addr} {xs : List V} {ds : List PyData} : H a = some (.lst xs) → RpAll H xs ds → Rp H (.ref a) (.list ds)
  | tup {a : Addr} {xs : List V} {ds : List PyData} : TupM H a xs → RpAll H xs ds → Rp H (.ref a) (.tuple ds)
inductive RpAll (H : Hp) : List V → List PyData → Prop
  | nil : RpAll H [] []
  | cons {v : V} {vs : List V} {d : PyData} {ds : List PyData} : Rp H v d → RpAll H vs ds → RpAll H (v :: vs) (d :: ds)
end
mutual
theorem Rp.mono {H H' : Hp} (e : Same H H') : ∀ (d : PyData) (v : V), Rp H v d → Rp H' v d
  | .none, _, h => by cases h; exact .non
  | .bool b, _, h => by cases h; exact .bl b
  | .int i, _, h => by cases h; exact .int i
  | .str x, _, h => by cases h; exact .str x
  | .list ds, _, h => by
    cases h with
    | lst hs ha => exact .lst (e _ _ hs) (Rp.monoAll e ds _ ha)
  | .tuple ds, _, h => by
    cases h with
    | tup hs ha => exact .tup (hs.mono e) (Rp.monoAll e ds _ ha)
  | .dict _, _, h => by cases h
theorem Rp.monoAll {H H' : Hp} (e : Same H H') : ∀ (ds : List PyData) (vs : List V), RpAll H vs ds → RpAll H' vs ds
  | [], _, h => by cases h; exact .nil
  | d :: ds, _, h => by
    cases h with
    | cons h1 h2 => exact .cons (Rp.mono e d _ h1) (Rp.monoAll e ds _ h2)
end
mutual
theorem Rp.dp {K : Fg} {H H' : Hp} (e : Same H H') : ∀ (d : PyData) (v : V), Rp H v d → Dp K H' v d
  | .none, _, h => by cases h; exact .non
  | .bool b, _, h => by cases h; exact .bl b
  | .int i, _, h => by cases h; exact .int i
  | .str x, _, h => by cases h; exact .str x
  | .list ds, _, h => by
    cases h with
    | lst hs ha => exact .lst (SqL.of (e _ _ hs)) (Rp.dpAll e ds _ ha)
  | .tuple ds, _, h => by
    cases h with
    | tup hs ha => exact .tup (hs.mono e).seq (Rp.dpAll e ds _ ha)
  | .dict _, _, h => by cases h
theorem Rp.dpAll {K : Fg} {H H' : Hp} (e : Same H H') : ∀ (ds : List PyData) (vs : List V), RpAll H vs ds → DpAll K H' vs ds
  | [], _, h => by cases h; exact .nil
  | d :: ds, _, h => by
    cases h with
    | cons h1 h2 => exact .cons (Rp.dp e d _ h1) (Rp.dpAll e ds _ h2)
end
theorem RpAll.length {H : Hp} : ∀ {vs : List V} {ds : List D}, RpAll H vs ds → vs.length = ds.length
  | _, [], h => by cases h; rfl
  | _, d :: ds, h => by
    cases h with
    | cons h1 h2 => rw [List.length_cons, List.length_cons, RpAll.length h2]
theorem RpAll.get {H : Hp} : ∀ {vs : List V} {ds : List D} {i : Nat} {v : V}, RpAll H vs ds → vs[i]? = some v → ∃ d, ds[i]? = some d ∧ Rp H v d
  | _, [], _, _, h, e => by cases h; simp at e
  | _, d :: ds, i, v, h, e => by
    cases h with
    | cons h1 h2 =>
      cases i with
      | zero => simp at e; subst e; exact ⟨d, rfl, h1⟩
      | succ i => simpa using RpAll.get h2 (by simpa using e)
theorem RpAll.getD {H : Hp} : ∀ {vs : List V} {ds : List D} {i : Nat} {d : D}, RpAll H vs ds → ds[i]? = some d → ∃ v, vs[i]? = some v ∧ Rp H v d
  | _, [], _, _, h, e => by simp at e
  | _, d :: ds, i, v, h, e => by
    cases h with
    | cons h1 h2 =>
      cases i with
      | zero => simp at e; subst e; exact ⟨_, rfl, h1⟩
      | succ i => simpa using RpAll.getD h2 (by simpa using e)
theorem RpAll.append {H : Hp} : ∀ {vs ws : List V} {ds es : List D}, RpAll H vs ds → RpAll H ws es → RpAll H (vs ++ ws) (ds ++ es)
  | _, _, [], _, h, k => by cases h; exact k
  | _, _, d :: ds, _, h, k => by
    cases h with
    | cons h1 h2 => exact .cons h1 (RpAll.append h2 k)
theorem RpAll.take {H : Hp} : ∀ {vs : List V} {ds : List D} (n : Nat), RpAll H vs ds → RpAll H (vs.take n) (ds.take n)
  | _, [], n, h => by cases h; simp; exact .nil
  | _, d :: ds, n, h => by
    cases h with
    | cons h1 h2 =>
      cases n with
      | zero => exact .nil
      | succ n => exact .cons h1 (RpAll.take n h2)
theorem RpAll.drop {H : Hp} : ∀ {vs : List V} {ds : List D} (n : Nat), RpAll H vs ds → RpAll H (vs.drop n) (ds.drop n)
  | _, [], n, h => by cases h; simp; exact .nil
  | _, d :: ds, n, h => by
    cases h with
    | cons h1 h2 =>
      cases n with
      | zero => exact .cons h1 h2
      | succ n => exact RpAll.drop n h2
theorem RpAll.set {H : Hp} {v : V} {d : D} (q : Rp H v d) : ∀ {vs : List V} {ds : List D} (n : Nat), RpAll H vs ds → RpAll H (vs.set n v) (ds.set n d)
  | _, [], n, h => by cases h; exact .nil
  | _, d :: ds, n, h => by
    cases h with
    | cons h1 h2 =>
      cases n with
      | zero => exact .cons q h2
      | succ n => exact .cons h1 (RpAll.set q n h2)
theorem RpAll.eraseIdx {H : Hp} : ∀ {vs : List V} {ds : List D} (n : Nat), RpAll H vs ds → RpAll H (vs.eraseIdx n) (ds.eraseIdx n)
  | _, [], n, h => by cases h; exact .nil
  | _, d :: ds, n, h => by
    cases h with
    | cons h1 h2 =>
      cases n with
      | zero => exact h2
      | succ n => exact .cons h1 (RpAll.eraseIdx n h2)
theorem RpAll.reverse {H : Hp} : ∀ {vs : List V} {ds : List D}, RpAll H vs ds → RpAll H vs.reverse ds.reverse
  | _, [], h => by cases h; exact .nil
  | _, d :: ds, h => by
    cases h with
    | cons h1 h2 =>
      rw [List.reverse_cons, List.reverse_cons]
      exact (RpAll.reverse h2).append (.cons h1 .nil)
theorem RpAll.ints {H : Hp} : ∀ (ns : List Int), RpAll H (ns.map V.int) (ns.map PyData.int)
  | [] => .nil
  | n :: ns => .cons (.int n) (RpAll.ints ns)
theorem RpAll.toInts {H : Hp} : ∀ {ns : List Int} {vs : List V}, RpAll H vs (ns.map PyData.int) → vs = ns.map V.int
  | [], _, h => by cases h; rfl
  | n :: ns, _, h => by
    cases h with
    | cons h1 h2 => cases h1; rw [RpAll.toInts h2]; rfl
theorem RpAll.bls {H : Hp} : ∀ (ns : List Bool), RpAll H (ns.map V.bl) (ns.map PyData.bool)
  | [] => .nil
  | n :: ns => .cons (.bl n) (RpAll.bls ns)
theorem RpAll.toBls {H : Hp} : ∀ {ns : List Bool} {vs : List V}, RpAll H vs (ns.map PyData.bool) → vs = ns.map V.bl
  | [], _, h => by cases h; rfl
  | n :: ns, _, h => by
    cases h with
    | cons h1 h2 => cases h1; rw [RpAll.toBls h2]; rfl

/-! ### abstract slots, results -/
/-- how a list of ours is held: by itself, or as the rows of the object x of the class C -/
abbrev Tg := Option (Addr × Addr × Addr)
inductive En where
  | no | val (d : D) | own (ds : List D) | tab (C x l : Addr) (ds : List D) | scr (ns : List Int) | raw (v : V)
inductive Rs where
  | val (d : D) | new (ds : List D) | newT (C x l : Addr) (ds : List D) | sl (i : Nat) | raw (v : V) | fl (i : Nat) (l : Addr)
def mkO : Tg → List D → En
  | none, ds => .own ds
  | some (C, x, l), ds => .tab C x l ds
def mkN : Tg → List D → Rs
  | none, ds => .new ds
  | some (C, x, l), ds => .newT C x l ds
def isO : En → Bool
  | .own _ => true
  | .tab _ _ _ _ => true
  | _ => false
theorem isO_mk : ∀ {t : Tg} {ds : List D}, isO (mkO t ds) = true
  | none, _ => rfl
  | some (_, _, _), _ => rfl
theorem mkO_of : ∀ {en : En}, isO en = true → ∃ t ds, en = mkO t ds
  | .own ds, _ => ⟨none, ds, rfl⟩
  | .tab C x l ds, _ => ⟨some (C, x, l), ds, rfl⟩
theorem not_mk {e : En} {t : Tg} {ds : List D} (h : isO e = false) : some e ≠ some (mkO t ds) := fun z => by
  rw [Option.some.inj z, isO_mk] at h
  cases h
theorem mkO_inj : ∀ {t t' : Tg} {ds ds' : List D}, mkO t ds = mkO t' ds' → t = t' ∧ ds = ds'
  | none, none, _, _, h => by cases h; exact ⟨rfl, rfl⟩
  | none, some (_, _, _), _, _, h => by cases h
  | some (_, _, _), none, _, _, h => by cases h
  | some (_, _, _), some (_, _, _), _, _, h => by cases h; exact ⟨rfl, rfl⟩
/-- the list's place, by the value that holds it -/
def Pt : Tg → V → Addr → Prop
  | none, v, a => v = .ref a
  | some (_, x, l), v, a => v = .ref x ∧ a = l
/-- what is known of the object that holds it -/
def Ins (F : Hp) : Tg → Prop
  | none => True
  | some (C, x, l) => ∃ dx, F x = some (.ins C dx [("rows", .ref l)]) ∧ F dx = some (.own x)
theorem Pt.uniq : ∀ {t : Tg} {v : V} {a b : Addr}, Pt t v a → Pt t v b → a = b
  | none, v, a, b, h, k => by
    have h : v = .ref a := h
    have k : v = .ref b := k
    rw [h] at k
    cases k
    rfl
  | some (_, _, _), _, _, _, h, k => h.2.trans k.2.symm
theorem Ins.mono {F F' : Hp} (s : Same F F') : ∀ {t : Tg}, Ins F t → Ins F' t
  | none, _ => trivial
  | some (_, _, _), ⟨dx, h1, h2⟩ => ⟨dx, s _ _ h1, s _ _ h2⟩
/-- a list of ours in a slot -/
def SlO (F H : Hp) (o : Option (Option V)) (t : Tg) (ds : List D) : Prop := ∃ v l vs, o = some (some v) ∧ Pt t v l ∧ Ins F t ∧ F l = none ∧ H l = some (.lst vs) ∧ RpAll F vs ds
def SlOk (K : Fg) (F H : Hp) (o : Option (Option V)) : En → Prop
  | .no => True
  | .val d => ∃ v, o = some (some v) ∧ Rp F v d
  | .own ds => SlO F H o none ds
  | .tab C x l ds => SlO F H o (some (C, x, l)) ds
  | .scr ns => ∃ a, o = some (some (.ref a)) ∧ SqL K F a (ns.map V.int)
  | .raw v => o = some (some v)
theorem slOk_mk {K : Fg} {F H : Hp} {o : Option (Option V)} : ∀ {t : Tg} {ds : List D}, SlOk K F H o (mkO t ds) ↔ SlO F H o t ds
  | none, _ => Iff.rfl
  | some (_, _, _), _ => Iff.rfl
def OwAt (es : List En) (σ : L2.St) (i : Nat) (a : Addr) : Prop := ∃ t ds v, es[i]? = some (mkO t ds) ∧ σ[i]? = some (some v) ∧ Pt t v a
def Ow (es : List En) (σ : L2.St) (a : Addr) : Prop := ∃ (i : Nat), OwAt es σ i a
structure Ok (K : Fg) (es : List En) (σ : L2.St) (F H : Hp) : Prop where
  len : es.length = σ.length
  slot : ∀ (i : Nat) e, es[i]? = some e → SlOk K F H σ[i]? e
  sep : ∀ (i j : Nat) a, OwAt es σ i a → OwAt es σ j a → i = j
  sub : Same F H
structure Tr (es : List En) (σ : L2.St) (F H : Hp) (es' : List En) (F' H' : Hp) : Prop where
  exF : Same F F'
  new : ∀ a, F a = none → H a ≠ none → F' a = none
  fr : ∀ a o, H a = some o → ¬ Ow es σ a → H' a = some o
  dom : ∀ a, H a ≠ none → H' a ≠ none
  ow : ∀ a, Ow es' σ a → Ow es σ a
  own : ∀ (i : Nat) t ds, es[i]? = some (mkO t ds) → ∃ ds', es'[i]? = some (mkO t ds')
theorem OwAt.tr {es es' : List En} {σ : L2.St} {F H F' H' : Hp} (t : Tr es σ F H es' F' H') {i : Nat} {a : Addr} (h : OwAt es σ i a) : OwAt es' σ i a := by
  obtain ⟨g, ds, v, h1, h2, h3⟩ := h
  obtain ⟨ds', h4⟩ := t.own i g ds h1
  exact ⟨g, ds', v, h4, h2, h3⟩
/-- a list of ours as a result -/
def RsO (N : Addr → Prop) (F H : Hp) (v : V) (t : Tg) (ds : List D) : Prop := ∃ l vs, Pt t v l ∧ Ins F t ∧ N l ∧ F l = none ∧ H l = some (.lst vs) ∧ RpAll F vs ds
def RsOk (N : Addr → Prop) (F H : Hp) (σ : L2.St) (v : V) : Rs → Prop
  | .val d => Rp F v d
  | .new ds => RsO N F H v none ds
  | .newT C x l ds => RsO N F H v (some (C, x, l)) ds
  | .sl i => σ[i]? = some (some v)
  | .raw w => v = w
  | .fl _ l => v = .ref l
theorem rsOk_mk {N : Addr → Prop} {F H : Hp} {σ : L2.St} {v : V} : ∀ {t : Tg} {ds : List D}, RsOk N F H σ v (mkN t ds) ↔ RsO N F H v t ds
  | none, _ => Iff.rfl
  | some (_, _, _), _ => Iff.rfl
def denE : Option En → Option D
  | some (.val d) => some d
  | some (.own ds) => some (.list ds)
  | some (.scr ns) => some (.list (ns.map PyData.int))
  | _ => none
/-- the rows of the object in a slot -/
def denF (l : Addr) : Option En → Option D
  | some (.tab _ _ l' ds) => if l = l' then some (.list ds) else none
  | _ => none
def den (es : List En) : Rs → Option D
  | .val d => some d
  | .new ds => some (.list ds)
  | .sl i => denE es[i]?
  | .fl i l => denF l es[i]?
  | _ => none
abbrev Nw (H : Hp) : Addr → Prop := fun a => H a = none
abbrev NT : Addr → Prop := fun _ => True
section
variable {K : Fg} {es es' es1 es2 : List En} {σ : L2.St} {F H F' H' F1 H1 F2 H2 : Hp} {v : V} {r : Rs} {N N' : Addr → Prop}
theorem Tr.refl : Tr es σ F H es F H := ⟨Same.refl F, fun _ h _ => h, fun _ _ h _ => h, fun _ h => h, fun _ h => h, fun _ _ ds h => ⟨ds, h⟩⟩
theorem Tr.trans (a : Tr es σ F H es1 F1 H1) (b : Tr es1 σ F1 H1 es2 F2 H2) : Tr es σ F H es2 F2 H2 :=
  ⟨a.exF.trans b.exF, fun x h k => b.new x (a.new x h k) (a.dom x k), fun x o h k => b.fr x o (a.fr x o h k) fun z => k (a.ow x z), fun x h => b.dom x (a.dom x h), fun x z => a.ow x (b.ow x z), fun i t ds h => by
    obtain ⟨ds1, h1⟩ := a.own i t ds h
    exact b.own i t ds1 h1⟩
theorem Ok.slO (o : Ok K es σ F H) {i : Nat} {t : Tg} {ds : List D} (h : es[i]? = some (mkO t ds)) : SlO F H σ[i]? t ds := slOk_mk.mp (o.slot i _ h)
theorem Ok.owned (o : Ok K es σ F H) {a : Addr} (h : Ow es σ a) : F a = none ∧ ∃ vs, H a = some (.lst vs) := by
  obtain ⟨i, t, ds, v, h1, h2, h3⟩ := h
  obtain ⟨v', l, vs, e, p, _, f, hh, _⟩ := o.slO h1
  rw [h2] at e
  cases e
  obtain rfl := p.uniq h3
  exact ⟨f, vs, hh⟩
theorem RsO.weak {t : Tg} {ds : List D} (h : RsO N F H v t ds) (w : ∀ a, N a → N' a) : RsO N' F H v t ds := by
  obtain ⟨l, vs, e, i, n, q⟩ := h
  exact ⟨l, vs, e, i, w _ n, q⟩
theorem RsOk.weak (h : RsOk N F H σ v r) (w : ∀ a, N a → N' a) : RsOk N' F H σ v r := by
  cases r with
  | new ds => exact RsO.weak h w
  | newT C x l ds => exact RsO.weak h w
  | val d => exact h
  | sl i => exact h
  | raw w => exact h
  | fl i l => exact h
theorem RsO.keep {t : Tg} {ds : List D} (o : Ok K es σ F H) (a : Tr es σ F H es1 F1 H1) (h : RsO (Nw H) F1 H1 v t ds) (b : Tr es1 σ F1 H1 es2 F2 H2) : RsO (Nw H) F2 H2 v t ds := by
  obtain ⟨l, vs, e, i, n, f, hh, q⟩ := h
  refine ⟨l, vs, e, i.mono b.exF, n, b.new l f (by rw [hh]; exact nofun), b.fr l _ hh (fun z => ?_), Rp.monoAll b.exF ds vs q⟩
  obtain ⟨_, vs', h'⟩ := o.owned (a.ow l z)
  have n' : H l = none := n
  rw [n'] at h'
  cases h'
/-- a result stays while something else is reckoned -/
theorem RsOk.keep (o : Ok K es σ F H) (a : Tr es σ F H es1 F1 H1) (h : RsOk (Nw H) F1 H1 σ v r) (b : Tr es1 σ F1 H1 es2 F2 H2) : RsOk (Nw H) F2 H2 σ v r := by
  cases r with
  | val d => exact Rp.mono b.exF d v h
  | new ds => exact RsO.keep o a h b
  | newT C x l ds => exact RsO.keep o a h b
  | sl i => exact h
  | raw w => exact h
  | fl i l => exact h
theorem RsOk.dp (h : RsOk N F H σ v r) (o : Ok K es σ F H) {d : D} (e : den es r = some d) : Dp K H v d := by
  cases r with
  | val d' => cases e; exact Rp.dp o.sub d v h
  | new ds =>
    cases e
    obtain ⟨l, vs, p, _, n, f, hh, q⟩ := h
    have p : v = .ref l := p
    subst p
    exact .lst (SqL.of hh) (Rp.dpAll o.sub ds vs q)
  | newT C x l ds => cases e
  | sl i =>
    have hs : σ[i]? = some (some v) := h
    have e : denE es[i]? = some d := e
    cases q : es[i]? with
    | none => rw [q] at e; cases e
    | some en =>
      rw [q] at e
      have z := o.slot i _ q
      cases en with
      | val d' =>
        cases e
        obtain ⟨v', e1, e2⟩ := z
        rw [hs] at e1; cases e1
        exact Rp.dp o.sub _ v e2
      | own ds =>
        cases e
        obtain ⟨v', l, vs, e1, p, _, _, hh, e2⟩ := z
        rw [hs] at e1; cases e1
        have p : v = .ref l := p
        subst p
        exact .lst (SqL.of hh) (Rp.dpAll o.sub ds vs e2)
      | tab C x l ds => cases e
      | scr ns =>
        cases e
        obtain ⟨a, e1, e2⟩ := z
        rw [hs] at e1; cases e1
        exact .lst (o.sub.seq e2) (Rp.dpAll (Same.refl H) _ _ (RpAll.ints ns))
      | no => cases e
      | raw w => cases e
  | raw w => cases e
  | fl i l =>
    have hs : v = .ref l := h
    subst hs
    have e : denF l es[i]? = some d := e
    cases q : es[i]? with
    | none => rw [q] at e; cases e
    | some en =>
      rw [q] at e
      have z := o.slot i _ q
      cases en with
      | tab C x l' ds =>
        have e : (if l = l' then some (PyData.list ds) else none) = some d := e
        by_cases hl : l = l'
        · rw [if_pos hl] at e
          cases e
          obtain ⟨v', l2, vs, e1, p, _, _, hh, e2⟩ := z
          obtain rfl : l2 = l' := p.2
          subst hl
          exact .lst (SqL.of hh) (Rp.dpAll o.sub ds vs e2)
        · rw [if_neg hl] at e; cases e
      | _ => cases e
end

theorem fl_at {K : Fg} {es : List En} {σ : L2.St} {F H : Hp} (o : Ok K es σ F H) {i : Nat} {l : Addr} {d : D} (e : denF l es[i]? = some d) : ∃ C x ds vs, d = .list ds ∧ es[i]? = some (.tab C x l ds) ∧ F l = none ∧ H l = some (.lst vs) ∧ RpAll F vs ds ∧ σ[i]? = some (some (.ref x)) ∧ Ins F (some (C, x, l)) := by
  cases q : es[i]? with
  | none => rw [q] at e; cases e
  | some en =>
    rw [q] at e
    cases en with
    | tab C x l' ds =>
      have e : (if l = l' then some (PyData.list ds) else none) = some d := e
      by_cases hl : l = l'
      · rw [if_pos hl] at e
        cases e
        subst hl
        obtain ⟨v', l2, vs, e1, p, ins, f, hh, e2⟩ := o.slot i _ q
        obtain ⟨p1, p2⟩ : v' = .ref x ∧ l2 = l := p
        subst p1 p2
        exact ⟨C, x, ds, vs, rfl, rfl, f, hh, e2, e1, ins⟩
      · rw [if_neg hl] at e; cases e
    | _ => cases e

/-! ### the ground of a def: its entry -/
structure Bs where
  F : Hp
  H : Hp
  O : Addr → Prop
  par : Nat → Addr → Prop
  tg : Nat → Addr → Tg → V → Prop
structure Bd (B : Bs) (es : List En) (σ : L2.St) (F H : Hp) : Prop where
  exF : Same B.F F
  new : ∀ a, B.F a = none → B.H a ≠ none → F a = none
  fr : ∀ a o, B.H a = some o → ¬ B.O a → H a = some o
  dom : ∀ a, B.H a ≠ none → H a ≠ none
  ow : ∀ a, Ow es σ a → B.O a ∨ B.H a = none
  par : ∀ (i : Nat) a, B.par i a → OwAt es σ i a
  opar : ∀ a, B.O a → ∃ i, B.par i a
  tp : ∀ i a t v, B.tg i a t v → B.par i a
  tg : ∀ i a t v, B.tg i a t v → ∃ ds, es[i]? = some (mkO t ds) ∧ σ[i]? = some (some v)
theorem Bd.tr {B : Bs} {es es' : List En} {σ : L2.St} {F H F' H' : Hp} (b : Bd B es σ F H) (t : Tr es σ F H es' F' H') : Bd B es' σ F' H' where
  exF := b.exF.trans t.exF
  new := fun a h k => t.new a (b.new a h k) (b.dom a k)
  fr := fun a o h k => t.fr a o (b.fr a o h k) fun z => by
    rcases b.ow a z with z | z
    · exact k z
    · rw [h] at z; cases z
  dom := fun a h => t.dom a (b.dom a h)
  ow := fun a z => b.ow a (t.ow a z)
  par := fun i a h => (b.par i a h).tr t
  opar := b.opar
  tp := b.tp
  tg := fun i a g v h => by
    obtain ⟨ds, h1, h2⟩ := b.tg i a g v h
    obtain ⟨ds', h3⟩ := t.own i g ds h1
    exact ⟨ds', h3, h2⟩

/-! ### the strongest readings -/
def wE (X : Cx) (e : Expr) : TE := fun σ H Q => ∀ pins s, Inv X pins σ H s → wpAny (model X.prog X.w) X.A (eval e X.env) (EP X pins σ Q) X.xe s
def wT (X : Cx) (e : Expr) : TT := fun σ H Q => ∀ pins s, Inv X pins σ H s → wpAny (model X.prog X.w) X.A (isTrue e X.env (eval e X.env)) (TP X pins σ Q) X.xe s
def wW (X : Cx) (e : Expr) : TT := fun σ H Q => ∀ whole pins s, Inv X pins σ H s → wpAny (model X.prog X.w) X.A (isTrue e X.env whole) (TP X pins σ Q) X.xe s
def wA (X : Cx) (l : List Expr) : TA := fun σ H Q => ∀ pos pins s, Inv X pins σ H s → wpAny (model X.prog X.w) X.A (spliced (backTo pos (starEach l X.env))) (AP X pins σ Q) X.xe s
def wS (X : Cx) (st : Stmt) : TS := fun D σ H => ∀ pins s, Inv X pins σ H s → wpAny (model X.prog X.w) X.A (exec st X.env) (SP X pins D) X.xe s
def wSs (X : Cx) (st : List Stmt) : TS := fun D σ H => ∀ pins s, Inv X pins σ H s → wpAny (model X.prog X.w) X.A (execs st X.env) (SP X pins D) X.xe s
def wI (X : Cx) (tg iter : Expr) : TI := fun σ H R => ∀ pins s, Inv X pins σ H s → wpAny (model X.prog X.w) X.A (eval iter X.env) (fun v s1 => wpAny (model X.prog X.w) X.A (pyIter v) (PIE X pins σ tg R) X.xe s1) X.xe s
def wG (X : Cx) (tg : Expr) : TG := fun v σ H Q => ∀ pins s u, Inv X pins σ H s → RelV v u → wpAny (model X.prog X.w) X.A (assign tg X.env u) (fun _ s' => ∃ σ' H', Inv X pins σ' H' s' ∧ Q σ' H') X.xe s
def rW (X : Cx) (f : Value → Value → Sem Value) : R2 := fun x y H Q => ∀ pins s σ v u, Inv X pins σ H s → RelV x v → RelV y u → wpAny (model X.prog X.w) X.A (f v u) (EP X pins σ Q) X.xe s
section
variable {X : Cx} {e : Expr} {l : List Expr} {st : Stmt} {sts : List Stmt} {tg iter : Expr}
theorem pe_w : PE X e (wE X e) := ⟨fun pins s _ _ _ I h => h pins s I⟩
theorem pt_w : PT X e (wT X e) := ⟨fun pins s _ _ _ I h => h pins s I⟩
theorem pw_w : PW X e (wW X e) := ⟨fun whole pins s _ _ _ I h => h whole pins s I⟩
theorem pa_w : PA X l (wA X l) := ⟨fun pos pins s _ _ _ I h => h pos pins s I⟩
theorem ps_w : PS X st (wS X st) := ⟨fun pins s _ _ _ I h => h pins s I⟩
theorem pss_w : PSs X sts (wSs X sts) := ⟨fun pins s _ _ _ I h => h pins s I⟩
theorem pi_w : PI X tg iter (wI X tg iter) := ⟨fun pins s _ _ _ I h => h pins s I⟩
theorem pg_w : PG X tg (wG X tg) := ⟨fun pins s _ _ _ u _ I r h => h pins s u I r⟩
theorem op_w {f : Value → Value → Sem Value} : OpR X f (rW X f) := fun pins s σ _ _ _ v u _ I r q h => h pins s σ v u I r q
theorem wE.of {t : TE} (h : PE X e t) {σ : L2.St} {H : Hp} {Q : VK} (q : t σ H Q) : wE X e σ H Q := fun pins s I => h.run pins s σ H Q I q
theorem wT.of {t : TT} (h : PT X e t) {σ : L2.St} {H : Hp} {Q : Bool → Hp → Prop} (q : t σ H Q) : wT X e σ H Q := fun pins s I => h.run pins s σ H Q I q
theorem wW.of {t : TT} (h : PW X e t) {σ : L2.St} {H : Hp} {Q : Bool → Hp → Prop} (q : t σ H Q) : wW X e σ H Q := fun w pins s I => h.run w pins s σ H Q I q
theorem wA.of {t : TA} (h : PA X l t) {σ : L2.St} {H : Hp} {Q : List V → Hp → Prop} (q : t σ H Q) : wA X l σ H Q := fun pos pins s I => h.run pos pins s σ H Q I q
theorem wS.of {t : TS} (h : PS X st t) {σ : L2.St} {H : Hp} {D : Ends} (q : t D σ H) : wS X st D σ H := fun pins s I => h.run pins s σ H D I q
theorem wSs.of {t : TS} (h : PSs X sts t) {σ : L2.St} {H : Hp} {D : Ends} (q : t D σ H) : wSs X sts D σ H := fun pins s I => h.run pins s σ H D I q
theorem wI.of {t : TI} (h : PI X tg iter t) {σ : L2.St} {H : Hp} {R : It → Hp → Prop} (q : t σ H R) : wI X tg iter σ H R := fun pins s I => h.run pins s σ H R I q
theorem rW.of {f : Value → Value → Sem Value} {r : R2} (h : OpR X f r) {x y : V} {H : Hp} {Q : VK} (q : r x y H Q) : rW X f x y H Q := fun pins s σ v u I a b => h pins s σ H x y v u Q I a b q
end
end HL

set_option Elab.async false
set_option linter.all false
set_option maxRecDepth 100000
set_option maxHeartbeats 2000000
set_option autoImplicit false
namespace HL
open PySem PySem.Spec PyProof.Rows L2

/-! ### the judgements -/
/-- what is wanted of a value: K -/
def Kt (K : Fg) (es : List En) (σ : L2.St) (F H : Hp) (P : Rs → List En → Prop) (Q : VK) : Prop :=
  ∀ v r es' F' H', P r es' → RsOk (Nw H) F' H' σ v r → Ok K es' σ F' H' → Tr es σ F H es' F' H' → Q v H'
def EvE (X : Cx) (B : Bs) (e : Expr) (es : List En) (P : Rs → List En → Prop) : Prop :=
  ∀ σ F H, Ok X.K es σ F H → Bd B es σ F H → ∀ Q : VK, Kt X.K es σ F H P Q → wE X e σ H Q
def KtT (K : Fg) (es : List En) (σ : L2.St) (F H : Hp) (P : Bool → List En → Prop) (Q : Bool → Hp → Prop) : Prop :=
  ∀ b es' F' H', P b es' → Ok K es' σ F' H' → Tr es σ F H es' F' H' → Q b H'
def EvT (X : Cx) (B : Bs) (e : Expr) (es : List En) (P : Bool → List En → Prop) : Prop :=
  ∀ σ F H, Ok X.K es σ F H → Bd B es σ F H → ∀ Q : Bool → Hp → Prop, KtT X.K es σ F H P Q → wT X e σ H Q
def EvW (X : Cx) (B : Bs) (e : Expr) (es : List En) (P : Bool → List En → Prop) : Prop :=
  ∀ σ F H, Ok X.K es σ F H → Bd B es σ F H → ∀ Q : Bool → Hp → Prop, KtT X.K es σ F H P Q → wW X e σ H Q
def RsAll (N : Addr → Prop) (F H : Hp) (σ : L2.St) : List V → List Rs → Prop
  | [], [] => True
  | v :: vs, r :: rs => RsOk N F H σ v r ∧ RsAll N F H σ vs rs
  | _, _ => False
def EvA (X : Cx) (B : Bs) (l : List Expr) (es : List En) (P : List Rs → List En → Prop) : Prop :=
  ∀ σ F H, Ok X.K es σ F H → Bd B es σ F H → ∀ Q : List V → Hp → Prop, (∀ vs rs es' F' H', P rs es' → RsAll NT F' H' σ vs rs → Ok X.K es' σ F' H' → Tr es σ F H es' F' H' → Q vs H') → wA X l σ H Q
/-- a two-place, one-place, many-place reading on results -/
def Rd2 (X : Cx) (r : R2) (r1 r2 : Rs) (es : List En) (P : Rs → List En → Prop) : Prop :=
  ∀ σ F H v1 v2, Ok X.K es σ F H → RsOk NT F H σ v1 r1 → RsOk NT F H σ v2 r2 → ∀ Q, Kt X.K es σ F H P Q → r v1 v2 H Q
def Rd1 (X : Cx) (r : V → Hp → VK → Prop) (r1 : Rs) (es : List En) (P : Rs → List En → Prop) : Prop :=
  ∀ σ F H v1, Ok X.K es σ F H → RsOk NT F H σ v1 r1 → ∀ Q, Kt X.K es σ F H P Q → r v1 H Q
def RdC (X : Cx) (r : List V → Hp → VK → Prop) (rs : List Rs) (es : List En) (P : Rs → List En → Prop) : Prop :=
  ∀ σ F H vs, Ok X.K es σ F H → RsAll NT F H σ vs rs → ∀ Q, Kt X.K es σ F H P Q → r vs H Q
def RdM (X : Cx) (r : V → List V → Hp → VK → Prop) (r0 : Rs) (rs : List Rs) (es : List En) (P : Rs → List En → Prop) : Prop :=
  ∀ σ F H v vs, Ok X.K es σ F H → RsOk NT F H σ v r0 → RsAll NT F H σ vs rs → ∀ Q, Kt X.K es σ F H P Q → r v vs H Q
/-- the strongest readings of these -/
def uW (X : Cx) (f : Value → Sem Value) : V → Hp → VK → Prop := fun x H Q => ∀ pins s σ v, Inv X pins σ H s → RelV x v → wpAny (model X.prog X.w) X.A (f v) (EP X pins σ Q) X.xe s
def cW (X : Cx) (f : Value) : List V → Hp → VK → Prop := fun xs H Q => ∀ pins s σ us, Inv X pins σ H s → Vals xs us → wpAny (model X.prog X.w) X.A (call f us) (EP X pins σ Q) X.xe s
def mW (X : Cx) (id : String) : V → List V → Hp → VK → Prop := fun x xs H Q => ∀ pins s σ v us, Inv X pins σ H s → RelV x v → Vals xs us → wpAny (model X.prog X.w) X.A (call (.builtin id) (v :: us)) (EP X pins σ Q) X.xe s
def iW (X : Cx) : R2 := fun x y H Q => ∀ value slice pins s σ v u, Inv X pins σ H s → RelV x v → RelV y u →
    subscripted slice false v u = operate [v, u] (getItem v u) → wpAny (model X.prog X.w) X.A (subscriptTail value slice v u) (EP X pins σ Q) X.xe s
section
variable {X : Cx} {B : Bs} {es es1 es2 es' : List En} {σ : L2.St} {F H F1 H1 F2 H2 F' H' : Hp} {v : V} {r r1 r2 : Rs} {P P' : Rs → List En → Prop} {a b c e o : Expr} {pos p p2 apos : Pos}
theorem un_w {f : Value → Sem Value} : UnR X f (uW X f) := fun pins s σ _ _ v _ I r h => h pins s σ v I r
theorem call_w {f : Value} : CallR X f (cW X f) := fun pins s σ _ _ us _ I r h => h pins s σ us I r
theorem mt_w {id : String} : MtR X id (mW X id) := fun pins s σ _ _ _ v us _ I r q h => h pins s σ v us I r q
theorem ix_w : IxR X (iW X) := fun value slice pins s σ _ _ _ v u _ I r q h e => h value slice pins s σ v u I r q e
theorem Rd2.of {f : Value → Value → Sem Value} {t : R2} (h : OpR X f t) (q : Rd2 X t r1 r2 es P) : Rd2 X (rW X f) r1 r2 es P := fun σ F H v1 v2 o a b Q k pins s σ' v u I ra rb =>
  h pins s σ' H v1 v2 v u Q I ra rb (q σ F H v1 v2 o a b Q k)
theorem Rd2.ofI {t : R2} (h : IxR X t) (q : Rd2 X t r1 r2 es P) : Rd2 X (iW X) r1 r2 es P := fun σ F H v1 v2 o a b Q k value slice pins s σ' v u I ra rb e =>
  h value slice pins s σ' H v1 v2 v u Q I ra rb (q σ F H v1 v2 o a b Q k) e
theorem Rd1.of {f : Value → Sem Value} {t : V → Hp → VK → Prop} (h : UnR X f t) (q : Rd1 X t r1 es P) : Rd1 X (uW X f) r1 es P := fun σ F H v1 o a Q k pins s σ' v I ra => h pins s σ' H v1 v Q I ra (q σ F H v1 o a Q k)
theorem RdC.of {f : Value} {t : List V → Hp → VK → Prop} {rs : List Rs} (h : CallR X f t) (q : RdC X t rs es P) : RdC X (cW X f) rs es P := fun σ F H vs o a Q k pins s σ' us I ra => h pins s σ' H vs us Q I ra (q σ F H vs o a Q k)
theorem RdM.of {id : String} {t : V → List V → Hp → VK → Prop} {rs : List Rs} (h : MtR X id t) (q : RdM X t r rs es P) : RdM X (mW X id) r rs es P := fun σ F H v vs o a b Q k pins s σ' w us I ra rb =>
  h pins s σ' H v vs w us Q I ra rb (q σ F H v vs o a b Q k)

theorem RsOk.back (t : Tr es σ F H es1 F1 H1) (h : RsOk (Nw H1) F' H' σ v r) : RsOk (Nw H) F' H' σ v r := h.weak fun a n => by
  cases e : H a with
  | none => exact e
  | some o => exact absurd n (t.dom a (by rw [e]; exact nofun))
theorem RsOk.all {N : Addr → Prop} (h : RsOk N F H σ v r) : RsOk NT F H σ v r := h.weak fun _ _ => trivial
theorem Kt.after {Q : VK} (k : Kt X.K es σ F H P Q) (t : Tr es σ F H es1 F1 H1) : Kt X.K es1 σ F1 H1 P Q := fun v r es' F' H' p q o t' => k v r es' F' H' p (q.back t) o (t.trans t')
theorem KtT.after {Q : Bool → Hp → Prop} {P : Bool → List En → Prop} (k : KtT X.K es σ F H P Q) (t : Tr es σ F H es1 F1 H1) : KtT X.K es1 σ F1 H1 P Q := fun b es' F' H' p o t' => k b es' F' H' p o (t.trans t')
/-- nothing has happened -/
theorem Kt.now {Q : VK} (k : Kt X.K es σ F H P Q) (o : Ok X.K es σ F H) (p : P r es) (q : RsOk (Nw H) F H σ v r) : Q v H := k v r es F H p q o Tr.refl
theorem KtT.now {Q : Bool → Hp → Prop} {P : Bool → List En → Prop} {b : Bool} (k : KtT X.K es σ F H P Q) (o : Ok X.K es σ F H) (p : P b es) : Q b H := k b es F H p o Tr.refl
theorem EvE.imp (h : EvE X B e es P) (w : ∀ r es', P r es' → P' r es') : EvE X B e es P' := fun σ F H o bd Q k => h σ F H o bd Q fun v r es' F' H' p => k v r es' F' H' (w r es' p)
theorem EvT.imp {P P' : Bool → List En → Prop} (h : EvT X B e es P) (w : ∀ r es', P r es' → P' r es') : EvT X B e es P' := fun σ F H o bd Q k => h σ F H o bd Q fun b es' F' H' p => k b es' F' H' (w b es' p)

/-! ### new objects -/
theorem same_new {p : Addr} {ob : HO} (n : H p = none) : Same H (upd H p ob) := fun b x e => by
  rw [upd_ne (ne_of_none e n)]; exact e
theorem same_upd2 (s : Same F H) {p : Addr} {ob : HO} : Same (upd F p ob) (upd H p ob) := fun b x e => by
  by_cases h : b = p
  · subst h; rw [upd_same] at e ⊢; exact e
  · rw [upd_ne h] at e ⊢; exact s b x e
theorem Ow.no_upd {K : Fg} (o : Ok K es σ F H) {p : Addr} (n : H p = none) : ¬ Ow es σ p := fun z => by
  obtain ⟨_, vs, h⟩ := o.owned z
  rw [n] at h; cases h
theorem Same.back {p : Addr} (s : Same F H) (n : H p = none) : F p = none := by
  cases e : F p with
  | none => rfl
  | some o => rw [s p o e] at n; cases n
theorem SlO.keep {so : Option (Option V)} {t : Tg} {ds : List D} (h : SlO F H so t ds) (sF : Same F F') (nF : ∀ a vs, F a = none → H a = some (.lst vs) → F' a = none ∧ H' a = some (.lst vs)) : SlO F' H' so t ds := by
  obtain ⟨v, l, vs, e, p, i, f, hh, q⟩ := h
  obtain ⟨a, b⟩ := nF l vs f hh
  exact ⟨v, l, vs, e, p, i.mono sF, a, b, Rp.monoAll sF ds vs q⟩
theorem SlOk.keep {K : Fg} {so : Option (Option V)} {en : En} (h : SlOk K F H so en) (sF : Same F F') (nF : ∀ a vs, F a = none → H a = some (.lst vs) → F' a = none ∧ H' a = some (.lst vs)) : SlOk K F' H' so en := by
  cases en with
  | no => trivial
  | val d => obtain ⟨v, e, q⟩ := h; exact ⟨v, e, Rp.mono sF d v q⟩
  | own ds => exact SlO.keep h sF nF
  | tab C x l ds => exact SlO.keep h sF nF
  | scr ns => obtain ⟨a, e, q⟩ := h; exact ⟨a, e, sF.seq q⟩
  | raw v => exact h
/-- a new tuple or list, known from now on -/
theorem Ok.newF {K : Fg} (o : Ok K es σ F H) {p : Addr} {ob : HO} (n : H p = none) : Ok K es σ (upd F p ob) (upd H p ob) :=
  ⟨o.len, fun i e he => (o.slot i e he).keep (same_new (Same.back o.sub n)) fun a vs f hh => by
    have ne : a ≠ p := ne_of_none hh n
    rw [upd_ne ne, upd_ne ne]; exact ⟨f, hh⟩, o.sep, same_upd2 o.sub⟩
theorem Tr.newF {K : Fg} (o : Ok K es σ F H) {p : Addr} {ob : HO} (n : H p = none) : Tr es σ F H es (upd F p ob) (upd H p ob) where
  exF := same_new (Same.back o.sub n)
  new := fun a f h => by
    have ne : a ≠ p := fun z => by rw [z] at h; exact h n
    rw [upd_ne ne]; exact f
  fr := fun a x h _ => same_new n a x h
  dom := fun a h z => by
    by_cases ne : a = p
    · rw [ne] at h; exact h n
    · rw [upd_ne ne] at z; exact h z
  ow := fun _ h => h
  own := fun _ _ ds h => ⟨ds, h⟩
/-- a new list, ours -/
theorem Ok.newH {K : Fg} (o : Ok K es σ F H) {p : Addr} {ob : HO} (n : H p = none) : Ok K es σ F (upd H p ob) :=
  ⟨o.len, fun i e he => (o.slot i e he).keep (Same.refl F) fun a vs f hh => by
    have ne : a ≠ p := ne_of_none hh n
    rw [upd_ne ne]; exact ⟨f, hh⟩, o.sep, fun a x h => same_new n a x (o.sub a x h)⟩
theorem Tr.newH {K : Fg} (o : Ok K es σ F H) {p : Addr} {ob : HO} (n : H p = none) : Tr es σ F H es F (upd H p ob) where
  exF := Same.refl F
  new := fun a f h => f
  fr := fun a x h _ => same_new n a x h
  dom := fun a h z => by
    by_cases ne : a = p
    · rw [ne] at h; exact h n
    · rw [upd_ne ne] at z; exact h z
  ow := fun _ h => h
  own := fun _ _ ds h => ⟨ds, h⟩
/-- a list of ours is known from now on -/
theorem Ok.freeze {K : Fg} (o : Ok K es σ F H) {p : Addr} {vs : List V} (h : H p = some (.lst vs)) (f : F p = none) (n : ¬ Ow es σ p) : Ok K es σ (upd F p (.lst vs)) H := by
  refine ⟨o.len, fun i e he => ?_, o.sep, fun a x h' => ?_⟩
  · have z := o.slot i e he
    have key : ∀ {t ds}, es[i]? = some (mkO t ds) → SlO F H σ[i]? t ds → SlO (upd F p (.lst vs)) H σ[i]? t ds := fun {t ds} he z => by
      obtain ⟨v, l, ws, e1, pt, ins, f1, hh, q⟩ := z
      have ne : l ≠ p := fun e => n ⟨i, t, ds, v, he, e1, by rw [← e]; exact pt⟩
      exact ⟨v, l, ws, e1, pt, ins.mono (same_new f), by rw [upd_ne ne]; exact f1, hh, Rp.monoAll (same_new f) ds ws q⟩
    cases e with
    | own ds => exact key (t := none) he z
    | tab C x l ds => exact key (t := some (C, x, l)) he z
    | val d => obtain ⟨v, e, q⟩ := z; exact ⟨v, e, Rp.mono (same_new f) d v q⟩
    | no => trivial
    | scr ns => obtain ⟨a, e, q⟩ := z; exact ⟨a, e, (same_new f).seq q⟩
    | raw v => exact z
  · by_cases ne : a = p
    · subst ne; rw [upd_same] at h'; cases h'; exact h
    · rw [upd_ne ne] at h'; exact o.sub a x h'
theorem Tr.freeze {p : Addr} {vs : List V} (t : Tr es σ F H es' F' H') (f : F' p = none) (n : H p = none) : Tr es σ F H es' (upd F' p (.lst vs)) H' where
  exF := t.exF.trans (same_new f)
  new := fun a f h => by
    have ne : a ≠ p := fun z => by rw [z] at h; exact h n
    rw [upd_ne ne]; exact t.new a f h
  fr := t.fr
  dom := t.dom
  ow := t.ow
  own := t.own
/-- a result as data -/
@[reducible] def frz : Rs → Rs
  | .new ds => .val (.list ds)
  | r => r
theorem ee_fz (h : EvE X B e es (fun r es' => P (frz r) es')) : EvE X B e es P := fun σ F H o bd Q k => h σ F H o bd Q fun v r es' F' H' p q o' t => by
  cases r with
  | new ds =>
    obtain ⟨l, vs, pt, _, n, f, hh, ra⟩ := q
    have pt : v = .ref l := pt
    subst pt
    have nn : ¬ Ow es' σ l := fun z => by
      obtain ⟨_, w, hw⟩ := o.owned (t.ow l z)
      rw [show H l = none from n] at hw; cases hw
    refine k _ _ es' (upd F' l (.lst vs)) H' p ?_ (o'.freeze hh f nn) (t.freeze f n)
    exact .lst upd_same (Rp.monoAll (same_new f) ds vs ra)
  | val d => exact k _ _ es' F' H' p q o' t
  | sl i => exact k _ _ es' F' H' p q o' t
  | raw w => exact k _ _ es' F' H' p q o' t
  | newT C x l ds => exact k _ _ es' F' H' p q o' t
  | fl i l => exact k _ _ es' F' H' p q o' t

/-! ### names, constants -/
def nameR (i : Nat) : Option En → Option Rs
  | some (.val d) => some (.val d)
  | some (.own _) => some (.sl i)
  | some (.tab _ _ _ _) => some (.sl i)
  | some (.scr _) => some (.sl i)
  | some (.raw v) => some (.raw v)
  | _ => none
theorem ee_name {i : Nat} {x : Str} (hN : X.N[i]? = some x) (hv : Vis X.env.scope x) (h : nameR i es[i]? = some r) (p : P r es)
    (hd : (x == ("__debug__" : Str)) = false := by decide) (hcd : (x == ("__classdict__" : Str)) = false := by decide) : EvE X B (.Name x pos) es P := fun σ F H o bd Q k => by
  refine wE.of (pe_var hN hv hd hcd) ?_
  cases q : es[i]? with
  | none => rw [q] at h; cases h
  | some en =>
    rw [q] at h
    have z := o.slot i en q
    cases en with
    | no => cases h
    | val d => cases h; obtain ⟨v, e, rr⟩ := z; exact ⟨v, e, k.now o p rr⟩
    | own ds => cases h; obtain ⟨v, l, vs, e, _⟩ := z; exact ⟨v, e, k.now o p e⟩
    | tab C x l ds => cases h; obtain ⟨v, l, vs, e, _⟩ := z; exact ⟨v, e, k.now o p e⟩
    | scr ns => cases h; obtain ⟨a, e, _⟩ := z; exact ⟨.ref a, e, k.now o p e⟩
    | raw v => cases h; exact ⟨v, z, k.now o p rfl⟩
theorem ee_int {i : Int} {j} (p : P (.val (.int i)) es) : EvE X B (.Constant (.int i) j pos) es P := fun σ F H o bd Q k => wE.of pe_int (k.now o p (.int i))
theorem ee_bl {i : Bool} {j} (p : P (.val (.bool i)) es) : EvE X B (.Constant (.bool i) j pos) es P := fun σ F H o bd Q k => wE.of pe_bl (k.now o p (.bl i))
theorem ee_non {j} (p : P (.val .none) es) : EvE X B (.Constant .none j pos) es P := fun σ F H o bd Q k => wE.of pe_non (k.now o p .non)
theorem ee_str {i : Str} {j} (p : P (.val (.str i)) es) : EvE X B (.Constant (.str i) j pos) es P := fun σ F H o bd Q k => wE.of pe_str (k.now o p (.str i))
theorem ee_globI {x : Str} {i : Int} {t : Tok} (hg : Gl X x) (hm : X.mg x = some (.int i t)) (p : P (.val (.int i)) es) (hd : (x == ("__debug__" : Str)) = false := by decide) : EvE X B (.Name x pos) es P := fun σ F H o bd Q k =>
  wE.of (pe_glob (v := .int i) hg hm ⟨t, rfl⟩ hd) (k.now o p (.int i))
theorem ee_globR {x : Str} {a : Addr} (hg : Gl X x) (hm : X.mg x = some (.ref a)) (p : P (.raw (.ref a)) es) (hd : (x == ("__debug__" : Str)) = false := by decide) : EvE X B (.Name x pos) es P := fun σ F H o bd Q k =>
  wE.of (pe_glob (v := .ref a) hg hm rfl hd) (k.now o p rfl)
theorem ee_bltn {x : Str} {v : V} {u : Value} (hg : Gl X x) (hm : X.mg x = none) (hv : bootBuiltins x = some u) (rv : RelV v u) (p : P (.raw v) es) (hn : x ≠ "__name__" := by decide) (hd : (x == ("__debug__" : Str)) = false := by decide) : EvE X B (.Name x pos) es P := fun σ F H o bd Q k =>
  wE.of (pe_bltn hg hm hv rv hn hd) (k.now o p rfl)

/-! ### operators -/
theorem ee_two {t : R2} (h : EvE X B a es (fun r1 es1 => EvE X B b es1 (fun r2 es2 => Rd2 X t r1 r2 es2 P))) {σ F H} (o : Ok X.K es σ F H) (bd : Bd B es σ F H) {Q : VK} (k : Kt X.K es σ F H P Q) : tOp t (wE X a) (wE X b) σ H Q :=
  h σ F H o bd _ fun v1 r1 es1 F1 H1 p1 q1 o1 t1 => p1 σ F1 H1 o1 (bd.tr t1) _ fun v2 r2 es2 F2 H2 p2 q2 o2 t2 =>
    p2 σ F2 H2 v1 v2 o2 (RsOk.keep o t1 q1 t2).all q2.all Q (k.after (t1.trans t2))
theorem ee_bin {op : Operator} (h : EvE X B a es (fun r1 es1 => EvE X B b es1 (fun r2 es2 => Rd2 X (rW X (binaryOp op)) r1 r2 es2 P))) : EvE X B (.BinOp a op b pos) es P := fun σ F H o bd Q k =>
  wE.of (pe_op op_w pe_w pe_w) (ee_two h o bd k)
theorem ee_cmp {op : CmpOp} (h : EvE X B a es (fun r1 es1 => EvE X B b es1 (fun r2 es2 => Rd2 X (rW X (compareOp op)) r1 r2 es2 P))) (hm : behindInMarks op b = false := by with_unfolding_all rfl) : EvE X B (.Compare a [op] [b] pos) es P := fun σ F H o bd Q k =>
  wE.of (pe_cmpR op_w pe_w pe_w hm) (ee_two h o bd k)
theorem ee_ix (h : EvE X B a es (fun r1 es1 => EvE X B b es1 (fun r2 es2 => Rd2 X (iW X) r1 r2 es2 P))) (hs : PlainIx b := by with_unfolding_all exact fun _ _ => rfl) : EvE X B (.Subscript a b pos) es P := fun σ F H o bd Q k =>
  wE.of (pe_ix ix_w pe_w pe_w hs) (ee_two h o bd k)
theorem ee_un {op : UnaryOp} (h : EvE X B a es (fun r1 es1 => Rd1 X (uW X (unaryOp op)) r1 es1 P)) : EvE X B (.UnaryOp op a pos) es P := fun σ F H o bd Q k =>
  wE.of (pe_un un_w pe_w) (h σ F H o bd _ fun v1 r1 es1 F1 H1 p1 q1 o1 t1 => p1 σ F1 H1 v1 o1 q1.all Q (k.after t1))
theorem et_cmp {op : CmpOp} {P : Bool → List En → Prop} (h : EvE X B a es (fun r1 es1 => EvE X B b es1 (fun r2 es2 => Rd2 X (rW X (compareOp op)) r1 r2 es2 (fun r es3 => ∃ k, r = .val (.bool k) ∧ P k es3)))) (hm : behindInMarks op b = false := by with_unfolding_all rfl) : EvT X B (.Compare a [op] [b] pos) es P := fun σ F H o bd Q k =>
  wT.of (pt_cmpR op_w pe_w pe_w hm) (ee_two h o bd fun v r es' F' H' p q o' t => by
    obtain ⟨d, rfl, p⟩ := p
    cases q
    exact ⟨d, rfl, k d es' F' H' p o' t⟩)
theorem et_val {P : Bool → List En → Prop} (h : EvE X B a es (fun r es1 => ∃ k, r = .val (.bool k) ∧ P k es1)) (he : ∀ whole, isTrue a X.env whole = (do let v ← whole; standAt a.pos; holding [v] (truthy v)) := by with_unfolding_all (intro _; rfl)) : EvT X B a es P := fun σ F H o bd Q k =>
  wT.of (pt_val pe_w he) (h σ F H o bd _ fun v r es' F' H' p q o' t => by
    obtain ⟨d, rfl, p⟩ := p
    cases q
    exact ⟨d, rfl, k d es' F' H' p o' t⟩)
theorem et_not {P : Bool → List En → Prop} (h : EvT X B a es (fun k es1 => P (!k) es1)) : EvT X B (.UnaryOp .Not a pos) es P := fun σ F H o bd Q k =>
  wT.of (pt_not pt_w) (h σ F H o bd _ fun d es' F' H' p o' t => k _ es' F' H' p o' t)
theorem et_w {P : Bool → List En → Prop} (h : EvW X B a es P) : EvT X B a es P := fun σ F H o bd Q k => wT.of (PW.pt pw_w) (h σ F H o bd Q k)
theorem ew_and1 {P : Bool → List En → Prop} (h : EvT X B a es P) : EvW X B (.BoolOp .And [a] pos) es P := fun σ F H o bd Q k => wW.of (pw_and1 pt_w) (h σ F H o bd Q k)
theorem ew_or1 {P : Bool → List En → Prop} (h : EvT X B a es P) : EvW X B (.BoolOp .Or [a] pos) es P := fun σ F H o bd Q k => wW.of (pw_or1 pt_w) (h σ F H o bd Q k)
theorem ew_and {rest : List Expr} {P : Bool → List En → Prop} (h : EvT X B a es (fun k es1 => (k = true → EvW X B (.BoolOp .And (b :: rest) pos) es1 P) ∧ (k = false → P false es1))) : EvW X B (.BoolOp .And (a :: b :: rest) pos) es P := fun σ F H o bd Q k =>
  wW.of (pw_and pt_w pw_w) (h σ F H o bd _ fun d es1 F1 H1 p1 o1 t1 => by
    cases d with
    | true => exact p1.1 rfl σ F1 H1 o1 (bd.tr t1) Q (k.after t1)
    | false => exact k false es1 F1 H1 (p1.2 rfl) o1 t1)
theorem ew_or {rest : List Expr} {P : Bool → List En → Prop} (h : EvT X B a es (fun k es1 => (k = false → EvW X B (.BoolOp .Or (b :: rest) pos) es1 P) ∧ (k = true → P true es1))) : EvW X B (.BoolOp .Or (a :: b :: rest) pos) es P := fun σ F H o bd Q k =>
  wW.of (pw_or pt_w pw_w) (h σ F H o bd _ fun d es1 F1 H1 p1 o1 t1 => by
    cases d with
    | false => exact p1.1 rfl σ F1 H1 o1 (bd.tr t1) Q (k.after t1)
    | true => exact k true es1 F1 H1 (p1.2 rfl) o1 t1)
theorem ee_one {op} (h : EvE X B a es P) : EvE X B (.BoolOp op [a] pos) es P := fun σ F H o bd Q k => wE.of (pe_one pe_w) (h σ F H o bd Q k)
theorem ee_and {rest : List Expr} (h : EvE X B a es (fun r es1 => ∃ k, r = .val (.bool k) ∧ (k = true → EvE X B (.BoolOp .And (b :: rest) pos) es1 P) ∧ (k = false → P (.val (.bool false)) es1))) : EvE X B (.BoolOp .And (a :: b :: rest) pos) es P := fun σ F H o bd Q k =>
  wE.of (pe_and pe_w pe_w) (h σ F H o bd _ fun v r es1 F1 H1 p1 q1 o1 t1 => by
    obtain ⟨d, rfl, p, q⟩ := p1
    cases q1
    refine ⟨d, rfl, ?_⟩
    cases d with
    | true => exact p rfl σ F1 H1 o1 (bd.tr t1) Q (k.after t1)
    | false => exact k _ _ es1 F1 H1 (q rfl) (.bl false) o1 t1)
theorem ee_or {rest : List Expr} (h : EvE X B a es (fun r es1 => ∃ k, r = .val (.bool k) ∧ (k = false → EvE X B (.BoolOp .Or (b :: rest) pos) es1 P) ∧ (k = true → P (.val (.bool true)) es1))) : EvE X B (.BoolOp .Or (a :: b :: rest) pos) es P := fun σ F H o bd Q k =>
  wE.of (pe_or pe_w pe_w) (h σ F H o bd _ fun v r es1 F1 H1 p1 q1 o1 t1 => by
    obtain ⟨d, rfl, p, q⟩ := p1
    cases q1
    refine ⟨d, rfl, ?_⟩
    cases d with
    | false => exact p rfl σ F1 H1 o1 (bd.tr t1) Q (k.after t1)
    | true => exact k _ _ es1 F1 H1 (q rfl) (.bl true) o1 t1)
theorem ee_not (h : EvE X B a es (fun r es1 => ∃ k, r = .val (.bool k) ∧ P (.val (.bool (!k))) es1)) : EvE X B (.UnaryOp .Not a pos) es P := fun σ F H o bd Q k =>
  wE.of (pe_not pe_w) (h σ F H o bd _ fun v r es1 F1 H1 p1 q1 o1 t1 => by
    obtain ⟨d, rfl, p⟩ := p1
    cases q1
    exact ⟨d, rfl, k _ _ es1 F1 H1 p (.bl _) o1 t1⟩)
theorem ee_if (h : EvT X B c es (fun k es1 => (k = true → EvE X B a es1 P) ∧ (k = false → EvE X B b es1 P))) : EvE X B (.IfExp c a b pos) es P := fun σ F H o bd Q k =>
  wE.of (pe_ifExp pt_w pe_w pe_w) (h σ F H o bd _ fun d es1 F1 H1 p1 o1 t1 => by
    cases d with
    | true => exact p1.1 rfl σ F1 H1 o1 (bd.tr t1) Q (k.after t1)
    | false => exact p1.2 rfl σ F1 H1 o1 (bd.tr t1) Q (k.after t1))
/-- low op a op' high, the first link's operands told -/
theorem ee_chain {op op' : CmpOp} (h : EvE X B a es (fun r1 es1 => EvE X B b es1 (fun r2 es2 => Rd2 X (rW X (compareOp op)) r1 r2 es2 (fun r es3 => ∃ k, r = .val (.bool k) ∧ es3 = es2 ∧
      (k = true → EvE X B c es2 (fun r3 es4 => Rd2 X (rW X (compareOp op')) r2 r3 es4 P)) ∧ (k = false → P (.val (.bool false)) es2)))))
    (hm : lastMarks [op, op'] [b, c] = false := by with_unfolding_all rfl) : EvE X B (.Compare a [op, op'] [b, c] pos) es P := fun σ F H o bd Q k =>
  wE.of (pe_chain op_w op_w pe_w pe_w pe_w hm) (h σ F H o bd _ fun v1 r1 es1 F1 H1 p1 q1 o1 t1 => p1 σ F1 H1 o1 (bd.tr t1) _ fun v2 r2 es2 F2 H2 p2 q2 o2 t2 =>
    p2 σ F2 H2 v1 v2 o2 (RsOk.keep o t1 q1 t2).all q2.all _ fun v r es3 F3 H3 p3 q3 o3 t3 => by
      obtain ⟨d, rfl, rfl, p, q⟩ := p3
      cases q3
      refine ⟨d, rfl, ?_⟩
      cases d with
      | false => exact k _ _ _ F3 H3 (q rfl) (.bl false) o3 ((t1.trans t2).trans t3)
      | true =>
        refine p rfl σ F3 H3 o3 (bd.tr ((t1.trans t2).trans t3)) _ fun v4 r4 es4 F4 H4 p4 q4 o4 t4 => ?_
        exact p4 σ F4 H4 v2 v4 o4 ((RsOk.keep o1 t2 q2 (t3.trans t4))).all q4.all Q (k.after (((t1.trans t2).trans t3).trans t4)))
end
end HL

set_option Elab.async false
set_option linter.all false
set_option maxRecDepth 100000
set_option maxHeartbeats 2000000
set_option autoImplicit false
namespace HL
open PySem PySem.Spec PyProof.Rows L2

/-! ### arguments, displays, calls of built-ins -/
def dats : List Rs → Option (List D)
  | [] => some []
  | .val d :: rs => (dats rs).map (d :: ·)
  | _ => none
section
variable {X : Cx} {B : Bs} {es es1 es2 es' : List En} {σ : L2.St} {F H F1 H1 F2 H2 F' H' : Hp} {v : V} {r r1 r2 : Rs} {rs : List Rs} {P P' : Rs → List En → Prop} {a b c e o : Expr} {l : List Expr} {pos p p2 apos : Pos}
theorem RsAll.dats : ∀ {vs : List V} {rs : List Rs} {ds : List D}, RsAll NT F H σ vs rs → dats rs = some ds → RpAll F vs ds
  | [], [], _, _, e => by cases e; exact .nil
  | v :: vs, r :: rs, ds, h, e => by
    obtain ⟨h1, h2⟩ := h
    cases r with
    | val d =>
      have e : (HL.dats rs).map (d :: ·) = some ds := e
      cases q : HL.dats rs with
      | none => rw [q] at e; cases e
      | some ds' =>
        rw [q] at e
        cases e
        exact .cons h1 (RsAll.dats h2 q)
    | _ => cases e
  | [], _ :: _, _, h, _ => by cases h
  | _ :: _, [], _, h, _ => by cases h
theorem ea_nil {P : List Rs → List En → Prop} (p : P [] es) : EvA X B [] es P := fun σ F H o bd Q k => wA.of pa_nil (k [] [] es F H p trivial o Tr.refl)
theorem ea_cons {P : List Rs → List En → Prop} (h : EvE X B e es (fun r es1 => EvA X B l es1 (fun rs es2 => P (frz r :: rs) es2)))
    (hs : starEach (e :: l) X.env = (false, eval e X.env) :: starEach l X.env := by with_unfolding_all rfl) : EvA X B (e :: l) es P := fun σ F H o bd Q k =>
  wA.of (pa_cons pe_w pa_w hs) ((ee_fz (P := fun r es1 => EvA X B l es1 (fun rs es2 => P (r :: rs) es2)) h) σ F H o bd _ fun v r es1 F1 H1 p1 q1 o1 t1 =>
    p1 σ F1 H1 o1 (bd.tr t1) _ fun vs rs es2 F2 H2 p2 q2 o2 t2 => k (v :: vs) (r :: rs) es2 F2 H2 p2 ⟨(RsOk.keep o t1 q1 t2).all, q2⟩ o2 (t1.trans t2))
theorem ee_tup {x1} (h : EvA X B l es (fun rs es1 => ∃ ds, dats rs = some ds ∧ ds.length ≤ sizeLine ∧ P (.val (.tuple ds)) es1)) : EvE X B (.Tuple l x1 pos) es P := fun σ F H o bd Q k =>
  wE.of (pe_tupF pa_w) (h σ F H o bd _ fun vs rs es1 F1 H1 p1 q1 o1 t1 => by
    obtain ⟨ds, e, hz, p1⟩ := p1
    have ra := q1.dats e
    refine ⟨by rw [ra.length]; exact hz, fun p ob n hc hd => ?_⟩
    exact k _ _ es1 _ _ p1 (.tup ⟨ob, upd_same, hc, hd⟩ (Rp.monoAll (same_new (Same.back o1.sub n)) ds vs ra)) (o1.newF n) (t1.trans (Tr.newF o1 n)))
theorem ee_lst (h : EvA X B l es (fun rs es1 => ∃ ds, dats rs = some ds ∧ ds.length ≤ sizeLine ∧ P (.new ds) es1)) : EvE X B (.List l pos) es P := fun σ F H o bd Q k =>
  wE.of (pe_lst pa_w) (h σ F H o bd _ fun vs rs es1 F1 H1 p1 q1 o1 t1 => by
    obtain ⟨ds, e, hz, p1⟩ := p1
    have ra := q1.dats e
    refine ⟨by rw [ra.length]; exact hz, fun p n => ?_⟩
    refine k (.ref p) _ es1 F1 (upd H1 p (.lst vs)) p1 ⟨p, vs, rfl, trivial, ?_, Same.back o1.sub n, upd_same, ra⟩ (o1.newH n) (t1.trans (Tr.newH o1 n))
    show H p = none
    cases q : H p with
    | none => rfl
    | some x => exact absurd n (t1.dom p (by rw [q]; exact nofun)))
theorem ee_callB {x : Str} {id : String} (hg : Gl X x) (hm : X.mg x = none) (hv : bootBuiltins x = some (.builtin id)) (h : EvA X B (e :: l) es (fun rs es1 => RdC X (cW X (.builtin id)) rs es1 P)) (hn : x ≠ "__name__" := by decide) (hdb : (x == ("__debug__" : Str)) = false := by decide)
    (he : starEach (e :: l) X.env = (false, eval e X.env) :: starEach l X.env := by with_unfolding_all rfl) (hpl : (backTo pos (starEach l X.env)).any (·.1) = false := by with_unfolding_all rfl) : EvE X B (.Call (.Name x p) (e :: l) [] pos) es P := fun σ F H o bd Q k =>
  wE.of (pe_callB call_w hg hm hv pa_w hn hdb he hpl) (h σ F H o bd _ fun vs rs es1 F1 H1 p1 q1 o1 t1 => p1 σ F1 H1 vs o1 q1 Q (k.after t1))
theorem ee_callTy {x : Str} {T : String} (hg : Gl X x) (hm : X.mg x = none) (hv : bootBuiltins x = some (.type T)) (h : EvA X B (e :: l) es (fun rs es1 => RdC X (cW X (.type T)) rs es1 P)) (hn : x ≠ "__name__" := by decide) (hdb : (x == ("__debug__" : Str)) = false := by decide)
    (he : starEach (e :: l) X.env = (false, eval e X.env) :: starEach l X.env := by with_unfolding_all rfl) (hpl : (backTo pos (starEach l X.env)).any (·.1) = false := by with_unfolding_all rfl) : EvE X B (.Call (.Name x p) (e :: l) [] pos) es P := fun σ F H o bd Q k =>
  wE.of (pe_callTy call_w hg hm hv pa_w hn hdb he hpl) (h σ F H o bd _ fun vs rs es1 F1 H1 p1 q1 o1 t1 => p1 σ F1 H1 vs o1 q1 Q (k.after t1))
theorem RsOk.tyList {K : Fg} {N : Addr → Prop} (q : RsOk N F H σ v r) (o : Ok K es σ F H) {ds : List D} (h : den es r = some (.list ds)) : tyV K "list" v H := by
  have z := q.dp o h
  cases z with
  | lst hs ha => exact .inl ⟨rfl, _, hs⟩
/-- xs.m(..) of a list -/
theorem ee_bmL {name : Str} {id : String} (slot : Slot "list" name id) (hty : typeOf (.builtin id) = pure (.type "method_descriptor"))
    (h : EvE X B o es (fun r0 es1 => (∃ ds, den es1 r0 = some (.list ds)) ∧ EvA X B (e :: l) es1 (fun rs es2 => RdM X (mW X id) r0 rs es2 P)))
    (hbase : attributeBase o name X.env (eval o X.env) = eval o X.env := by with_unfolding_all rfl)
    (hfew : ((backTo pos (starEach (e :: l) X.env)).all (fun x => !x.1) && (backToKw pos (keywordEach [] X.env)).all (fun x => x.1.isSome)
      && decide ((e :: l).length + ([] : List Keyword).length + (if ([] : List Keyword).isEmpty then 0 else 1) < 30)) = true := by with_unfolding_all rfl)
    (hline : (apos.endLine == pos.line) = true := by with_unfolding_all rfl) (hs : starEach (e :: l) X.env = (false, eval e X.env) :: starEach l X.env := by with_unfolding_all rfl) (hplain : (backTo pos (starEach l X.env)).any (·.1) = false := by with_unfolding_all rfl) :
    EvE X B (.Call (.Attribute o name apos) (e :: l) [] pos) es P := fun σ F H ok bd Q k =>
  wE.of (pe_bm PySem.F.plainAttrs_list slot hty mt_w pe_w pa_w hbase hfew hline hs hplain) (h σ F H ok bd _ fun v r0 es1 F1 H1 p1 q1 o1 t1 => by
    obtain ⟨⟨ds, hd⟩, p1⟩ := p1
    exact ⟨q1.tyList o1 hd, p1 σ F1 H1 o1 (bd.tr t1) _ fun vs rs es2 F2 H2 p2 q2 o2 t2 => p2 σ F2 H2 v vs o2 (RsOk.keep ok t1 q1 t2).all q2 Q (k.after (t1.trans t2))⟩)
theorem ee_bmL0 {name : Str} {id : String} (slot : Slot "list" name id) (hty : typeOf (.builtin id) = pure (.type "method_descriptor"))
    (h : EvE X B o es (fun r0 es1 => (∃ ds, den es1 r0 = some (.list ds)) ∧ RdM X (mW X id) r0 [] es1 P))
    (hbase : attributeBase o name X.env (eval o X.env) = eval o X.env := by with_unfolding_all rfl) (hline : (apos.endLine == pos.line) = true := by with_unfolding_all rfl) : EvE X B (.Call (.Attribute o name apos) [] [] pos) es P := fun σ F H ok bd Q k =>
  wE.of (pe_bm0 PySem.F.plainAttrs_list slot hty mt_w pe_w hbase hline) (h σ F H ok bd _ fun v r0 es1 F1 H1 p1 q1 o1 t1 => by
    obtain ⟨⟨ds, hd⟩, p1⟩ := p1
    exact ⟨q1.tyList o1 hd, p1 σ F1 H1 v [] o1 q1.all trivial Q (k.after t1)⟩)

/-! ### what stands in a sequence -/
theorem RsOk.seqL {K : Fg} {N : Addr → Prop} (q : RsOk N F H σ v r) (o : Ok K es σ F H) {ds : List D} (h : den es r = some (.list ds)) : ∃ a vs, v = .ref a ∧ SqL K H a vs ∧ RpAll F vs ds := by
  cases r with
  | val d =>
    cases h
    cases q with
    | lst h1 h2 => exact ⟨_, _, rfl, SqL.of (o.sub _ _ h1), h2⟩
  | new ds' =>
    cases h
    obtain ⟨l, vs, pt, _, _, _, hh, ra⟩ := q
    exact ⟨l, vs, pt, SqL.of hh, ra⟩
  | newT C x l ds' => cases h
  | fl i l =>
    obtain ⟨C, x, ds', vs, hd, _, _, hh, ra, _⟩ := fl_at o h
    cases hd
    exact ⟨l, vs, q, SqL.of hh, ra⟩
  | sl i =>
    have hs : σ[i]? = some (some v) := q
    have h : denE es[i]? = some (.list ds) := h
    cases z : es[i]? with
    | none => rw [z] at h; cases h
    | some en =>
      rw [z] at h
      have y := o.slot i _ z
      cases en with
      | val d' =>
        cases h
        obtain ⟨v', e1, e2⟩ := y
        rw [hs] at e1; cases e1
        cases e2 with
        | lst h1 h2 => exact ⟨_, _, rfl, SqL.of (o.sub _ _ h1), h2⟩
      | own ds' =>
        cases h
        obtain ⟨v', l, vs, e1, pt, _, _, hh, e2⟩ := y
        rw [hs] at e1; cases e1
        exact ⟨l, vs, pt, SqL.of hh, e2⟩
      | tab C x l ds' => cases h
      | scr ns =>
        cases h
        obtain ⟨a, e1, e2⟩ := y
        rw [hs] at e1; cases e1
        exact ⟨a, _, rfl, o.sub.seq e2, RpAll.ints ns⟩
      | no => cases h
      | raw w => cases h
  | raw w => cases h
theorem RsOk.seqT {K : Fg} {N : Addr → Prop} (q : RsOk N F H σ v r) (o : Ok K es σ F H) {ds : List D} (h : den es r = some (.tuple ds)) : ∃ a vs, v = .ref a ∧ TupM F a vs ∧ TupM H a vs ∧ RpAll F vs ds := by
  cases r with
  | val d =>
    cases h
    cases q with
    | tup h1 h2 => exact ⟨_, _, rfl, h1, h1.mono o.sub, h2⟩
  | new ds' => cases h
  | newT C x l ds' => cases h
  | fl i l =>
    obtain ⟨C, x, ds', vs, hd, _⟩ := fl_at o h
    cases hd
  | sl i =>
    have hs : σ[i]? = some (some v) := q
    have h : denE es[i]? = some (.tuple ds) := h
    cases z : es[i]? with
    | none => rw [z] at h; cases h
    | some en =>
      rw [z] at h
      have y := o.slot i _ z
      cases en with
      | val d' =>
        cases h
        obtain ⟨v', e1, e2⟩ := y
        rw [hs] at e1; cases e1
        cases e2 with
        | tup h1 h2 => exact ⟨_, _, rfl, h1, h1.mono o.sub, h2⟩
      | own ds' => cases h
      | tab C x l ds' => cases h
      | scr ns => cases h
      | no => cases h
      | raw w => cases h
  | raw w => cases h
/-- a list that is tracked itself (not the script) -/
def isScr (es : List En) : Rs → Bool
  | .sl i => match es[i]? with
    | some (.scr _) => true
    | _ => false
  | _ => false
theorem RsOk.seqH {K : Fg} {N : Addr → Prop} (q : RsOk N F H σ v r) (o : Ok K es σ F H) {ds : List D} (h : den es r = some (.list ds)) (ns : isScr es r = false) : ∃ a vs, v = .ref a ∧ H a = some (.lst vs) ∧ RpAll F vs ds := by
  cases r with
  | val d =>
    cases h
    cases q with
    | lst h1 h2 => exact ⟨_, _, rfl, o.sub _ _ h1, h2⟩
  | new ds' =>
    cases h
    obtain ⟨l, vs, pt, _, _, _, hh, ra⟩ := q
    exact ⟨l, vs, pt, hh, ra⟩
  | newT C x l ds' => cases h
  | fl i l =>
    obtain ⟨C, x, ds', vs, hd, _, _, hh, ra, _⟩ := fl_at o h
    cases hd
    exact ⟨l, vs, q, hh, ra⟩
  | sl i =>
    have hs : σ[i]? = some (some v) := q
    have h : denE es[i]? = some (.list ds) := h
    cases z : es[i]? with
    | none => rw [z] at h; cases h
    | some en =>
      have ns : (match es[i]? with | some (.scr _) => true | _ => false) = false := ns
      rw [z] at h ns
      have y := o.slot i _ z
      cases en with
      | val d' =>
        cases h
        obtain ⟨v', e1, e2⟩ := y
        rw [hs] at e1; cases e1
        cases e2 with
        | lst h1 h2 => exact ⟨_, _, rfl, o.sub _ _ h1, h2⟩
      | own ds' =>
        cases h
        obtain ⟨v', l, vs, e1, pt, _, _, hh, e2⟩ := y
        rw [hs] at e1; cases e1
        exact ⟨l, vs, pt, hh, e2⟩
      | tab C x l ds' => cases h
      | scr ns' => cases ns
      | no => cases h
      | raw w => cases h
  | raw w => cases h

/-! ### results told -/
theorem k_val {d : D} {Q : VK} (k : Kt X.K es σ F H P Q) (o : Ok X.K es σ F H) (p : P (.val d) es) (q : Rp F v d) : Q v H := k.now o p q
theorem k_tup {ds : List D} {vs : List V} {Q : VK} (k : Kt X.K es σ F H P Q) (o : Ok X.K es σ F H) (p : P (.val (.tuple ds)) es) (ra : RpAll F vs ds) {q : Addr} {ob : Obj} (n : H q = none) (hc : ob.cls = .type "tuple") (hd : ob.dict = none) : Q (.ref q) (upd H q (.frz ob (.tup vs))) :=
  k _ _ es _ _ p (.tup ⟨ob, upd_same, hc, hd⟩ (Rp.monoAll (same_new (Same.back o.sub n)) ds vs ra)) (o.newF n) (Tr.newF o n)
theorem k_lst {ds : List D} {vs : List V} {Q : VK} (k : Kt X.K es σ F H P Q) (o : Ok X.K es σ F H) (p : P (.new ds) es) (ra : RpAll F vs ds) {q : Addr} (n : H q = none) : Q (.ref q) (upd H q (.lst vs)) :=
  k (.ref q) _ es F (upd H q (.lst vs)) p ⟨q, vs, rfl, trivial, n, Same.back o.sub n, upd_same, ra⟩ (o.newH n) (Tr.newH o n)

/-! ### ints -/
theorem o_I0 {f : Value → Value → Sem Value} {g : Int → Int → Int} (ho : OpR X f (rI0 fun i j => .int (g i j))) {i j : Int} (p : P (.val (.int (g i j))) es) : Rd2 X (rW X f) (.val (.int i)) (.val (.int j)) es P :=
  Rd2.of ho fun σ F H v1 v2 o a b Q k => by cases a; cases b; exact ⟨i, j, rfl, rfl, k_val k o p (.int _)⟩
theorem o_I {f : Value → Value → Sem Value} {C : Int → Int → Prop} {g : Int → Int → Int} (ho : OpR X f (rI C fun i j => .int (g i j))) {i j : Int} (c : C i j) (p : P (.val (.int (g i j))) es) : Rd2 X (rW X f) (.val (.int i)) (.val (.int j)) es P :=
  Rd2.of ho fun σ F H v1 v2 o a b Q k => by cases a; cases b; exact ⟨i, j, rfl, rfl, c, k_val k o p (.int _)⟩
theorem o_B0 {f : Value → Value → Sem Value} {g : Int → Int → Bool} (ho : OpR X f (rI0 fun i j => .bl (g i j))) {i j : Int} (p : P (.val (.bool (g i j))) es) : Rd2 X (rW X f) (.val (.int i)) (.val (.int j)) es P :=
  Rd2.of ho fun σ F H v1 v2 o a b Q k => by cases a; cases b; exact ⟨i, j, rfl, rfl, k_val k o p (.bl _)⟩
theorem o_add {i j : Int} (p : P (.val (.int (i + j))) es) : Rd2 X (rW X (binaryOp .Add)) (.val (.int i)) (.val (.int j)) es P := o_I0 op_add p
theorem o_sub {i j : Int} (p : P (.val (.int (i - j))) es) : Rd2 X (rW X (binaryOp .Sub)) (.val (.int i)) (.val (.int j)) es P := o_I0 op_sub p
theorem o_mul {i j : Int} (c : CMul i j) (p : P (.val (.int (i * j))) es) : Rd2 X (rW X (binaryOp .Mult)) (.val (.int i)) (.val (.int j)) es P := o_I op_mul c p
theorem o_fdiv {i j : Int} (c : CDiv i j) (p : P (.val (.int (i / j))) es) : Rd2 X (rW X (binaryOp .FloorDiv)) (.val (.int i)) (.val (.int j)) es P := o_I op_fdiv c p
theorem o_mod {i j : Int} (c : 0 < j) (p : P (.val (.int (i % j))) es) : Rd2 X (rW X (binaryOp .Mod)) (.val (.int i)) (.val (.int j)) es P := o_I (C := fun _ j => 0 < j) op_mod c p
theorem o_pow {i j : Int} (c : CPow i j) (p : P (.val (.int (i ^ j.toNat))) es) : Rd2 X (rW X (binaryOp .Pow)) (.val (.int i)) (.val (.int j)) es P := o_I op_pow c p
theorem o_lt {i j : Int} (p : P (.val (.bool (decide (i < j)))) es) : Rd2 X (rW X (compareOp .Lt)) (.val (.int i)) (.val (.int j)) es P := o_B0 op_lt p
theorem o_le {i j : Int} (p : P (.val (.bool (decide (i ≤ j)))) es) : Rd2 X (rW X (compareOp .LtE)) (.val (.int i)) (.val (.int j)) es P := o_B0 op_le p
theorem o_gt {i j : Int} (p : P (.val (.bool (decide (j < i)))) es) : Rd2 X (rW X (compareOp .Gt)) (.val (.int i)) (.val (.int j)) es P := o_B0 op_gt p
theorem o_ge {i j : Int} (p : P (.val (.bool (decide (j ≤ i)))) es) : Rd2 X (rW X (compareOp .GtE)) (.val (.int i)) (.val (.int j)) es P := o_B0 op_ge p
theorem o_neg {i : Int} (p : P (.val (.int (-i))) es) : Rd1 X (uW X (unaryOp .USub)) (.val (.int i)) es P :=
  Rd1.of un_neg fun σ F H v1 o a Q k => by cases a; exact ⟨i, rfl, k_val k o p (.int _)⟩
/-! ### ==, !=, in, not in, is -/
theorem o_eq (hu : X.A.units + 65 < cLine) {d1 d2 : D} (h1 : den es r1 = some d1) (h2 : den es r2 = some d2) (s1 : SeqAt.shaped d1 = true) (s2 : SeqAt.shaped d2 = true) (p : P (.val (.bool (PyData.eqv d1 d2))) es) : Rd2 X (rW X (compareOp .Eq)) r1 r2 es P :=
  Rd2.of (op_eqD (by omega)) fun σ F H v1 v2 o a b Q k => ⟨d1, d2, a.dp o h1, b.dp o h2, s1, s2, k_val k o p (.bl _)⟩
theorem o_ne (hu : X.A.units + 65 < cLine) {d1 d2 : D} (h1 : den es r1 = some d1) (h2 : den es r2 = some d2) (s1 : SeqAt.shaped d1 = true) (s2 : SeqAt.shaped d2 = true) (p : P (.val (.bool (!PyData.eqv d1 d2))) es) : Rd2 X (rW X (compareOp .NotEq)) r1 r2 es P :=
  Rd2.of (op_neD (by omega)) fun σ F H v1 v2 o a b Q k => ⟨d1, d2, a.dp o h1, b.dp o h2, s1, s2, k_val k o p (.bl _)⟩
theorem o_in (hu : X.A.units + 65 < cLine) {d1 : D} {ds : List D} (h1 : den es r1 = some d1) (h2 : den es r2 = some (.list ds)) (s1 : SeqAt.shaped d1 = true) (s2 : SeqAt.shaped (.list ds) = true) (p : P (.val (.bool (ds.any fun z => PyData.eqv z d1))) es) : Rd2 X (rW X (compareOp .In)) r1 r2 es P :=
  Rd2.of (op_inD hu) fun σ F H v1 v2 o a b Q k => ⟨d1, ds, a.dp o h1, b.dp o h2, s1, s2, k_val k o p (.bl _)⟩
theorem o_notIn (hu : X.A.units + 65 < cLine) {d1 : D} {ds : List D} (h1 : den es r1 = some d1) (h2 : den es r2 = some (.list ds)) (s1 : SeqAt.shaped d1 = true) (s2 : SeqAt.shaped (.list ds) = true) (p : P (.val (.bool (!ds.any fun z => PyData.eqv z d1))) es) : Rd2 X (rW X (compareOp .NotIn)) r1 r2 es P :=
  Rd2.of (op_notInD hu) fun σ F H v1 v2 o a b Q k => ⟨d1, ds, a.dp o h1, b.dp o h2, s1, s2, k_val k o p (.bl _)⟩
/-- of tuples (the library's rule for data in a tuple) -/
def rInT (K : PySem.W.Frag) (neg : Bool) : R2 := fun x y H Q => ∃ d ds, Dp K H x d ∧ Dp K H y (.tuple ds) ∧ SeqAt.shaped d = true ∧ SeqAt.shaped (.tuple ds) = true ∧ Q (.bl (if neg then !ds.any fun z => PyData.eqv z d else ds.any fun z => PyData.eqv z d)) H
theorem op_inT (hu : X.A.units + 65 < cLine) : OpR X (compareOp .In) (rInT X.K false) := by
  intro pins s σ H x y v u Q I rx ry h
  obtain ⟨d, ds, hd, he, sd, se, q⟩ := h
  obtain ⟨as, r1⟩ := Dp.reads I d x v hd rx
  obtain ⟨bs, r2⟩ := Dp.reads I (.tuple ds) y u he ry
  exact SeqAt.in_tuple_reads r2 r1 (SeqAt.canLay_of_shaped se) (SeqAt.canLay_of_shaped sd) (room_in_shaped sd hu) ⟨.bl _, H, I, rfl, q⟩
theorem op_notInT (hu : X.A.units + 65 < cLine) : OpR X (compareOp .NotIn) (rInT X.K true) := by
  intro pins s σ H x y v u Q I rx ry h
  obtain ⟨d, ds, hd, he, sd, se, q⟩ := h
  obtain ⟨as, r1⟩ := Dp.reads I d x v hd rx
  obtain ⟨bs, r2⟩ := Dp.reads I (.tuple ds) y u he ry
  exact SeqAt.notIn_tuple_reads r2 r1 (SeqAt.canLay_of_shaped se) (SeqAt.canLay_of_shaped sd) (room_in_shaped sd hu) ⟨.bl _, H, I, rfl, q⟩
theorem o_inT (hu : X.A.units + 65 < cLine) {d1 : D} {ds : List D} (h1 : den es r1 = some d1) (h2 : den es r2 = some (.tuple ds)) (s1 : SeqAt.shaped d1 = true) (s2 : SeqAt.shaped (.tuple ds) = true) (p : P (.val (.bool (ds.any fun z => PyData.eqv z d1))) es) : Rd2 X (rW X (compareOp .In)) r1 r2 es P :=
  Rd2.of (op_inT hu) fun σ F H v1 v2 o a b Q k => ⟨d1, ds, a.dp o h1, b.dp o h2, s1, s2, k_val k o p (.bl _)⟩
theorem o_notInT (hu : X.A.units + 65 < cLine) {d1 : D} {ds : List D} (h1 : den es r1 = some d1) (h2 : den es r2 = some (.tuple ds)) (s1 : SeqAt.shaped d1 = true) (s2 : SeqAt.shaped (.tuple ds) = true) (p : P (.val (.bool (!ds.any fun z => PyData.eqv z d1))) es) : Rd2 X (rW X (compareOp .NotIn)) r1 r2 es P :=
  Rd2.of (op_notInT hu) fun σ F H v1 v2 o a b Q k => ⟨d1, ds, a.dp o h1, b.dp o h2, s1, s2, k_val k o p (.bl _)⟩
def isNone : D → Bool
  | .none => true
  | _ => false
theorem rp_none {H : Hp} {v : V} {d : D} (h : Rp H v d) : decide (v = .non) = isNone d := by cases h <;> rfl
theorem o_is {d : D} (p : P (.val (.bool (isNone d))) es) : Rd2 X (rW X (compareOp .Is)) (.val d) (.val .none) es P :=
  Rd2.of op_isN fun σ F H v1 v2 o a b Q k => by cases b; exact ⟨rfl, k_val k o p (by rw [rp_none a]; exact .bl _)⟩
theorem o_isNot {d : D} (p : P (.val (.bool (!isNone d))) es) : Rd2 X (rW X (compareOp .IsNot)) (.val d) (.val .none) es P :=
  Rd2.of op_notN fun σ F H v1 v2 o a b Q k => by cases b; exact ⟨rfl, k_val k o p (by rw [rp_none a]; exact .bl _)⟩
/-! ### +, * of sequences and texts; subscripts -/
theorem o_addS {i j : Str} (c : i.length + j.length ≤ sizeLine) (p : P (.val (.str (i ++ j))) es) : Rd2 X (rW X (binaryOp .Add)) (.val (.str i)) (.val (.str j)) es P :=
  Rd2.of op_add_str fun σ F H v1 v2 o a b Q k => by cases a; cases b; exact ⟨i, j, rfl, rfl, c, k_val k o p (.str _)⟩
theorem o_cat {ds zs : List D} (h1 : den es r1 = some (.list ds)) (h2 : den es r2 = some (.list zs)) (n1 : isScr es r1 = false) (n2 : isScr es r2 = false) (c : ds.length + zs.length ≤ sizeLine) (p : P (.new (ds ++ zs)) es) : Rd2 X (rW X (binaryOp .Add)) r1 r2 es P :=
  Rd2.of op_cat fun σ F H v1 v2 o a b Q k => by
    obtain ⟨a1, vs, rfl, e1, ra⟩ := a.seqH o h1 n1
    obtain ⟨a2, ws, rfl, e2, rb⟩ := b.seqH o h2 n2
    exact ⟨a1, a2, vs, ws, rfl, rfl, e1, e2, by rw [ra.length, rb.length]; exact c, fun q n => k_lst k o p (ra.append rb) n⟩
theorem o_catT {ds zs : List D} (h1 : den es r1 = some (.tuple ds)) (h2 : den es r2 = some (.tuple zs)) (c : ds.length + zs.length ≤ sizeLine) (p : P (.val (.tuple (ds ++ zs))) es) : Rd2 X (rW X (binaryOp .Add)) r1 r2 es P :=
  Rd2.of op_catF fun σ F H v1 v2 o a b Q k => by
    obtain ⟨a1, vs, rfl, f1, e1, ra⟩ := a.seqT o h1
    obtain ⟨a2, ws, rfl, f2, e2, rb⟩ := b.seqT o h2
    refine ⟨a1, a2, vs, ws, rfl, rfl, e1.seq, e2.seq, by rw [ra.length, rb.length]; exact c, fun z => ?_, fun _ z => ?_, fun _ _ q ob n hc hd => k_tup k o p (ra.append rb) n hc hd⟩
    · subst z
      cases ra
      exact k_val k o p (.tup f2 rb)
    · subst z
      cases rb
      rw [List.append_nil] at p
      exact k_val k o p (.tup f1 ra)
theorem o_repT {ds : List D} {n : Int} (h1 : den es r1 = some (.tuple ds)) (hd : ds ≠ []) (c1 : 2 ≤ n) (c2 : n ≤ 1000) (c3 : ds.length ≤ 1000) (p : P (.val (.tuple (List.replicate n.toNat ds).flatten)) es) : Rd2 X (rW X (binaryOp .Mult)) r1 (.val (.int n)) es P :=
  Rd2.of op_repF fun σ F H v1 v2 o a b Q k => by
    cases b
    obtain ⟨a1, vs, rfl, f1, e1, ra⟩ := a.seqT o h1
    have fl : ∀ m : Nat, RpAll F (List.replicate m vs).flatten (List.replicate m ds).flatten := fun m => by
      induction m with
      | zero => exact .nil
      | succ m ih => rw [List.replicate_succ, List.replicate_succ, List.flatten_cons, List.flatten_cons]; exact ra.append ih
    exact ⟨a1, n, vs, rfl, rfl, e1.seq, fun z => hd (by subst z; cases ra; rfl), c1, c2, by rw [ra.length]; exact c3, fun q ob nn hc hd => k_tup k o p (fl _) nn hc hd⟩
theorem atI_rp {vs : List V} {ds : List D} {i : Int} {d : D} (ra : RpAll F vs ds) (h : atI ds i = some d) : ∃ v, atI vs i = some v ∧ Rp F v d := by
  unfold atI at h ⊢
  rw [ra.length]
  cases e : ixN ds.length i with
  | none => rw [e] at h; cases h
  | some j => rw [e] at h; exact ra.getD h
theorem o_ixL {ds : List D} {i : Int} {d : D} (h1 : den es r1 = some (.list ds)) (h : atI ds i = some d) (p : P (.val d) es) : Rd2 X (iW X) r1 (.val (.int i)) es P :=
  Rd2.ofI ix_list fun σ F H v1 v2 o a b Q k => by
    cases b
    obtain ⟨a1, vs, rfl, e1, ra⟩ := a.seqL o h1
    obtain ⟨v, e2, q⟩ := atI_rp ra h
    exact ⟨a1, vs, i, v, rfl, rfl, e1, e2, k_val k o p q⟩
theorem o_ixT {ds : List D} {i : Int} {d : D} (h1 : den es r1 = some (.tuple ds)) (h : atI ds i = some d) (p : P (.val d) es) : Rd2 X (iW X) r1 (.val (.int i)) es P :=
  Rd2.ofI ix_tup fun σ F H v1 v2 o a b Q k => by
    cases b
    obtain ⟨a1, vs, rfl, f1, e1, ra⟩ := a.seqT o h1
    obtain ⟨v, e2, q⟩ := atI_rp ra h
    exact ⟨a1, vs, i, v, rfl, rfl, e1.seq, e2, k_val k o p q⟩
/-! ### calls -/
theorem rs1 {vs : List V} {r : Rs} (h : RsAll NT F H σ vs [r]) : ∃ v, vs = [v] ∧ RsOk NT F H σ v r := by
  match vs, h with
  | [v], h => exact ⟨v, rfl, h.1⟩
theorem rs2 {vs : List V} {r1 r2 : Rs} (h : RsAll NT F H σ vs [r1, r2]) : ∃ v w, vs = [v, w] ∧ RsOk NT F H σ v r1 ∧ RsOk NT F H σ w r2 := by
  match vs, h with
  | [v, w], h => exact ⟨v, w, rfl, h.1, h.2.1⟩
theorem c_len {ds : List D} (h : den es r = some (.list ds) ∨ den es r = some (.tuple ds)) (p : P (.val (.int ds.length)) es) : RdC X (cW X (.builtin "len")) [r] es P :=
  RdC.of call_len_seq fun σ F H vs o q Q k => by
    obtain ⟨v, rfl, q1⟩ := rs1 q
    rcases h with h | h
    · obtain ⟨a, ws, rfl, e, ra⟩ := q1.seqL o h
      exact ⟨a, ws, rfl, .inl e, k_val k o p (by rw [ra.length]; exact .int _)⟩
    · obtain ⟨a, ws, rfl, f, e, ra⟩ := q1.seqT o h
      exact ⟨a, ws, rfl, .inr e.seq, k_val k o p (by rw [ra.length]; exact .int _)⟩
theorem c_sum (hc : X.calm = true) {ns : List Int} (h : den es r = some (.list (ns.map .int))) (p : P (.val (.int ns.sum)) es) : RdC X (cW X (.builtin "sum")) [r] es P :=
  RdC.of (cr_sum hc) fun σ F H vs o q Q k => by
    obtain ⟨v, rfl, q1⟩ := rs1 q
    obtain ⟨a, ws, rfl, e, ra⟩ := q1.seqL o h
    rw [ra.toInts] at e
    exact ⟨a, ns, rfl, e, k_val k o p (.int _)⟩
theorem c_all (hc : X.calm = true) {ns : List Bool} (h : den es r = some (.list (ns.map .bool))) (p : P (.val (.bool (ns.all id))) es) : RdC X (cW X (.builtin "all")) [r] es P :=
  RdC.of (cr_all hc) fun σ F H vs o q Q k => by
    obtain ⟨v, rfl, q1⟩ := rs1 q
    obtain ⟨a, ws, rfl, e, ra⟩ := q1.seqL o h
    rw [ra.toBls] at e
    exact ⟨a, ns, rfl, e, k_val k o p (.bl _)⟩
theorem c_min2 (hc : X.calm = true) {i j : Int} (p : P (.val (.int (if j < i then j else i))) es) : RdC X (cW X (.builtin "min")) [.val (.int i), .val (.int j)] es P :=
  RdC.of (call_min2 hc) fun σ F H vs o q Q k => by
    obtain ⟨v, w, rfl, a, b⟩ := rs2 q
    cases a; cases b
    exact ⟨i, j, rfl, k_val k o p (.int _)⟩
theorem c_max2 (hc : X.calm = true) {i j : Int} (p : P (.val (.int (if j > i then j else i))) es) : RdC X (cW X (.builtin "max")) [.val (.int i), .val (.int j)] es P :=
  RdC.of (call_max2 hc) fun σ F H vs o q Q k => by
    obtain ⟨v, w, rfl, a, b⟩ := rs2 q
    cases a; cases b
    exact ⟨i, j, rfl, k_val k o p (.int _)⟩
theorem c_abs {i : Int} (p : P (.val (.int (if i < 0 then -i else i))) es) : RdC X (cW X (.builtin "abs")) [.val (.int i)] es P :=
  RdC.of call_abs fun σ F H vs o q Q k => by
    obtain ⟨v, rfl, a⟩ := rs1 q
    cases a
    exact ⟨i, rfl, k_val k o p (.int _)⟩
theorem c_sortedI {ns : List Int} (h : den es r = some (.list (ns.map .int))) (p : ∀ ns' : List Int, ns'.Perm ns → ns'.Pairwise (· ≤ ·) → P (.new (ns'.map .int)) es) : RdC X (cW X (.builtin "sorted")) [r] es P :=
  RdC.of cr_sortedI fun σ F H vs o q Q k => by
    obtain ⟨v, rfl, q1⟩ := rs1 q
    obtain ⟨a, ws, rfl, e, ra⟩ := q1.seqL o h
    rw [ra.toInts] at e
    exact ⟨a, ns, rfl, e, fun ns' q' h1 h2 n => k_lst k o (p ns' h1 h2) (RpAll.ints ns') n⟩
theorem c_list {ds : List D} (h : den es r = some (.list ds) ∨ den es r = some (.tuple ds)) (p : P (.new ds) es) : RdC X (cW X (.type "list")) [r] es P :=
  RdC.of call_list_of fun σ F H vs o q Q k => by
    obtain ⟨v, rfl, q1⟩ := rs1 q
    rcases h with h | h
    · obtain ⟨a, ws, rfl, e, ra⟩ := q1.seqL o h
      exact ⟨a, ws, rfl, .inl e, fun l n => k_lst k o p ra n⟩
    · obtain ⟨a, ws, rfl, f, e, ra⟩ := q1.seqT o h
      exact ⟨a, ws, rfl, .inr e.seq, fun l n => k_lst k o p ra n⟩
theorem c_tuple {ds : List D} (h : den es r = some (.list ds) ∨ den es r = some (.tuple ds)) (p : P (.val (.tuple ds)) es) : RdC X (cW X (.type "tuple")) [r] es P :=
  RdC.of call_tupleF fun σ F H vs o q Q k => by
    obtain ⟨v, rfl, q1⟩ := rs1 q
    rcases h with h | h
    · obtain ⟨a, ws, rfl, e, ra⟩ := q1.seqL o h
      exact ⟨a, ws, rfl, .inl ⟨e, fun l ob n hc hd => k_tup k o p ra n hc hd⟩⟩
    · obtain ⟨a, ws, rfl, f, e, ra⟩ := q1.seqT o h
      exact ⟨a, ws, rfl, .inr ⟨e.seq, k_val k o p (.tup f ra)⟩⟩
end
end HL

set_option Elab.async false
set_option linter.all false
set_option maxRecDepth 100000
set_option maxHeartbeats 2000000
set_option autoImplicit false
namespace HL
open PySem PySem.Spec PyProof.Rows L2

/-! ### kinds -/
def tyN : D → String
  | .none => "NoneType"
  | .bool _ => "bool"
  | .int _ => "int"
  | .str _ => "str"
  | .list _ => "list"
  | .tuple _ => "tuple"
  | .dict _ => "dict"
theorem Dp.ty {K : Fg} {H : Hp} {v : V} {d : D} (h : Dp K H v d) : TyX K H v (.type (tyN d)) := by
  cases h with
  | non => exact .base .non
  | bl b => exact .base (.bl b)
  | int i => exact .base (.int i)
  | str x => exact .base (.str x)
  | lst hs _ =>
    rcases hs with (h | ⟨o, h⟩) | ⟨o, its, n, h, c, _⟩
    · exact .base (.lst h)
    · exact .base (.frz h)
    · exact .kList h c
  | tup hs _ =>
    rcases hs with (h | ⟨o, h⟩) | ⟨o, its, n, h, c, _⟩
    · exact .base (.tup h)
    · exact .fTuple h
    · exact .kTuple h c
def isIntB : D → Bool
  | .int _ => true
  | .bool _ => true
  | _ => false
def isBoolB : D → Bool
  | .bool _ => true
  | _ => false
def isTupB : D → Bool
  | .tuple _ => true
  | _ => false
def isLstB : D → Bool
  | .list _ => true
  | _ => false
def isStrB : D → Bool
  | .str _ => true
  | _ => false
section
variable {X : Cx} {B : Bs} {es es1 es2 es' : List En} {σ : L2.St} {F H F1 H1 F2 H2 F' H' : Hp} {v : V} {r r1 r2 : Rs} {rs : List Rs} {P P' : Rs → List En → Prop} {a b c e o : Expr} {l : List Expr} {pos p p2 apos : Pos}
theorem c_isi {d : D} {T : String} {k : Bool} (h : den es r = some d) (hk : kitB (tyN d) T = some k) (p : P (.val (.bool k)) es) : RdC X (cW X (.builtin "isinstance")) [r, .raw (.ty T)] es P :=
  RdC.of call_isi fun σ F H vs o q Q kk => by
    obtain ⟨v, w, rfl, a, b⟩ := rs2 q
    have e : w = .ty T := b
    subst e
    exact ⟨v, .ty T, .type (tyN d), .type T, k, rfl, .ty T, Dp.ty (a.dp o h), kit_ty hk, k_val kk o p (.bl k)⟩
theorem kb_int : ∀ (d : D) (h : ∀ kv, d ≠ .dict kv), kitB (tyN d) "int" = some (isIntB d)
  | .none, _ => (by decide +kernel : kitB "NoneType" "int" = some false)
  | .bool _, _ => (by decide +kernel : kitB "bool" "int" = some true)
  | .int _, _ => (by decide +kernel : kitB "int" "int" = some true)
  | .str _, _ => (by decide +kernel : kitB "str" "int" = some false)
  | .list _, _ => (by decide +kernel : kitB "list" "int" = some false)
  | .tuple _, _ => (by decide +kernel : kitB "tuple" "int" = some false)
  | .dict kv, h => absurd rfl (h kv)
theorem kb_bool : ∀ (d : D) (h : ∀ kv, d ≠ .dict kv), kitB (tyN d) "bool" = some (isBoolB d)
  | .none, _ => (by decide +kernel : kitB "NoneType" "bool" = some false)
  | .bool _, _ => (by decide +kernel : kitB "bool" "bool" = some true)
  | .int _, _ => (by decide +kernel : kitB "int" "bool" = some false)
  | .str _, _ => (by decide +kernel : kitB "str" "bool" = some false)
  | .list _, _ => (by decide +kernel : kitB "list" "bool" = some false)
  | .tuple _, _ => (by decide +kernel : kitB "tuple" "bool" = some false)
  | .dict kv, h => absurd rfl (h kv)
theorem kb_tuple : ∀ (d : D) (h : ∀ kv, d ≠ .dict kv), kitB (tyN d) "tuple" = some (isTupB d)
  | .none, _ => (by decide +kernel : kitB "NoneType" "tuple" = some false)
  | .bool _, _ => (by decide +kernel : kitB "bool" "tuple" = some false)
  | .int _, _ => (by decide +kernel : kitB "int" "tuple" = some false)
  | .str _, _ => (by decide +kernel : kitB "str" "tuple" = some false)
  | .list _, _ => (by decide +kernel : kitB "list" "tuple" = some false)
  | .tuple _, _ => (by decide +kernel : kitB "tuple" "tuple" = some true)
  | .dict kv, h => absurd rfl (h kv)
theorem kb_list : ∀ (d : D) (h : ∀ kv, d ≠ .dict kv), kitB (tyN d) "list" = some (isLstB d)
  | .none, _ => (by decide +kernel : kitB "NoneType" "list" = some false)
  | .bool _, _ => (by decide +kernel : kitB "bool" "list" = some false)
  | .int _, _ => (by decide +kernel : kitB "int" "list" = some false)
  | .str _, _ => (by decide +kernel : kitB "str" "list" = some false)
  | .list _, _ => (by decide +kernel : kitB "list" "list" = some true)
  | .tuple _, _ => (by decide +kernel : kitB "tuple" "list" = some false)
  | .dict kv, h => absurd rfl (h kv)
theorem kb_str : ∀ (d : D) (h : ∀ kv, d ≠ .dict kv), kitB (tyN d) "str" = some (isStrB d)
  | .none, _ => (by decide +kernel : kitB "NoneType" "str" = some false)
  | .bool _, _ => (by decide +kernel : kitB "bool" "str" = some false)
  | .int _, _ => (by decide +kernel : kitB "int" "str" = some false)
  | .str _, _ => (by decide +kernel : kitB "str" "str" = some true)
  | .list _, _ => (by decide +kernel : kitB "list" "str" = some false)
  | .tuple _, _ => (by decide +kernel : kitB "tuple" "str" = some false)
  | .dict kv, h => absurd rfl (h kv)
theorem rp_nodict {d : D} (h : Rp F v d) : ∀ kv, d ≠ .dict kv := by cases h <;> intro _ z <;> cases z
theorem c_isInt {d : D} (p : P (.val (.bool (isIntB d))) es) : RdC X (cW X (.builtin "isinstance")) [.val d, .raw (.ty "int")] es P := fun σ F H vs o q => by
  obtain ⟨v, w, rfl, a, b⟩ := rs2 q
  exact c_isi (r := .val d) rfl (kb_int d (rp_nodict a)) p σ F H _ o q
theorem c_isBool {d : D} (p : P (.val (.bool (isBoolB d))) es) : RdC X (cW X (.builtin "isinstance")) [.val d, .raw (.ty "bool")] es P := fun σ F H vs o q => by
  obtain ⟨v, w, rfl, a, b⟩ := rs2 q
  exact c_isi (r := .val d) rfl (kb_bool d (rp_nodict a)) p σ F H _ o q
theorem c_isTup {d : D} (p : P (.val (.bool (isTupB d))) es) : RdC X (cW X (.builtin "isinstance")) [.val d, .raw (.ty "tuple")] es P := fun σ F H vs o q => by
  obtain ⟨v, w, rfl, a, b⟩ := rs2 q
  exact c_isi (r := .val d) rfl (kb_tuple d (rp_nodict a)) p σ F H _ o q
theorem c_isLst {d : D} (p : P (.val (.bool (isLstB d))) es) : RdC X (cW X (.builtin "isinstance")) [.val d, .raw (.ty "list")] es P := fun σ F H vs o q => by
  obtain ⟨v, w, rfl, a, b⟩ := rs2 q
  exact c_isi (r := .val d) rfl (kb_list d (rp_nodict a)) p σ F H _ o q
theorem c_isStr {d : D} (p : P (.val (.bool (isStrB d))) es) : RdC X (cW X (.builtin "isinstance")) [.val d, .raw (.ty "str")] es P := fun σ F H vs o q => by
  obtain ⟨v, w, rfl, a, b⟩ := rs2 q
  exact c_isi (r := .val d) rfl (kb_str d (rp_nodict a)) p σ F H _ o q

/-! ### a list of ours is changed -/
theorem get_set {α : Type} {l : List α} {i j : Nat} {x y : α} (h : (l.set i x)[j]? = some y) : (j = i ∧ y = x ∧ i < l.length) ∨ (j ≠ i ∧ l[j]? = some y) := by
  by_cases e : i = j
  · subst e
    by_cases hl : i < l.length
    · rw [List.getElem?_set_self hl] at h; cases h; exact .inl ⟨rfl, rfl, hl⟩
    · rw [List.getElem?_eq_none (by simpa using hl)] at h; cases h
  · rw [List.getElem?_set_ne e] at h; exact .inr ⟨fun z => e z.symm, h⟩
theorem OwAt.set {i j : Nat} {t : Tg} {ds ds' : List D} (hi : es[i]? = some (mkO t ds)) {a : Addr} : OwAt (es.set i (mkO t ds')) σ j a ↔ OwAt es σ j a := by
  constructor
  · rintro ⟨t2, d, v, h1, h2, h3⟩
    rcases get_set h1 with ⟨rfl, e, _⟩ | ⟨_, h⟩
    · obtain ⟨rfl, rfl⟩ := mkO_inj e
      exact ⟨_, _, v, hi, h2, h3⟩
    · exact ⟨_, _, v, h, h2, h3⟩
  · rintro ⟨t2, d, v, h1, h2, h3⟩
    by_cases e : i = j
    · subst e
      rw [hi] at h1
      obtain ⟨rfl, rfl⟩ := mkO_inj (Option.some.inj h1)
      exact ⟨t, ds', v, List.getElem?_set_self (List.getElem?_eq_some_iff.mp hi).1, h2, h3⟩
    · exact ⟨t2, d, v, by rw [List.getElem?_set_ne e]; exact h1, h2, h3⟩
theorem Ow.set {i : Nat} {t : Tg} {ds ds' : List D} (hi : es[i]? = some (mkO t ds)) {a : Addr} : Ow (es.set i (mkO t ds')) σ a ↔ Ow es σ a :=
  ⟨fun ⟨j, h⟩ => ⟨j, (OwAt.set hi).mp h⟩, fun ⟨j, h⟩ => ⟨j, (OwAt.set hi).mpr h⟩⟩
theorem Ok.mutG {K : Fg} (o : Ok K es σ F H) {i : Nat} {t : Tg} {ds ds' : List D} {lp : Addr} {vs' : List V} (hi : es[i]? = some (mkO t ds)) (hl : OwAt es σ i lp) (ra : RpAll F vs' ds') : Ok K (es.set i (mkO t ds')) σ F (upd H lp (.lst vs')) := by
  obtain ⟨v0, l0, vs0, e0, p0, i0, f0, h0, r0⟩ := o.slO hi
  obtain ⟨t1, d1, v1, g1, g2, g3⟩ := hl
  rw [hi] at g1
  obtain ⟨rfl, rfl⟩ := mkO_inj (Option.some.inj g1)
  rw [g2] at e0
  cases e0
  obtain rfl := p0.uniq g3
  refine ⟨by simpa using o.len, fun j e he => ?_, fun j k a h1 h2 => o.sep j k a ((OwAt.set hi).mp h1) ((OwAt.set hi).mp h2), fun a x h => ?_⟩
  · rcases get_set he with ⟨rfl, rfl, _⟩ | ⟨ne, he⟩
    · exact slOk_mk.mpr ⟨v0, _, vs', g2, p0, i0, f0, upd_same, ra⟩
    · have z := o.slot j e he
      have key : ∀ {t2 d2}, es[j]? = some (mkO t2 d2) → SlO F H σ[j]? t2 d2 → SlO F (upd H l0 (.lst vs')) σ[j]? t2 d2 := fun {t2 d2} he z => by
        obtain ⟨v2, a, vs, ea, p, ii, f, hh, q⟩ := z
        have hne : a ≠ l0 := fun z => by
          rw [z] at p
          exact ne (o.sep j i l0 ⟨t2, d2, v2, he, ea, p⟩ ⟨t, ds, v0, hi, g2, p0⟩)
        exact ⟨v2, a, vs, ea, p, ii, f, by rw [upd_ne hne]; exact hh, q⟩
      cases e with
      | own d2 => exact key (t2 := none) he z
      | tab C x l d2 => exact key (t2 := some (C, x, l)) he z
      | val d => exact z
      | no => trivial
      | scr ns => exact z
      | raw v => exact z
  · have ne : a ≠ l0 := fun z => by rw [z, f0] at h; cases h
    rw [upd_ne ne]; exact o.sub a x h
theorem Tr.mutG {K : Fg} (o : Ok K es σ F H) {i : Nat} {t : Tg} {ds ds' : List D} {lp : Addr} {vs' : List V} (hi : es[i]? = some (mkO t ds)) (hl : OwAt es σ i lp) : Tr es σ F H (es.set i (mkO t ds')) F (upd H lp (.lst vs')) where
  exF := Same.refl F
  new := fun a f _ => f
  fr := fun a x h n => by
    have ne : a ≠ lp := fun z => n ⟨i, by rw [z]; exact hl⟩
    rw [upd_ne ne]; exact h
  dom := fun a h z => by
    by_cases ne : a = lp
    · rw [ne, upd_same] at z; cases z
    · rw [upd_ne ne] at z; exact h z
  ow := fun a h => (Ow.set hi).mp h
  own := fun j t2 d h => by
    by_cases e : i = j
    · subst e
      rw [hi] at h
      obtain ⟨rfl, rfl⟩ := mkO_inj (Option.some.inj h)
      exact ⟨ds', List.getElem?_set_self (List.getElem?_eq_some_iff.mp hi).1⟩
    · exact ⟨d, by rw [List.getElem?_set_ne e]; exact h⟩
theorem own_is {i : Nat} {ds : List D} {lp : Addr} (hi : es[i]? = some (.own ds)) (hl : σ[i]? = some (some (.ref lp))) : OwAt es σ i lp := ⟨none, ds, .ref lp, hi, hl, rfl⟩
theorem Ok.mut {K : Fg} (o : Ok K es σ F H) {i : Nat} {ds ds' : List D} {lp : Addr} {vs' : List V} (hi : es[i]? = some (.own ds)) (hl : σ[i]? = some (some (.ref lp))) (ra : RpAll F vs' ds') : Ok K (es.set i (.own ds')) σ F (upd H lp (.lst vs')) :=
  Ok.mutG (t := none) (ds := ds) (ds' := ds') o hi (own_is hi hl) ra
theorem Tr.mut {K : Fg} (o : Ok K es σ F H) {i : Nat} {ds ds' : List D} {lp : Addr} {vs' : List V} (hi : es[i]? = some (.own ds)) (hl : σ[i]? = some (some (.ref lp))) : Tr es σ F H (es.set i (.own ds')) F (upd H lp (.lst vs')) :=
  Tr.mutG (t := none) (ds := ds) (ds' := ds') o hi (own_is hi hl)
theorem own_at {K : Fg} {N : Addr → Prop} (o : Ok K es σ F H) {i : Nat} {ds : List D} (hi : es[i]? = some (.own ds)) (q : RsOk N F H σ v (.sl i)) : ∃ l vs, v = .ref l ∧ σ[i]? = some (some (.ref l)) ∧ H l = some (.lst vs) ∧ RpAll F vs ds := by
  obtain ⟨v', l, vs, e, p, _, _, h, ra⟩ := o.slot i _ hi
  have q : σ[i]? = some (some v) := q
  rw [e] at q
  cases q
  have p : v = .ref l := p
  subst p
  exact ⟨l, vs, rfl, e, h, ra⟩
/-- behind a change of our list in slot i -/
theorem k_mut {i : Nat} {ds ds' : List D} {lp : Addr} {vs' : List V} {Q : VK} (k : Kt X.K es σ F H P Q) (o : Ok X.K es σ F H) (hi : es[i]? = some (.own ds)) (hl : σ[i]? = some (some (.ref lp))) (ra : RpAll F vs' ds') {d : D} (p : P (.val d) (es.set i (.own ds'))) (q : Rp F v d) : Q v (upd H lp (.lst vs')) :=
  k v (.val d) _ F _ p q (o.mut hi hl ra) (Tr.mut o hi hl)
theorem m_append {i : Nat} {ds : List D} {d : D} (hi : es[i]? = some (.own ds)) (hz : ds.length < sizeLine) (p : P (.val .none) (es.set i (.own (ds ++ [d])))) : RdM X (mW X "list.append") (.sl i) [.val d] es P :=
  RdM.of mt_append fun σ F H v vs o a b Q k => by
    obtain ⟨w, rfl, b1⟩ := rs1 b
    obtain ⟨l, ws, rfl, hl, hh, ra⟩ := own_at o hi a
    exact ⟨l, ws, w, rfl, rfl, hh, by rw [ra.length]; exact hz, k_mut k o hi hl (ra.append (.cons b1 .nil)) p .non⟩
theorem m_popAt {i : Nat} {ds : List D} {d : D} {n : Int} {j : Nat} (hi : es[i]? = some (.own ds)) (h1 : -(2 ^ 63) ≤ n) (h2 : n < 2 ^ 63) (h3 : seqIndex? n ds.length = some j) (h4 : ds[j]? = some d) (p : P (.val d) (es.set i (.own (ds.eraseIdx j)))) : RdM X (mW X "list.pop") (.sl i) [.val (.int n)] es P :=
  RdM.of mt_popAt fun σ F H v vs o a b Q k => by
    obtain ⟨w, rfl, b1⟩ := rs1 b
    cases b1
    obtain ⟨l, ws, rfl, hl, hh, ra⟩ := own_at o hi a
    obtain ⟨x, e1, e2⟩ := ra.getD h4
    exact ⟨l, ws, n, j, x, rfl, rfl, hh, h1, h2, by rw [ra.length]; exact h3, e1, k_mut k o hi hl (ra.eraseIdx j) p e2⟩
theorem m_pop {i : Nat} {ds : List D} {d : D} (hi : es[i]? = some (.own ds)) (h4 : ds[ds.length - 1]? = some d) (p : P (.val d) (es.set i (.own ds.dropLast))) : RdM X (mW X "list.pop") (.sl i) [] es P :=
  RdM.of mt_pop fun σ F H v vs o a b Q k => by
    cases vs with
    | cons _ _ => exact b.elim
    | nil =>
      obtain ⟨l, ws, rfl, hl, hh, ra⟩ := own_at o hi a
      obtain ⟨x, e1, e2⟩ := ra.getD h4
      refine ⟨l, ws, x, rfl, rfl, hh, by rw [ra.length]; exact e1, k_mut k o hi hl ?_ p e2⟩
      rw [List.dropLast_eq_take, List.dropLast_eq_take, ra.length]
      exact ra.take _
theorem m_remove {i : Nat} {ns : List Int} {n : Int} (hi : es[i]? = some (.own (ns.map .int))) (h : n ∈ ns) (p : P (.val .none) (es.set i (.own ((ns.erase n).map .int)))) : RdM X (mW X "list.remove") (.sl i) [.val (.int n)] es P :=
  RdM.of mt_remove fun σ F H v vs o a b Q k => by
    obtain ⟨w, rfl, b1⟩ := rs1 b
    cases b1
    obtain ⟨l, ws, rfl, hl, hh, ra⟩ := own_at o hi a
    obtain ⟨j, _, j1, j2, j3⟩ := first_at h
    rw [ra.toInts] at hh
    refine ⟨l, ns, n, j, rfl, rfl, hh, j1, j2, ?_⟩
    rw [j3]
    exact k_mut k o hi hl (RpAll.ints _) p .non
theorem m_insert {i : Nat} {ds : List D} {d : D} {n : Int} (hi : es[i]? = some (.own ds)) (hz : ds.length < sizeLine) (h1 : 0 ≤ n) (h2 : n < 2 ^ 63) (p : P (.val .none) (es.set i (.own (ds.take n.toNat ++ [d] ++ ds.drop n.toNat)))) : RdM X (mW X "list.insert") (.sl i) [.val (.int n), .val d] es P :=
  RdM.of mt_insert fun σ F H v vs o a b Q k => by
    obtain ⟨w, w2, rfl, b1, b2⟩ := rs2 b
    cases b1
    obtain ⟨l, ws, rfl, hl, hh, ra⟩ := own_at o hi a
    exact ⟨l, ws, n, w2, rfl, rfl, hh, by rw [ra.length]; exact hz, h1, h2, k_mut k o hi hl (((ra.take _).append (.cons b2 .nil)).append (ra.drop _)) p .non⟩
theorem m_extend {i : Nat} {ds zs : List D} (hi : es[i]? = some (.own ds)) (hz : ds.length + zs.length ≤ sizeLine) (p : P (.val .none) (es.set i (.own (ds ++ zs)))) : RdM X (mW X "list.extend") (.sl i) [.val (.list zs)] es P :=
  RdM.of mt_extend fun σ F H v vs o a b Q k => by
    obtain ⟨w, rfl, b1⟩ := rs1 b
    obtain ⟨l, ws, rfl, hl, hh, ra⟩ := own_at o hi a
    cases b1 with
    | lst h1 h2 => exact ⟨l, _, ws, _, rfl, rfl, hh, o.sub _ _ h1, by rw [ra.length, h2.length]; exact hz, k_mut k o hi hl (ra.append h2) p .non⟩

/-! ### slices -/
def cutD (xs : List D) (lo hi : Option Int) : List D := (xs.drop (HT.sIx xs.length 0 lo)).take (HT.sIx xs.length xs.length hi - HT.sIx xs.length 0 lo)
theorem cut_rp {vs : List V} {ds : List D} (ra : RpAll F vs ds) (lo hi : Option Int) : RpAll F (cutV vs lo hi) (cutD ds lo hi) := by
  unfold cutV cutD
  rw [ra.length]
  exact (ra.drop _).take _
def wO (X : Cx) (e : Option Expr) : TO := fun σ H Q => ∀ pins s, Inv X pins σ H s → wpAny (model X.prog X.w) X.A (evalPart e X.env) (fun u s' => ∃ o H', Inv X pins σ H' s' ∧ IsPart u o ∧ Q o H') X.xe s
theorem po_w {e : Option Expr} : PO X e (wO X e) := ⟨fun pins s _ _ _ I h => h pins s I⟩
theorem wO.of {e : Option Expr} {t : TO} (h : PO X e t) {σ : L2.St} {H : Hp} {Q : Option Int → Hp → Prop} (q : t σ H Q) : wO X e σ H Q := fun pins s I => h.run pins s σ H Q I q
def EvO (X : Cx) (B : Bs) (e : Option Expr) (es : List En) (P : Option Int → List En → Prop) : Prop :=
  ∀ σ F H, Ok X.K es σ F H → Bd B es σ F H → ∀ Q : Option Int → Hp → Prop, (∀ b es' F' H', P b es' → Ok X.K es' σ F' H' → Tr es σ F H es' F' H' → Q b H') → wO X e σ H Q
theorem eo_none {P : Option Int → List En → Prop} (p : P none es) : EvO X B none es P := fun σ F H o bd Q k => wO.of po_none (k none es F H p o Tr.refl)
theorem eo_some {P : Option Int → List En → Prop} (h : EvE X B e es (fun r es1 => ∃ i, r = .val (.int i) ∧ P (some i) es1)) : EvO X B (some e) es P := fun σ F H o bd Q k =>
  wO.of (po_some pe_w) (h σ F H o bd _ fun v r es1 F1 H1 p1 q1 o1 t1 => by
    obtain ⟨i, rfl, p⟩ := p1
    cases q1
    exact ⟨i, rfl, k _ es1 F1 H1 p o1 t1⟩)
def RdS (K : Fg) (r : Rs) (lo hi : Option Int) (es : List En) (P : Rs → List En → Prop) : Prop :=
  (∃ ds, den es r = some (.list ds) ∧ P (.new (cutD ds lo hi)) es) ∨ ∃ ds, den es r = some (.tuple ds) ∧ P (.val (.tuple (cutD ds lo hi))) es
theorem ee_slice {lo hi : Option Expr} (h : EvE X B e es (fun r es1 => EvO X B lo es1 (fun l es2 => EvO X B hi es2 (fun u es3 => RdS X.K r l u es3 P)))) : EvE X B (.Subscript e (.Slice lo hi none p2) pos) es P := fun σ F H o bd Q k =>
  wE.of (pe_slice (sl_list.or sl_tupF) pe_w po_w po_w) (h σ F H o bd _ fun v1 r1 es1 F1 H1 p1 q1 o1 t1 => p1 σ F1 H1 o1 (bd.tr t1) _ fun l es2 F2 H2 p2 o2 t2 => p2 σ F2 H2 o2 (bd.tr (t1.trans t2)) _ fun u es3 F3 H3 p3 o3 t3 => by
    have q3 := RsOk.keep o t1 q1 (t2.trans t3)
    have kk := k.after (t1.trans (t2.trans t3))
    rcases p3 with ⟨ds, hd, p⟩ | ⟨ds, hd, p⟩
    · obtain ⟨a, vs, rfl, hs, ra⟩ := q3.seqL o3 hd
      exact .inl ⟨a, vs, rfl, hs, fun q n => k_lst kk o3 p (cut_rp ra l u) n⟩
    · obtain ⟨a, vs, rfl, f3, hs, ra⟩ := q3.seqT o3 hd
      refine .inr ⟨a, vs, rfl, hs.seq, fun z => ?_, fun _ q ob n hc hd => k_tup kk o3 p (cut_rp ra l u) n hc hd⟩
      have e : cutD ds l u = ds := by
        unfold cutD
        rw [ra.length] at z
        rw [z.1, z.2]
        simp
      rw [e] at p
      exact k_val kk o3 p (.tup f3 ra))
end
end HL

set_option Elab.async false
set_option linter.all false
set_option maxRecDepth 100000
set_option maxHeartbeats 2000000
set_option autoImplicit false
namespace HL
open PySem PySem.Spec PyProof.Rows L2

/-! ### what is walked -/
structure ItOk (J : It) (items : List D) (F : Hp) : Prop where
  go : ∀ (i : Nat) H, i < items.length → Same F H → J.go i H
  stop : ∀ H, Same F H → J.stop items.length H
  yld : ∀ (i : Nat) H x H' d, items[i]? = some d → Same F H → J.yld i H x H' → (H' = H ∧ Rp F x d) ∨ ∃ T ob vs ds, x = .ref T ∧ H T = none ∧ ob.cls = .type "tuple" ∧ ob.dict = none ∧ H' = upd H T (.frz ob (.tup vs)) ∧ d = .tuple ds ∧ RpAll F vs ds
def EvI (X : Cx) (B : Bs) (tg iter : Expr) (es : List En) (P : List D → List En → Prop) : Prop :=
  ∀ σ F H, Ok X.K es σ F H → Bd B es σ F H → ∀ R : It → Hp → Prop, (∀ J items es' F' H', P items es' → ItOk J items F' → Ok X.K es' σ F' H' → Tr es σ F H es' F' H' → R J H') → wI X tg iter σ H R
section
variable {X : Cx} {B : Bs} {es es1 es2 es' : List En} {σ : L2.St} {F H F1 H1 F2 H2 F' H' : Hp} {v : V} {r r1 r2 : Rs} {rs : List Rs} {P P' : Rs → List En → Prop} {a b c e o : Expr} {l : List Expr} {pos p p2 apos : Pos} {tg iter : Expr}
theorem itok_list {K : Fg} {ap : Addr} {vs : List V} {ds : List D} (h : SqL K F ap vs) (ra : RpAll F vs ds) : ItOk (Itl K ap) ds F where
  go := fun i H hi s => ⟨vs, vs[i]'(by rw [ra.length]; exact hi), s.seq h, by simp⟩
  stop := fun H s => ⟨vs, s.seq h, by rw [ra.length]; exact Nat.le_refl _⟩
  yld := fun i H x H' d hd s y => by
    obtain ⟨e, y⟩ := y
    obtain ⟨w, hw, q⟩ := ra.getD hd
    have z := y vs (s.seq h)
    rw [hw] at z; cases z
    exact .inl ⟨e, q⟩
theorem itok_tup {K : Fg} {ap : Addr} {vs : List V} {ds : List D} (h : TupM F ap vs) (ra : RpAll F vs ds) : ItOk (Itt K ap) ds F where
  go := fun i H hi s => ⟨vs, vs[i]'(by rw [ra.length]; exact hi), (h.mono s).seq, by simp⟩
  stop := fun H s => ⟨vs, (h.mono s).seq, by rw [ra.length]; exact Nat.le_refl _⟩
  yld := fun i H x H' d hd s y => by
    obtain ⟨e, y⟩ := y
    obtain ⟨w, hw, q⟩ := ra.getD hd
    have z := y vs ((h.mono s).seq)
    rw [hw] at z; cases z
    exact .inl ⟨e, q⟩
def rgD (lo : Int) (n : Nat) : List D := (List.range n).map fun i : Nat => PyData.int (lo + (i : Int))
theorem itok_rng {lo : Int} {n : Nat} : ItOk (Itr lo n) (rgD lo n) F where
  go := fun i H hi s => by
    have h : i < n := by simpa [rgD] using hi
    exact h
  stop := fun H s => by
    have h : (rgD lo n).length = n := by simp [rgD]
    show n ≤ _
    rw [h]; exact Nat.le_refl n
  yld := fun i H x H' d hd s y => by
    obtain ⟨e1, e2⟩ := y
    have hi : i < n := by
      have := (List.getElem?_eq_some_iff.mp hd).1
      simpa [rgD] using this
    unfold rgD at hd
    rw [List.getElem?_map, List.getElem?_range hi] at hd
    cases hd
    rw [e2]
    exact .inl ⟨e1, .int _⟩
def rg0 (n : Nat) : List D := (List.range n).map fun i : Nat => PyData.int (i : Int)
theorem rgD_zero (n : Nat) : rgD 0 n = rg0 n := by
  unfold rgD rg0
  exact List.map_congr_left fun i _ => by rw [Int.zero_add]
/-- over a list as it stands (frozen if new), or the script -/
def walkL (es : List En) : Rs → Option (List D)
  | .val (.list ds) => some ds
  | .sl i => match es[i]? with
    | some (.scr ns) => some (ns.map PyData.int)
    | _ => none
  | _ => none
theorem ei_list {P : List D → List En → Prop} (h : EvE X B iter es (fun r es1 => ∃ ds, walkL es1 (frz r) = some ds ∧ P ds es1)) : EvI X B tg iter es P := fun σ F H o bd R k =>
  wI.of (pi_list pe_w) ((ee_fz (P := fun r es1 => ∃ ds, walkL es1 r = some ds ∧ P ds es1) h) σ F H o bd _ fun v r es1 F1 H1 p1 q1 o1 t1 => by
    obtain ⟨ds, hw, p⟩ := p1
    cases r with
    | val d =>
      cases d with
      | list ds' =>
        cases hw
        cases q1 with
        | lst h1 h2 => exact ⟨_, rfl, ⟨_, SqL.of (o1.sub _ _ h1)⟩, k _ ds es1 F1 H1 p (itok_list (SqL.of h1) h2) o1 t1⟩
      | _ => cases hw
    | sl i =>
      have hs : σ[i]? = some (some v) := q1
      have hw : (match es1[i]? with | some (.scr ns) => some (ns.map PyData.int) | _ => none) = some ds := hw
      split at hw
      · rename_i ns z
        cases hw
        obtain ⟨a, e1, e2⟩ := o1.slot i _ z
        rw [hs] at e1; cases e1
        exact ⟨a, rfl, ⟨_, o1.sub.seq e2⟩, k _ _ es1 F1 H1 p (itok_list e2 (RpAll.ints ns)) o1 t1⟩
      · cases hw
    | _ => cases hw)
theorem ei_tup {P : List D → List En → Prop} (h : EvE X B iter es (fun r es1 => ∃ ds, r = .val (.tuple ds) ∧ P ds es1)) : EvI X B tg iter es P := fun σ F H o bd R k =>
  wI.of (pi_tup pe_w) (h σ F H o bd _ fun v r es1 F1 H1 p1 q1 o1 t1 => by
    obtain ⟨ds, rfl, p⟩ := p1
    cases q1 with
    | tup h1 h2 => exact ⟨_, rfl, ⟨_, (h1.mono o1.sub).seq⟩, k _ ds es1 F1 H1 p (itok_tup h1 h2) o1 t1⟩)
theorem ei_range1 {P : List D → List En → Prop} (hg : Gl X "range") (hm : X.mg "range" = none) (h : EvE X B a es (fun r es1 => ∃ n, r = .val (.int n) ∧ n < 2 ^ 62 ∧ -(2 ^ 62) ≤ n ∧ P (rg0 n.toNat) es1)) (hs : starEach [a] X.env = [(false, eval a X.env)] := by with_unfolding_all rfl) : EvI X B tg (.Call (.Name "range" p) [a] [] pos) es P := fun σ F H o bd R k =>
  wI.of (pi_range1 hg hm (pa_cons pe_w pa_nil hs) hs) (h σ F H o bd _ fun v r es1 F1 H1 p1 q1 o1 t1 => by
    obtain ⟨n, rfl, h1, h2, p⟩ := p1
    cases q1
    exact ⟨n, rfl, h2, h1, k _ _ es1 F1 H1 p (by rw [← rgD_zero]; exact itok_rng) o1 t1⟩)
theorem ei_range2 {P : List D → List En → Prop} (hg : Gl X "range") (hm : X.mg "range" = none) (h : EvE X B a es (fun r es1 => EvE X B b es1 (fun r' es2 => ∃ i j, r = .val (.int i) ∧ r' = .val (.int j) ∧ (-(2 ^ 62) ≤ i ∧ i < 2 ^ 62 ∧ -(2 ^ 62) ≤ j ∧ j < 2 ^ 62) ∧ P (rgD i (j - i).toNat) es2)))
    (hs : starEach [a, b] X.env = [(false, eval a X.env), (false, eval b X.env)] := by with_unfolding_all rfl) (hs2 : starEach [b] X.env = [(false, eval b X.env)] := by with_unfolding_all rfl) : EvI X B tg (.Call (.Name "range" p) [a, b] [] pos) es P := fun σ F H o bd R k =>
  wI.of (pi_range2 hg hm (pa_cons pe_w (pa_cons pe_w pa_nil hs2) (by rw [hs, hs2])) hs hs2) (h σ F H o bd _ fun v r es1 F1 H1 p1 q1 o1 t1 => p1 σ F1 H1 o1 (bd.tr t1) _ fun v2 r2 es2 F2 H2 p2 q2 o2 t2 => by
    obtain ⟨i, j, rfl, rfl, hb, p⟩ := p2
    cases q1
    cases q2
    exact ⟨i, j, rfl, hb, k _ _ es2 F2 H2 p itok_rng o2 (t1.trans t2)⟩)

/-! ### targets -/
structure AsgR (vs : List Nat) (es : List En) (σ : L2.St) (es' : List En) (σ' : L2.St) : Prop where
  wp : wipe σ' vs = wipe σ vs
  own : ∀ (i : Nat) t ds, es[i]? = some (mkO t ds) ↔ es'[i]? = some (mkO t ds)
  keep : ∀ (i : Nat) t ds, es[i]? = some (mkO t ds) → σ'[i]? = σ[i]?
def EvG (X : Cx) (tg : Expr) (vs : List Nat) (d : D) (es : List En) (P : List En → Prop) : Prop :=
  ∀ σ F H v, Ok X.K es σ F H → Rp F v d → ∀ Q : L2.St → Hp → Prop, (∀ σ' es', P es' → Ok X.K es' σ' F H → AsgR vs es σ es' σ' → Q σ' H) → wG X tg v σ H Q
def wGs (X : Cx) (ts : List Expr) : TGs := fun vs σ H Q => ∀ pins s us, Inv X pins σ H s → Vals vs us →
    wpAny (model X.prog X.w) X.A (assignInOrder ((assignEach ts X.env).map (·.2)) us) (fun _ s' => ∃ σ' H', Inv X pins σ' H' s' ∧ Q σ' H') X.xe s
theorem pgs_w {ts : List Expr} : PGs X ts (wGs X ts) := ⟨fun pins s _ _ _ us _ I r h => h pins s us I r⟩
theorem wG.of {t : TG} {tg : Expr} (h : PG X tg t) {v : V} {σ : L2.St} {H : Hp} {Q : L2.St → Hp → Prop} (q : t v σ H Q) : wG X tg v σ H Q := fun pins s u I r => h.run pins s σ H v u Q I r q
theorem wGs.of {t : TGs} {ts : List Expr} (h : PGs X ts t) {vs : List V} {σ : L2.St} {H : Hp} {Q : L2.St → Hp → Prop} (q : t vs σ H Q) : wGs X ts vs σ H Q := fun pins s us I r => h.run pins s σ H vs us Q I r q
def EvGs (X : Cx) (ts : List Expr) (vs : List Nat) (ds : List D) (es : List En) (P : List En → Prop) : Prop :=
  ∀ σ F H ws, Ok X.K es σ F H → RpAll F ws ds → ∀ Q : L2.St → Hp → Prop, (∀ σ' es', P es' → Ok X.K es' σ' F H → AsgR vs es σ es' σ' → Q σ' H) → wGs X ts ws σ H Q
def notOwn : Option En → Bool
  | some (.own _) => false
  | some (.tab _ _ _ _) => false
  | some _ => true
  | none => false
theorem AsgR.refl {vs : List Nat} : AsgR vs es σ es σ := ⟨rfl, fun _ _ _ => Iff.rfl, fun _ _ _ _ => rfl⟩
theorem AsgR.trans {vs : List Nat} {σ1 σ2 : L2.St} (a : AsgR vs es σ es1 σ1) (b : AsgR vs es1 σ1 es2 σ2) : AsgR vs es σ es2 σ2 :=
  ⟨b.wp.trans a.wp, fun i t ds => (a.own i t ds).trans (b.own i t ds), fun i t ds h => (b.keep i t ds ((a.own i t ds).mp h)).trans (a.keep i t ds h)⟩
theorem AsgR.at {vs : List Nat} {σ' : L2.St} (a : AsgR vs es σ es' σ') {i : Nat} {x : Addr} : OwAt es σ i x ↔ OwAt es' σ' i x :=
  ⟨fun ⟨t, ds, v, h1, h2, h3⟩ => ⟨t, ds, v, (a.own i t ds).mp h1, by rw [a.keep i t ds h1]; exact h2, h3⟩,
   fun ⟨t, ds, v, h1, h2, h3⟩ => ⟨t, ds, v, (a.own i t ds).mpr h1, by rw [← a.keep i t ds ((a.own i t ds).mpr h1)]; exact h2, h3⟩⟩
theorem wipe_get {σ : L2.St} {i : Nat} : ∀ {vs : List Nat}, (wipe σ vs)[i]? = if i ∈ vs ∧ i < σ.length then some none else σ[i]?
  | [] => by simp [wipe]
  | v :: vs => by
    unfold wipe
    by_cases h : v = i
    · subst h
      by_cases hl : v < σ.length
      · rw [List.getElem?_set_self (by rw [wipe_length]; exact hl), if_pos ⟨List.mem_cons_self, hl⟩]
      · rw [List.getElem?_eq_none (by simp [wipe_length]; omega), if_neg (by omega), List.getElem?_eq_none (by omega)]
    · rw [List.getElem?_set_ne h, wipe_get (vs := vs)]
      simp [Ne.symm h]
theorem wipe_set {σ : L2.St} {i : Nat} {x : Option V} {vs : List Nat} (h : i ∈ vs) : wipe (σ.set i x) vs = wipe σ vs := by
  apply List.ext_getElem?
  intro j
  rw [wipe_get, wipe_get, List.length_set]
  by_cases e : i = j
  · subst e
    by_cases hl : i < σ.length
    · rw [if_pos ⟨h, hl⟩, if_pos ⟨h, hl⟩]
    · rw [if_neg (by omega), if_neg (by omega), List.getElem?_eq_none (by simp; omega), List.getElem?_eq_none (by omega)]
  · rw [List.getElem?_set_ne e]
theorem notOwn_get {i : Nat} (h : notOwn es[i]? = true) : i < es.length ∧ ∀ t ds, es[i]? ≠ some (mkO t ds) := by
  cases e : es[i]? with
  | none => rw [e] at h; cases h
  | some x =>
    refine ⟨(List.getElem?_eq_some_iff.mp e).1, fun t ds z => ?_⟩
    rw [e] at h
    have z := Option.some.inj z
    subst z
    match t, h with
    | none, h => cases h
    | some (_, _, _), h => cases h
/-- a slot gets a value -/
theorem Ok.setV {K : Fg} (o : Ok K es σ F H) {i : Nat} (hi : notOwn es[i]? = true) {v : V} {en : En} (hn : isO en = false) (q : SlOk K F H (some (some v)) en) : Ok K (es.set i en) (σ.set i (some v)) F H := by
  obtain ⟨hl, hno⟩ := notOwn_get hi
  have hl' : i < σ.length := by rw [← o.len]; exact hl
  have out : ∀ {j a}, OwAt (es.set i en) (σ.set i (some v)) j a → OwAt es σ j a := fun {j a} ⟨t, d, w, h1, h2, h3⟩ => by
    rcases get_set h1 with ⟨_, z, _⟩ | ⟨n1, h1⟩
    · rw [← z, isO_mk] at hn; cases hn
    · rw [List.getElem?_set_ne (Ne.symm n1)] at h2
      exact ⟨t, d, w, h1, h2, h3⟩
  refine ⟨by simpa using o.len, fun j e he => ?_, fun j k a h1 h2 => o.sep j k a (out h1) (out h2), o.sub⟩
  · rcases get_set he with ⟨rfl, rfl, _⟩ | ⟨ne, he⟩
    · rw [List.getElem?_set_self hl']; exact q
    · rw [List.getElem?_set_ne (Ne.symm ne)]; exact o.slot j e he
theorem AsgR.setV {vs : List Nat} {i : Nat} (hi : notOwn es[i]? = true) (hv : i ∈ vs) {v : V} {en : En} (hn : isO en = false) : AsgR vs es σ (es.set i en) (σ.set i (some v)) := by
  obtain ⟨hl, hno⟩ := notOwn_get hi
  refine ⟨wipe_set hv, fun j t ds => ⟨fun h => ?_, fun h => ?_⟩, fun j t ds h => ?_⟩
  · have ne : i ≠ j := fun z => by subst z; exact hno _ _ h
    rw [List.getElem?_set_ne ne]; exact h
  · rcases get_set h with ⟨_, z, _⟩ | ⟨_, h⟩
    · rw [← z, isO_mk] at hn; cases hn
    · exact h
  · have ne : i ≠ j := fun z => by subst z; exact hno _ _ h
    rw [List.getElem?_set_ne ne]
theorem eg_name {i : Nat} {x : Str} {vs : List Nat} {d : D} {P : List En → Prop} (hN : X.N.Nodup) (hx : X.N[i]? = some x) (hlc : Loc X.env.scope x) (hi : notOwn es[i]? = true) (p : P (es.set i (.val d))) (hv : i ∈ vs := by decide)
    (hf : X.fn x = true ∨ X.env.scope.names.lookup x = some .local := by with_unfolding_all (first | exact .inl rfl | exact .inr rfl | assumption)) : EvG X (.Name x pos) vs d es P := fun σ F H v o q Q k =>
  wG.of (pg_name hN hx hlc hf) (k _ _ p (o.setV hi rfl ⟨v, rfl, q⟩) (AsgR.setV hi hv rfl))
theorem egs_nil {vs : List Nat} {P : List En → Prop} (p : P es) : EvGs X [] vs [] es P := fun σ F H ws o ra Q k => by
  cases ra
  exact wGs.of pgs_nil ⟨rfl, k σ es p o AsgR.refl⟩
theorem egs_cons {vs : List Nat} {d : D} {ds : List D} {ts : List Expr} {P : List En → Prop} (h : EvG X e vs d es (fun es1 => EvGs X ts vs ds es1 P))
    (hs : (assignEach (e :: ts) X.env).map (·.2) = assign e X.env :: (assignEach ts X.env).map (·.2) := by with_unfolding_all rfl) : EvGs X (e :: ts) vs (d :: ds) es P := fun σ F H ws o ra Q k => by
  cases ra with
  | cons r1 r2 =>
    refine wGs.of (pgs_cons pg_w pgs_w hs) ⟨_, _, rfl, ?_⟩
    exact h σ F H _ o r1 _ fun σ1 es1 p1 o1 a1 => p1 σ1 F H _ o1 r2 Q fun σ2 es2 p2 o2 a2 => k σ2 es2 p2 o2 (a1.trans a2)
theorem eg_tup {vs : List Nat} {ds : List D} {ts : List Expr} {kk : Nat} {P : List En → Prop} (hc : X.calm = true) (h : EvGs X ts vs ds es P)
    (hn : (assignEach ts X.env).length = ds.length := by with_unfolding_all rfl) (hst : (assignEach ts X.env).findIdx? (·.1) = none := by with_unfolding_all rfl) : EvG X (.Tuple ts kk pos) vs (.tuple ds) es P := fun σ F H v o q Q k => by
  cases q with
  | tup h1 h2 => exact wG.of (pg_tup hc pgs_w hn hst) ⟨_, _, rfl, (h1.mono o.sub).seq, h2.length, h σ F H _ o h2 Q k⟩
theorem eg_lst {vs : List Nat} {ds : List D} {ts : List Expr} {kk : Nat} {P : List En → Prop} (hc : X.calm = true) (h : EvGs X ts vs ds es P)
    (hn : (assignEach ts X.env).length = ds.length := by with_unfolding_all rfl) (hst : (assignEach ts X.env).findIdx? (·.1) = none := by with_unfolding_all rfl) : EvG X (.Tuple ts kk pos) vs (.list ds) es P := fun σ F H v o q Q k => by
  cases q with
  | lst h1 h2 => exact wG.of (pg_lst hc pgs_w hn hst) ⟨_, _, rfl, SqL.of (o.sub _ _ h1), h2.length, h σ F H _ o h2 Q k⟩
theorem Bd.asg {vs : List Nat} {σ' : L2.St} (b : Bd B es σ F H) (a : AsgR vs es σ es' σ') : Bd B es' σ' F H where
  exF := b.exF
  new := b.new
  fr := b.fr
  dom := b.dom
  ow := fun x ⟨i, h⟩ => b.ow x ⟨i, a.at.mpr h⟩
  par := fun i x h => a.at.mp (b.par i x h)
  opar := b.opar
  tp := b.tp
  tg := fun i x g v h => by
    obtain ⟨ds, h1, h2⟩ := b.tg i x g v h
    exact ⟨ds, (a.own i g ds).mp h1, by rw [a.keep i g ds h1]; exact h2⟩
end
end HL

set_option Elab.async false
set_option linter.all false
set_option maxRecDepth 100000
set_option maxHeartbeats 2000000
set_option autoImplicit false
namespace HL
open PySem PySem.Spec PyProof.Rows L2

/-! ### comprehensions -/
abbrev Blk (X : Cx) (scope : Scope) (φ : Cx → Prop) : Prop := ∀ (s : Shared) (H : Hp) (C : Addr) (cl : List (Str × Addr)) (fp : List Addr), φ (X.blk s H scope (compEnvC scope cl C X.env) fp)
def wTs (X : Cx) (ifs : List Expr) : TT := fun σ H Q => ∀ pins s, Inv X pins σ H s →
  wpAny (model X.prog X.w) X.A (forIn ifs true fun c r => if r = true then do let ok ← isTrue c X.env (eval c X.env); pure (ForInStep.yield ok) else pure (ForInStep.yield r)) (TP X pins σ Q) X.xe s
def EvTs (X : Cx) (B : Bs) (ifs : List Expr) (es : List En) (P : Bool → List En → Prop) : Prop :=
  ∀ σ F H, Ok X.K es σ F H → Bd B es σ F H → ∀ Q : Bool → Hp → Prop, KtT X.K es σ F H P Q → wTs X ifs σ H Q
def blank (es : List En) : List Nat → List En
  | [] => es
  | v :: vs => (blank es vs).set v .no
section
variable {X : Cx} {B : Bs} {es es1 es2 es3 es5 es' : List En} {σ σ2 : L2.St} {F H F1 H1 F2 H2 F5 H5 F' H' : Hp} {v : V} {r r1 r2 : Rs} {rs : List Rs} {P P' : Rs → List En → Prop} {a b c e o elt : Expr} {l ifs : List Expr} {pos p p2 apos : Pos} {tg iter : Expr} {scope : Scope} {vs : List Nat}
theorem pts_w : PTs X ifs (wTs X ifs) := ⟨fun pins s _ _ _ I h => h pins s I⟩
theorem wTs.of {t : TT} (h : PTs X ifs t) {σ : L2.St} {H : Hp} {Q : Bool → Hp → Prop} (q : t σ H Q) : wTs X ifs σ H Q := fun pins s I => h.run pins s σ H Q I q
theorem ets_nil {P : Bool → List En → Prop} (p : P true es) : EvTs X B [] es P := fun σ F H o bd Q k => wTs.of pts_nil (k.now o p)
theorem ets_one {P : Bool → List En → Prop} (h : EvT X B c es P) : EvTs X B [c] es P := fun σ F H o bd Q k => wTs.of (pts_one pt_w) (h σ F H o bd Q k)
theorem blank_get {i : Nat} : ∀ {vs : List Nat}, (blank es vs)[i]? = if i ∈ vs ∧ i < es.length then some .no else es[i]?
  | [] => by simp [blank]
  | v :: vs => by
    have hlen : ∀ ws : List Nat, (blank es ws).length = es.length := fun ws => by
      induction ws with
      | nil => rfl
      | cons w ws ih => unfold blank; rw [List.length_set, ih]
    unfold blank
    by_cases h : v = i
    · subst h
      by_cases hl : v < es.length
      · rw [List.getElem?_set_self (by rw [hlen]; exact hl), if_pos ⟨List.mem_cons_self, hl⟩]
      · rw [List.getElem?_eq_none (by rw [List.length_set, hlen]; omega), if_neg (by omega), List.getElem?_eq_none (by omega)]
    · rw [List.getElem?_set_ne h, blank_get (vs := vs)]
      simp [Ne.symm h]
theorem blank_len : ∀ vs : List Nat, (blank es vs).length = es.length
  | [] => rfl
  | w :: ws => by unfold blank; rw [List.length_set, blank_len ws]
theorem blank_own {i : Nat} {g : Tg} {ds : List D} (h : (blank es vs)[i]? = some (mkO g ds)) : i ∉ vs ∧ es[i]? = some (mkO g ds) := by
  rw [blank_get] at h
  split at h
  · have h := Option.some.inj h
    have h2 := isO_mk (t := g) (ds := ds)
    rw [← h] at h2
    cases h2
  · rename_i n
    refine ⟨fun hi => n ⟨hi, (List.getElem?_eq_some_iff.mp h).1⟩, h⟩
theorem wipe_out' {i : Nat} (h : i ∉ vs) : (wipe σ vs)[i]? = σ[i]? := by
  rw [wipe_get, if_neg fun z => h z.1]
theorem ok_blank {K : Fg} (o : Ok K es σ F H) : Ok K (blank es vs) (wipe σ vs) F H := by
  refine ⟨by rw [blank_len, wipe_length]; exact o.len, fun i e he => ?_, fun i j x h1 h2 => ?_, o.sub⟩
  · rw [blank_get] at he
    split at he
    · cases he; trivial
    · rename_i n
      have hi : i < σ.length := by rw [← o.len]; exact (List.getElem?_eq_some_iff.mp he).1
      rw [wipe_get, if_neg (fun z => n ⟨z.1, by rw [o.len]; exact z.2⟩)]
      exact o.slot i e he
  · have out : ∀ {k}, OwAt (blank es vs) (wipe σ vs) k x → OwAt es σ k x := fun {k} ⟨t, d, v, h1, h2, h3⟩ => by
      obtain ⟨n1, g1⟩ := blank_own h1
      rw [wipe_out' n1] at h2
      exact ⟨t, d, v, g1, h2, h3⟩
    exact o.sep i j x (out h1) (out h2)
/-- the names of a block stand for nothing outside -/
def Clear (es : List En) (vs : List Nat) : Prop := ∀ i t ds, i ∈ vs → es[i]? ≠ some (mkO t ds)
theorem at_wipe (h : Clear es vs) {i : Nat} {x : Addr} : OwAt es (wipe σ vs) i x ↔ OwAt es σ i x := by
  constructor
  · rintro ⟨t, ds, v, h1, h2, h3⟩
    have n : i ∉ vs := fun z => h i t ds z h1
    exact ⟨t, ds, v, h1, by rw [wipe_out' n] at h2; exact h2, h3⟩
  · rintro ⟨t, ds, v, h1, h2, h3⟩
    have n : i ∉ vs := fun z => h i t ds z h1
    exact ⟨t, ds, v, h1, by rw [wipe_out' n]; exact h2, h3⟩
theorem ow_wipe (h : Clear es vs) {x : Addr} : Ow es (wipe σ vs) x ↔ Ow es σ x :=
  ⟨fun ⟨i, z⟩ => ⟨i, (at_wipe h).mp z⟩, fun ⟨i, z⟩ => ⟨i, (at_wipe h).mpr z⟩⟩
theorem tr_wipe (c1 : Clear es vs) (c2 : Clear es' vs) : Tr es (wipe σ vs) F H es' F' H' ↔ Tr es σ F H es' F' H' :=
  ⟨fun t => ⟨t.exF, t.new, fun x o h n => t.fr x o h fun z => n ((ow_wipe c1).mp z), t.dom, fun x z => (ow_wipe c1).mp (t.ow x ((ow_wipe c2).mpr z)), t.own⟩,
   fun t => ⟨t.exF, t.new, fun x o h n => t.fr x o h fun z => n ((ow_wipe c1).mpr z), t.dom, fun x z => (ow_wipe c1).mpr (t.ow x ((ow_wipe c2).mp z)), t.own⟩⟩
theorem bd_wipe (c : Clear es vs) (b : Bd B es σ F H) : Bd B es (wipe σ vs) F H :=
  ⟨b.exF, b.new, b.fr, b.dom, fun x z => b.ow x ((ow_wipe c).mp z), fun i x h => (at_wipe c).mpr (b.par i x h), b.opar, b.tp, fun i a t v h => by
    obtain ⟨ds, h1, h2⟩ := b.tg i a t v h
    exact ⟨ds, h1, by rw [wipe_out' fun z => c i t ds z h1]; exact h2⟩⟩
/-- all of them stand for nothing at all -/
def Blanked (es : List En) (vs : List Nat) : Prop := ∀ i, i ∈ vs → i < es.length → es[i]? = some .no
theorem Blanked.clear (h : Blanked es vs) : Clear es vs := fun i t ds hi z => by
  rw [h i hi (List.getElem?_eq_some_iff.mp z).1] at z
  have z := Option.some.inj z
  have z2 := isO_mk (t := t) (ds := ds)
  rw [← z] at z2
  cases z2
theorem Blanked.eq (h : Blanked es vs) : blank es vs = es := by
  apply List.ext_getElem?
  intro i
  rw [blank_get]
  split
  · rename_i z; exact (h i z.1 z.2).symm
  · rfl
theorem blanked_blank : Blanked (blank es vs) vs := fun i hi hl => by
  rw [blank_get, if_pos ⟨hi, by rw [← blank_len vs]; exact hl⟩]
/-- one turn: the target stored, something reckoned, the names forgotten -/
theorem Tr.turn (c : Clear es2 vs) (hw : wipe σ2 vs = wipe σ vs) (ag : AsgR vs es2 (wipe σ vs) es3 σ2) (t : Tr es3 σ2 F2 H2 es5 F5 H5) : Tr es2 (wipe σ vs) F2 H2 (blank es5 vs) F5 H5 where
  exF := t.exF
  new := t.new
  fr := fun x ob h n => t.fr x ob h fun ⟨i, z⟩ => n ⟨i, ag.at.mpr z⟩
  dom := t.dom
  ow := fun x ⟨i, g, ds, v, h1, h2, h3⟩ => by
    obtain ⟨n, h4⟩ := blank_own h1
    have e : σ2[i]? = (wipe σ vs)[i]? := by rw [← hw, wipe_out' n]
    obtain ⟨j, z⟩ := t.ow x ⟨i, g, ds, v, h4, by rw [e]; exact h2, h3⟩
    exact ⟨j, ag.at.mpr z⟩
  own := fun i g ds h => by
    obtain ⟨ds', h'⟩ := t.own i g ds ((ag.own i g ds).mp h)
    refine ⟨ds', ?_⟩
    rw [blank_get, if_neg fun z => c i g ds z.1 h]
    exact h'
/-- the list that grows -/
structure Grow (K : Fg) (es1 : List En) (σw : L2.St) (F1 H1 : Hp) (Dl : Addr) (acc : List D) (es2 : List En) (F2 H2 : Hp) : Prop where
  ok : Ok K es2 σw F2 H2
  tr : Tr es1 σw F1 H1 es2 F2 H2
  new : H1 Dl = none
  fD : F2 Dl = none
  hD : ∃ vacc, H2 Dl = some (.lst vacc) ∧ RpAll F2 vacc acc
theorem Grow.notOw {K : Fg} {σw : L2.St} {Dl : Addr} {acc : List D} (o1 : Ok K es1 σw F1 H1) (g : Grow K es1 σw F1 H1 Dl acc es2 F2 H2) : ¬ Ow es2 σw Dl := fun z => by
  obtain ⟨_, vs, h⟩ := o1.owned (g.tr.ow Dl z)
  rw [g.new] at h; cases h
/-- an item given out -/
theorem Grow.yield {K : Fg} {σw : L2.St} {Dl : Addr} {acc : List D} {J : It} {items : List D} {i : Nat} {d : D} {x : V} (o1 : Ok K es1 σw F1 H1) (it : ItOk J items F1) (hd : items[i]? = some d) (g : Grow K es1 σw F1 H1 Dl acc es2 F2 H2) (y : J.yld i H2 x H') :
    ∃ F', Grow K es1 σw F1 H1 Dl acc es2 F' H' ∧ Rp F' x d := by
  have s : Same F1 H2 := g.tr.exF.trans g.ok.sub
  rcases it.yld i H2 x H' d hd s y with ⟨rfl, q⟩ | ⟨T, ob, ws, ds, rfl, n, hc, hd1, rfl, rfl, ra⟩
  · exact ⟨F2, g, Rp.mono g.tr.exF d x q⟩
  · have ne : Dl ≠ T := fun z => by
      obtain ⟨_, h, _⟩ := g.hD
      rw [z, n] at h; cases h
    obtain ⟨vacc, h1, h2⟩ := g.hD
    refine ⟨upd F2 T (.frz ob (.tup ws)), ⟨g.ok.newF n, g.tr.trans (Tr.newF g.ok n), g.new, by rw [upd_ne ne]; exact g.fD, vacc, by rw [upd_ne ne]; exact h1, Rp.monoAll (same_new (Same.back g.ok.sub n)) acc vacc h2⟩, ?_⟩
    exact .tup ⟨ob, upd_same, hc, hd1⟩ (Rp.monoAll (g.tr.exF.trans (same_new (Same.back g.ok.sub n))) ds ws ra)
/-- behind a turn that adds nothing -/
theorem Grow.skip {K : Fg} {Dl : Addr} {acc : List D} (o1 : Ok K es1 (wipe σ vs) F1 H1) (g : Grow K es1 (wipe σ vs) F1 H1 Dl acc es2 F2 H2) (c : Clear es2 vs) (hw : wipe σ2 vs = wipe σ vs) (ag : AsgR vs es2 (wipe σ vs) es3 σ2)
    (o5 : Ok K es5 σ2 F5 H5) (t : Tr es3 σ2 F2 H2 es5 F5 H5) : Grow K es1 (wipe σ vs) F1 H1 Dl acc (blank es5 vs) F5 H5 := by
  have t5 := Tr.turn c hw ag t
  obtain ⟨vacc, h1, h2⟩ := g.hD
  refine ⟨by have z := ok_blank (vs := vs) o5; rw [hw] at z; exact z, g.tr.trans t5, g.new, t.new Dl g.fD (by rw [h1]; exact nofun), vacc, t5.fr Dl _ h1 (g.notOw o1), Rp.monoAll t.exF acc vacc h2⟩
/-- .. one that adds d -/
theorem Grow.add {K : Fg} {Dl : Addr} {acc : List D} {d : D} {y : V} (o1 : Ok K es1 (wipe σ vs) F1 H1) (g : Grow K es1 (wipe σ vs) F1 H1 Dl acc es2 F2 H2) (q : Rp F2 y d) (hz : acc.length < sizeLine) :
    ∃ vacc, H2 Dl = some (.lst vacc) ∧ vacc.length < sizeLine ∧ Grow K es1 (wipe σ vs) F1 H1 Dl (acc ++ [d]) es2 F2 (upd H2 Dl (.lst (vacc ++ [y]))) := by
  obtain ⟨vacc, h1, h2⟩ := g.hD
  have no := g.notOw o1
  refine ⟨vacc, h1, by rw [h2.length]; exact hz, ?_, ?_, g.new, g.fD, vacc ++ [y], upd_same, h2.append (.cons q .nil)⟩
  · refine ⟨g.ok.len, fun i e he => ?_, g.ok.sep, fun x ob h => ?_⟩
    · have z := g.ok.slot i e he
      have key : ∀ {t2 d2}, es2[i]? = some (mkO t2 d2) → SlO F2 H2 (wipe σ vs)[i]? t2 d2 → SlO F2 (upd H2 Dl (.lst (vacc ++ [y]))) (wipe σ vs)[i]? t2 d2 := fun {t2 d2} he z => by
        obtain ⟨v2, lp, ws, e1, p, ii, f1, hh, ra⟩ := z
        have ne : lp ≠ Dl := fun z => no ⟨i, t2, d2, v2, he, e1, by rw [← z]; exact p⟩
        exact ⟨v2, lp, ws, e1, p, ii, f1, by rw [upd_ne ne]; exact hh, ra⟩
      cases e with
      | own ds => exact key (t2 := none) he z
      | tab C x l ds => exact key (t2 := some (C, x, l)) he z
      | val d => exact z
      | no => trivial
      | scr ns => exact z
      | raw v => exact z
    · have ne : x ≠ Dl := fun z => by rw [z, g.fD] at h; cases h
      rw [upd_ne ne]; exact g.ok.sub x ob h
  · refine ⟨g.tr.exF, g.tr.new, fun x ob h n => ?_, fun x h z => ?_, g.tr.ow, g.tr.own⟩
    · have ne : x ≠ Dl := fun z => by rw [z, g.new] at h; cases h
      rw [upd_ne ne]; exact g.tr.fr x ob h n
    · by_cases ne : x = Dl
      · rw [ne] at h; exact h g.new
      · rw [upd_ne ne] at z; exact g.tr.dom x h z
def gB (X : Cx) (scope : Scope) (tg : Expr) : TG := fun v σ H Q => Blk X scope fun X1 => wG X1 tg v σ H Q
def tB' (X : Cx) (scope : Scope) (ifs : List Expr) : TT := fun σ H Q => Blk X scope fun X1 => wTs X1 ifs σ H Q
def eB (X : Cx) (scope : Scope) (e : Expr) : TE := fun σ H Q => Blk X scope fun X1 => wE X1 e σ H Q
def iB (X : Cx) (scope : Scope) (tg iter : Expr) : TI := fun σ H R => Blk X scope fun X1 => wI X1 tg iter σ H R
theorem pg_B (s : Shared) (H : Hp) (C : Addr) (cl : List (Str × Addr)) (fp : List Addr) : PG (X.blk s H scope (compEnvC scope cl C X.env) fp) tg (gB X scope tg) := ⟨fun pins s' _ _ _ u _ I r h => h s H C cl fp pins s' u I r⟩
theorem pts_B (s : Shared) (H : Hp) (C : Addr) (cl : List (Str × Addr)) (fp : List Addr) : PTs (X.blk s H scope (compEnvC scope cl C X.env) fp) ifs (tB' X scope ifs) := ⟨fun pins s' _ _ _ I h => h s H C cl fp pins s' I⟩
theorem pe_B (s : Shared) (H : Hp) (C : Addr) (cl : List (Str × Addr)) (fp : List Addr) : PE (X.blk s H scope (compEnvC scope cl C X.env) fp) e (eB X scope e) := ⟨fun pins s' _ _ _ I h => h s H C cl fp pins s' I⟩
theorem pi_B (s : Shared) (H : Hp) (C : Addr) (cl : List (Str × Addr)) (fp : List Addr) : PI (X.blk s H scope (compEnvC scope cl C X.env) fp) tg iter (iB X scope tg iter) := ⟨fun pins s' _ _ _ I h => h s H C cl fp pins s' I⟩
/-- a turn's word -/
def LcTurn (X : Cx) (B : Bs) (scope : Scope) (vs : List Nat) (tg : Expr) (ifs : List Expr) (elt : Expr) (d : D) (acc : List D) (es : List En) (Nx : List D → List En → Prop) : Prop :=
  acc.length < sizeLine ∧ Blk X scope fun X1 => EvG X1 tg vs d es fun es3 => Blk X scope fun X2 => EvTs X2 B ifs es3 fun k es4 => (k = true → Blk X scope fun X3 => EvE X3 B elt es4 fun r es5 => ∃ d', frz r = .val d' ∧ Nx (acc ++ [d']) (blank es5 vs)) ∧ (k = false → Nx acc (blank es4 vs))
theorem lc_read
    (h : EvI X B tg iter es fun items es1 => ∃ Iv : Nat → List D → List En → Prop, Iv 0 [] es1 ∧ (∀ i acc es2, Iv i acc es2 → Blanked es2 vs) ∧ (∀ i d acc es2, items[i]? = some d → Iv i acc es2 → LcTurn X B scope vs tg ifs elt d acc es2 (Iv (i + 1))) ∧ ∀ acc es2, Iv items.length acc es2 → P (.new acc) es2)
    (o : Ok X.K es σ F H) (bd : Bd B es σ F H) {Q : VK} (k : Kt X.K es σ F H P Q) : tLc (wI X tg iter) (gB X scope tg) (tB' X scope ifs) (eB X scope elt) vs σ H Q := by
  refine h σ F H o bd _ fun J items es1 F1 H1 p1 it o1 t1 => ?_
  obtain ⟨Iv, h0, hb, hs, hd⟩ := p1
  have bd1 := bd.tr t1
  have c1 : Clear es1 vs := (hb 0 [] es1 h0).clear
  have ow1 : Ok X.K es1 (wipe σ vs) F1 H1 := by
    have z := ok_blank (vs := vs) o1
    rw [(hb 0 [] es1 h0).eq] at z; exact z
  intro Dl nD
  refine ⟨fun i m Hi => i ≤ items.length ∧ m = items.length - i ∧ ∃ acc es2 F2, Iv i acc es2 ∧ Grow X.K es1 (wipe σ vs) F1 H1 Dl acc es2 F2 Hi, ⟨items.length, Nat.zero_le _, rfl, [], es1, F1, h0, ow1.newH nD, Tr.newH ow1 nD, nD, Same.back o1.sub nD, [], upd_same, .nil⟩, ?_⟩
  rintro i m Hi ⟨hi, rfl, acc, es2, F2, w, g⟩
  have s12 : Same F1 Hi := g.tr.exF.trans g.ok.sub
  by_cases hlt : i < items.length
  · refine .inr ⟨it.go i Hi hlt s12, fun Hn => ∃ acc es2 F2, Iv (i + 1) acc es2 ∧ Grow X.K es1 (wipe σ vs) F1 H1 Dl acc es2 F2 Hn, fun Hn ⟨acc', es', F', w', g'⟩ => ⟨items.length - (i + 1), by omega, hlt, rfl, acc', es', F', w', g'⟩, fun x Hy y => ?_⟩
    obtain ⟨d, hd'⟩ : ∃ d, items[i]? = some d := ⟨_, List.getElem?_eq_getElem hlt⟩
    obtain ⟨F3, g3, q3⟩ := g.yield ow1 it hd' y
    obtain ⟨hz, turn⟩ := hs i d acc es2 hd' w
    have c2 : Clear es2 vs := (hb i acc es2 w).clear
    intro s H C cl fp
    refine turn s H C cl fp _ F3 Hy x g3.ok q3 _ fun σ3 es3 p3 o3 a3 => ⟨?_, ?_⟩
    · rw [a3.wp]
      apply List.ext_getElem?
      intro j
      rw [wipe_get, wipe_get, wipe_length]
      split <;> rfl
    have ww : wipe σ3 vs = wipe σ vs := by
      rw [a3.wp]
      apply List.ext_getElem?
      intro j
      rw [wipe_get, wipe_get, wipe_length]
      split <;> rfl
    have bd3 : Bd B es3 σ3 F3 Hy := ((bd_wipe c1 bd1).tr g3.tr).asg a3
    intro s' H' C' cl' fp'
    refine p3 s' H' C' cl' fp' σ3 F3 Hy o3 bd3 _ fun kb es4 F4 H4 p4 o4 t4 => ?_
    cases kb with
    | true =>
      rw [if_pos rfl]
      intro s'' H'' C'' cl'' fp''
      refine (ee_fz (P := fun r es5 => ∃ d', r = .val d' ∧ Iv (i + 1) (acc ++ [d']) (blank es5 vs)) (p4.1 rfl s'' H'' C'' cl'' fp'')) σ3 F4 H4 o4 (bd3.tr t4) _ fun v5 r5 es5 F5 H5 p5 q5 o5 t5 => ?_
      obtain ⟨d', rfl, w5⟩ := p5
      have g5 := g3.skip ow1 c2 ww a3 o5 (t4.trans t5)
      obtain ⟨vacc, e1, e2, g6⟩ := g5.add (d := d') (y := v5) ow1 q5 hz
      exact ⟨vacc, e1, e2, acc ++ [d'], _, F5, w5, g6⟩
    | false =>
      rw [if_neg Bool.false_ne_true]
      exact ⟨acc, _, F4, p4.2 rfl, g3.skip ow1 c2 ww a3 o4 t4⟩
  · have e : i = items.length := by omega
    subst e
    refine .inl ⟨it.stop Hi s12, ?_⟩
    have b2 := hb _ _ _ w
    obtain ⟨vacc, h1, h2⟩ := g.hD
    have t2 : Tr es1 σ F1 H1 es2 F2 Hi := (tr_wipe c1 b2.clear).mp g.tr
    have o2 : Ok X.K es2 σ F2 Hi := by
      refine ⟨by have z := g.ok.len; rw [wipe_length] at z; exact z, fun j en he => ?_, fun j1 j2 x k1 k2 => ?_, g.ok.sub⟩
      · have z := g.ok.slot j en he
        by_cases hj : j ∈ vs
        · rw [b2 j hj (List.getElem?_eq_some_iff.mp he).1] at he
          cases he
          trivial
        · rw [wipe_out' hj] at z; exact z
      · exact g.ok.sep j1 j2 x ((at_wipe b2.clear).mpr k1) ((at_wipe b2.clear).mpr k2)
    refine k (.ref Dl) (.new acc) es2 F2 Hi (hd acc es2 w) ⟨Dl, vacc, rfl, trivial, ?_, g.fD, h1, h2⟩ o2 (t1.trans t2)
    show H Dl = none
    cases q : H Dl with
    | none => rfl
    | some ob => exact absurd nD (t1.dom Dl (by rw [q]; exact nofun))
theorem ee_lc {own : List (Str × Nat)} (hc : X.calm = true) (hN : X.N.Nodup) (ok : BlkOk X.N X.env.scope scope own)
    (h : EvI X B tg iter es fun items es1 => ∃ Iv : Nat → List D → List En → Prop, Iv 0 [] es1 ∧ (∀ i acc es2, Iv i acc es2 → Blanked es2 (own.map (·.2))) ∧ (∀ i d acc es2, items[i]? = some d → Iv i acc es2 → LcTurn X B scope (own.map (·.2)) tg ifs elt d acc es2 (Iv (i + 1))) ∧ ∀ acc es2, Iv items.length acc es2 → P (.new acc) es2)
    (hs : ∀ x, foldedSetIterable iter X.env x = pure x := by with_unfolding_all (intro _; rfl)) : EvE X B (.ListComp elt [⟨tg, iter, ifs, 0⟩] scope pos) es P := fun σ F H o bd Q k =>
  wE.of (pe_lc hc hN pi_w ok pg_B pts_B pe_B hs) (lc_read h o bd k)
end
end HL

set_option Elab.async false
set_option linter.all false
set_option maxRecDepth 100000
set_option maxHeartbeats 2000000
set_option autoImplicit false
namespace HL
open PySem PySem.Spec PyProof.Rows L2

/-! ### statements -/
structure Dn where
  nx : List En → Prop
  rt : Rs → List En → Prop
  bk : List En → Prop := fun _ => False
  ct : List En → Prop := fun _ => False
structure EnK (K : Fg) (B : Bs) (F0 : Hp) (D : Dn) (E : Ends) : Prop where
  nx : ∀ es σ F H, D.nx es → Ok K es σ F H → Bd B es σ F H → Same F0 F → E.nx σ H
  rt : ∀ v r es σ F H, D.rt r es → RsOk (Nw B.H) F H σ v r → Ok K es σ F H → Bd B es σ F H → E.rt v H
  bk : ∀ es σ F H, D.bk es → Ok K es σ F H → Bd B es σ F H → Same F0 F → E.bk σ H
  ct : ∀ es σ F H, D.ct es → Ok K es σ F H → Bd B es σ F H → Same F0 F → E.ct σ H
def EvS (X : Cx) (B : Bs) (st : Stmt) (es : List En) (D : Dn) : Prop := ∀ σ F H, Ok X.K es σ F H → Bd B es σ F H → ∀ E, EnK X.K B F D E → wS X st E σ H
def EvSs (X : Cx) (B : Bs) (sts : List Stmt) (es : List En) (D : Dn) : Prop := ∀ σ F H, Ok X.K es σ F H → Bd B es σ F H → ∀ E, EnK X.K B F D E → wSs X sts E σ H
section
variable {X : Cx} {B : Bs} {es es1 es2 es3 es' : List En} {σ : L2.St} {F H F1 H1 F' H' : Hp} {v : V} {r : Rs} {D D' : Dn} {a b c e o : Expr} {st : Stmt} {sts body : List Stmt} {pos p p2 apos : Pos} {tg iter : Expr} {vs : List Nat}
theorem RsOk.ground (bd : Bd B es σ F H) (q : RsOk (Nw H) F' H' σ v r) : RsOk (Nw B.H) F' H' σ v r := q.weak fun a n => by
  cases e : B.H a with
  | none => exact e
  | some ob => exact absurd n (bd.dom a (by rw [e]; exact nofun))
theorem EnK.later {E : Ends} (k : EnK X.K B F D E) (s : Same F F1) : EnK X.K B F1 D E :=
  ⟨fun es σ F H p o b z => k.nx es σ F H p o b (s.trans z), k.rt, fun es σ F H p o b z => k.bk es σ F H p o b (s.trans z), fun es σ F H p o b z => k.ct es σ F H p o b (s.trans z)⟩
theorem ess_nil (p : D.nx es) : EvSs X B [] es D := fun σ F H ok bd E k => wSs.of pss_nil (k.nx es σ F H p ok bd (Same.refl F))
theorem ess_cons (h : EvS X B st es { D with nx := fun es1 => EvSs X B sts es1 D }) : EvSs X B (st :: sts) es D := fun σ F H ok bd E k =>
  wSs.of (pss_cons ps_w pss_w) (h σ F H ok bd _ ⟨fun es1 σ1 F1 H1 p ok1 bd1 s1 => p σ1 F1 H1 ok1 bd1 E (k.later s1), k.rt, k.bk, k.ct⟩)
theorem ess_one (h : EvS X B st es D) : EvSs X B [st] es D := fun σ F H ok bd E k => wSs.of (pss_one ps_w) (h σ F H ok bd E k)
theorem EvS.imp (h : EvS X B st es D) (nx : ∀ es, D.nx es → D'.nx es) (rt : ∀ r es, D.rt r es → D'.rt r es) (bk : ∀ es, D.bk es → D'.bk es) (ct : ∀ es, D.ct es → D'.ct es) : EvS X B st es D' := fun σ F H ok bd E k =>
  h σ F H ok bd E ⟨fun es σ F H p => k.nx es σ F H (nx es p), fun v r es σ F H p => k.rt v r es σ F H (rt r es p), fun es σ F H p => k.bk es σ F H (bk es p), fun es σ F H p => k.ct es σ F H (ct es p)⟩
theorem EvSs.imp (h : EvSs X B sts es D) (nx : ∀ es, D.nx es → D'.nx es) (rt : ∀ r es, D.rt r es → D'.rt r es) (bk : ∀ es, D.bk es → D'.bk es) (ct : ∀ es, D.ct es → D'.ct es) : EvSs X B sts es D' := fun σ F H ok bd E k =>
  h σ F H ok bd E ⟨fun es σ F H p => k.nx es σ F H (nx es p), fun v r es σ F H p => k.rt v r es σ F H (rt r es p), fun es σ F H p => k.bk es σ F H (bk es p), fun es σ F H p => k.ct es σ F H (ct es p)⟩
theorem es_pass (p : D.nx es) : EvS X B (.Pass pos) es D := fun σ F H ok bd E k => wS.of ps_pass (k.nx es σ F H p ok bd (Same.refl F))
theorem es_break (p : D.bk es) : EvS X B (.Break pos) es D := fun σ F H ok bd E k => wS.of ps_break (k.bk es σ F H p ok bd (Same.refl F))
theorem es_cont (p : D.ct es) : EvS X B (.Continue pos) es D := fun σ F H ok bd E k => wS.of ps_continue (k.ct es σ F H p ok bd (Same.refl F))
theorem es_expr (h : EvE X B e es (fun _ es1 => D.nx es1)) (hs : swapsWith e none pos.line X.env = pure false := by with_unfolding_all rfl) : EvS X B (.Expr e pos) es D := fun σ F H ok bd E k =>
  wS.of (ps_expr pe_w hs) (h σ F H ok bd _ fun v r es1 F1 H1 p1 q1 o1 t1 => k.nx es1 σ F1 H1 p1 o1 (bd.tr t1) t1.exF)
theorem es_ret (h : EvE X B e es (fun r es1 => D.rt r es1)) : EvS X B (.Return (some e) pos) es D := fun σ F H ok bd E k =>
  wS.of (ps_ret pe_w) (h σ F H ok bd _ fun v r es1 F1 H1 p1 q1 o1 t1 => k.rt v r es1 σ F1 H1 p1 (q1.ground bd) o1 (bd.tr t1))
theorem es_retN (p : D.rt (.val .none) es) : EvS X B (.Return none pos) es D := fun σ F H ok bd E k => wS.of ps_retN (k.rt .non (.val .none) es σ F H p .non ok bd)
theorem es_if {sa sb : List Stmt} (h : EvT X B c es (fun k es1 => (k = true → EvSs X B sa es1 D) ∧ (k = false → EvSs X B sb es1 D))) : EvS X B (.If c sa sb pos) es D := fun σ F H ok bd E k =>
  wS.of (ps_if pt_w pss_w pss_w) (h σ F H ok bd _ fun d es1 F1 H1 p1 o1 t1 => by
    cases d with
    | true => exact p1.1 rfl σ F1 H1 o1 (bd.tr t1) E (k.later t1.exF)
    | false => exact p1.2 rfl σ F1 H1 o1 (bd.tr t1) E (k.later t1.exF))
/-- x = e, a value -/
theorem es_set {i : Nat} {x : Str} {pos' : Pos} (hN : X.N.Nodup) (hx : X.N[i]? = some x) (hlc : Loc X.env.scope x) (h : EvE X B e es (fun r es1 => ∃ d, frz r = .val d ∧ notOwn es1[i]? = true ∧ D.nx (es1.set i (.val d))))
    (hs : swapsWith e (some (.Name x pos')) pos.line X.env = pure false := by with_unfolding_all rfl) (hf : X.fn x = true ∨ X.env.scope.names.lookup x = some .local := by with_unfolding_all (first | exact .inl rfl | exact .inr rfl | assumption)) : EvS X B (.Assign [.Name x pos'] e pos) es D := fun σ F H ok bd E k =>
  wS.of (L2.ps_set hN hx hlc pe_w hs hf) ((ee_fz (P := fun r es1 => ∃ d, r = .val d ∧ notOwn es1[i]? = true ∧ D.nx (es1.set i (.val d))) h) σ F H ok bd _ fun v r es1 F1 H1 p1 q1 o1 t1 => by
    obtain ⟨d, rfl, hi, p⟩ := p1
    exact k.nx _ _ F1 H1 p (o1.setV hi rfl ⟨v, rfl, q1⟩) ((bd.tr t1).asg (vs := [i]) (AsgR.setV hi (by simp) rfl)) t1.exF)
/-- x = f, a thing known by its address -/
theorem es_setR {i : Nat} {x : Str} {pos' : Pos} (hN : X.N.Nodup) (hx : X.N[i]? = some x) (hlc : Loc X.env.scope x) (h : EvE X B e es (fun r es1 => ∃ w, r = .raw w ∧ notOwn es1[i]? = true ∧ D.nx (es1.set i (.raw w))))
    (hs : swapsWith e (some (.Name x pos')) pos.line X.env = pure false := by with_unfolding_all rfl) (hf : X.fn x = true ∨ X.env.scope.names.lookup x = some .local := by with_unfolding_all (first | exact .inl rfl | exact .inr rfl | assumption)) : EvS X B (.Assign [.Name x pos'] e pos) es D := fun σ F H ok bd E k =>
  wS.of (L2.ps_set hN hx hlc pe_w hs hf) (h σ F H ok bd _ fun v r es1 F1 H1 p1 q1 o1 t1 => by
    obtain ⟨d, rfl, hi, p⟩ := p1
    have q1 : v = d := q1
    subst q1
    exact k.nx _ _ F1 H1 p (o1.setV hi rfl rfl) ((bd.tr t1).asg (vs := [i]) (AsgR.setV hi (by simp) rfl)) t1.exF)
theorem setO_at {K : Fg} (o : Ok K es σ F H) {i : Nat} {t : Tg} {ds : List HL.D} (hi : notOwn es[i]? = true) {j : Nat} {x : Addr} (h : OwAt (es.set i (mkO t ds)) (σ.set i (some v)) j x) : (j = i ∧ Pt t v x) ∨ (j ≠ i ∧ OwAt es σ j x) := by
  obtain ⟨hl, hno⟩ := notOwn_get hi
  have hl' : i < σ.length := by rw [← o.len]; exact hl
  obtain ⟨t2, d2, w, h1, h2, h3⟩ := h
  rcases get_set h1 with ⟨rfl, e, _⟩ | ⟨ne, h1⟩
  · obtain ⟨rfl, rfl⟩ := mkO_inj e
    rw [List.getElem?_set_self hl'] at h2
    cases h2
    exact .inl ⟨rfl, h3⟩
  · rw [List.getElem?_set_ne (Ne.symm ne)] at h2
    exact .inr ⟨ne, t2, d2, w, h1, h2, h3⟩
/-- a slot gets a list of its own -/
theorem Ok.setOG {K : Fg} (o : Ok K es σ F H) {i : Nat} {t : Tg} {ds : List HL.D} (hi : notOwn es[i]? = true) {lp : Addr} {ws : List V} (p : Pt t v lp) (ins : Ins F t) (f : F lp = none) (hh : H lp = some (.lst ws)) (ra : RpAll F ws ds) (n : ¬ Ow es σ lp) : Ok K (es.set i (mkO t ds)) (σ.set i (some v)) F H := by
  obtain ⟨hl, hno⟩ := notOwn_get hi
  have hl' : i < σ.length := by rw [← o.len]; exact hl
  refine ⟨by simpa using o.len, fun j e he => ?_, fun j k x h1 h2 => ?_, o.sub⟩
  · rcases get_set he with ⟨rfl, rfl, _⟩ | ⟨ne, he⟩
    · rw [List.getElem?_set_self hl']; exact slOk_mk.mpr ⟨v, lp, ws, rfl, p, ins, f, hh, ra⟩
    · rw [List.getElem?_set_ne (Ne.symm ne)]; exact o.slot j e he
  · rcases setO_at o hi h1 with ⟨e1, p1⟩ | ⟨n1, g1⟩ <;> rcases setO_at o hi h2 with ⟨e2, p2⟩ | ⟨n2, g2⟩
    · rw [e1, e2]
    · rw [p1.uniq p] at g2; exact absurd ⟨_, g2⟩ n
    · rw [p2.uniq p] at g1; exact absurd ⟨_, g1⟩ n
    · exact o.sep j k x g1 g2
theorem Bd.setOG {K : Fg} (o : Ok K es σ F H) {i : Nat} {t : Tg} {ds : List HL.D} (bd : Bd B es σ F H) (hi : notOwn es[i]? = true) {lp : Addr} (p : Pt t v lp) (n : B.H lp = none) : Bd B (es.set i (mkO t ds)) (σ.set i (some v)) F H := by
  obtain ⟨hl, hno⟩ := notOwn_get hi
  refine ⟨bd.exF, bd.new, bd.fr, bd.dom, fun x ⟨j, h⟩ => ?_, fun j x h => ?_, bd.opar, bd.tp, fun j x t2 w h => ?_⟩
  · rcases setO_at o hi h with ⟨rfl, p1⟩ | ⟨_, h⟩
    · rw [p1.uniq p]; exact .inr n
    · exact bd.ow x ⟨j, h⟩
  · obtain ⟨t2, d2, w, h1, h2, h3⟩ := bd.par j x h
    have ne : i ≠ j := fun z => by subst z; exact hno _ _ h1
    exact ⟨t2, d2, w, by rw [List.getElem?_set_ne ne]; exact h1, by rw [List.getElem?_set_ne ne]; exact h2, h3⟩
  · obtain ⟨d2, h1, h2⟩ := bd.tg j x t2 w h
    have ne : i ≠ j := fun z => by subst z; exact hno _ _ h1
    exact ⟨d2, by rw [List.getElem?_set_ne ne]; exact h1, by rw [List.getElem?_set_ne ne]; exact h2⟩
theorem es_setOG {t : Tg} {i : Nat} {x : Str} {pos' : Pos} (hN : X.N.Nodup) (hx : X.N[i]? = some x) (hlc : Loc X.env.scope x) (h : EvE X B e es (fun r es1 => ∃ ds, r = mkN t ds ∧ notOwn es1[i]? = true ∧ D.nx (es1.set i (mkO t ds))))
    (hs : swapsWith e (some (.Name x pos')) pos.line X.env = pure false := by with_unfolding_all rfl) (hf : X.fn x = true ∨ X.env.scope.names.lookup x = some .local := by with_unfolding_all (first | exact .inl rfl | exact .inr rfl | assumption)) : EvS X B (.Assign [.Name x pos'] e pos) es D := fun σ F H ok bd E k =>
  wS.of (L2.ps_set hN hx hlc pe_w hs hf) (h σ F H ok bd _ fun v r es1 F1 H1 p1 q1 o1 t1 => by
    obtain ⟨ds, rfl, hi, p⟩ := p1
    obtain ⟨lp, ws, pt, ins, n, f, hh, ra⟩ := rsOk_mk.mp q1
    have n2 : B.H lp = none := by
      cases e : B.H lp with
      | none => rfl
      | some ob => exact absurd n (bd.dom lp (by rw [e]; exact nofun))
    have nn : ¬ Ow es1 σ lp := fun z => by
      obtain ⟨_, ws', h'⟩ := ok.owned (t1.ow lp z)
      rw [show H lp = none from n] at h'; cases h'
    exact k.nx _ _ F1 H1 p (o1.setOG hi pt ins f hh ra nn) (Bd.setOG o1 (bd.tr t1) hi pt n2) t1.exF)
/-- x = a new list, ours -/
theorem es_setO {i : Nat} {x : Str} {pos' : Pos} (hN : X.N.Nodup) (hx : X.N[i]? = some x) (hlc : Loc X.env.scope x) (h : EvE X B e es (fun r es1 => ∃ ds, r = .new ds ∧ notOwn es1[i]? = true ∧ D.nx (es1.set i (.own ds))))
    (hs : swapsWith e (some (.Name x pos')) pos.line X.env = pure false := by with_unfolding_all rfl) (hf : X.fn x = true ∨ X.env.scope.names.lookup x = some .local := by with_unfolding_all (first | exact .inl rfl | exact .inr rfl | assumption)) : EvS X B (.Assign [.Name x pos'] e pos) es D :=
  es_setOG (t := none) hN hx hlc h hs hf
/-- a, b, .. = e -/
theorem es_asg {vs : List Nat} (h : EvE X B e es (fun r es1 => ∃ d, frz r = .val d ∧ EvG X tg vs d es1 D.nx)) (hs : swapsWithSole [tg] e pos.line X.env = pure false := by with_unfolding_all rfl) (hw : swappedStores [tg] e X.env = pure none := by with_unfolding_all rfl)
    (h1 : (assignEach [tg] X.env).map (·.2) = [assign tg X.env] := by with_unfolding_all rfl) : EvS X B (.Assign [tg] e pos) es D := fun σ F H ok bd E k =>
  wS.of (ps_asg pe_w pg_w hs hw h1) ((ee_fz (P := fun r es1 => ∃ d, r = .val d ∧ EvG X tg vs d es1 D.nx) h) σ F H ok bd _ fun v r es1 F1 H1 p1 q1 o1 t1 => by
    obtain ⟨d, rfl, p⟩ := p1
    exact p σ F1 H1 v o1 q1 _ fun σ2 es2 p2 o2 a2 => k.nx es2 σ2 F1 H1 p2 o2 ((bd.tr t1).asg a2) t1.exF)
/-- a, b = x, y with plain local names: values -/
theorem es_par {i j : Nat} {x y : Str} {px py pt : Pos} {kt k2 pt2} (hc : X.calm = true) (hN : X.N.Nodup) (hi : X.N[i]? = some x) (hj : X.N[j]? = some y) (hij : i ≠ j)
    (hx : X.env.scope.names.lookup x = some .local) (hy : X.env.scope.names.lookup y = some .local)
    (h : EvA X B [a, b] es (fun rs es1 => ∃ d1 d2, rs = [.val d1, .val d2] ∧ notOwn es1[i]? = true ∧ notOwn es1[j]? = true ∧ D.nx ((es1.set i (.val d1)).set j (.val d2))))
    (hw : swappedStores [.Tuple [.Name x px, .Name y py] kt pt] (.Tuple [a, b] k2 pt2) X.env = pure (some [x, y]) := by with_unfolding_all rfl)
    (hs : swapsWithSole [.Tuple [.Name x px, .Name y py] kt pt] (.Tuple [a, b] k2 pt2) pos.line X.env = pure false := by with_unfolding_all rfl) :
    EvS X B (.Assign [.Tuple [.Name x px, .Name y py] kt pt] (.Tuple [a, b] k2 pt2) pos) es D := fun σ F H ok bd E k =>
  wS.of (ps_par hc hN hi hj hij hx hy pa_w hw hs) (h σ F H ok bd _ fun ws rs es1 F1 H1 p1 q1 o1 t1 => by
    obtain ⟨d1, d2, rfl, n1, n2, p⟩ := p1
    obtain ⟨v, w, rfl, q2, q3⟩ := rs2 q1
    have n2' : notOwn (es1.set i (.val d1))[j]? = true := by rw [List.getElem?_set_ne hij]; exact n2
    have oa : Ok X.K (es1.set i (.val d1)) (σ.set i (some v)) F1 H1 := o1.setV n1 rfl ⟨v, rfl, q2⟩
    have ob : Ok X.K ((es1.set i (.val d1)).set j (.val d2)) ((σ.set i (some v)).set j (some w)) F1 H1 := oa.setV n2' rfl ⟨w, rfl, q3⟩
    have ba : Bd B (es1.set i (.val d1)) (σ.set i (some v)) F1 H1 := (bd.tr t1).asg (vs := [i]) (AsgR.setV n1 (by simp) rfl)
    have bb : Bd B ((es1.set i (.val d1)).set j (.val d2)) ((σ.set i (some v)).set j (some w)) F1 H1 := ba.asg (vs := [j]) (AsgR.setV n2' (by simp) rfl)
    exact ⟨v, w, rfl, k.nx _ _ F1 H1 p ob bb t1.exF⟩)
/-- x[i] = e in a list of ours -/
theorem es_put {sl : Nat} (h : EvE X B e es (fun r es1 => ∃ d, frz r = .val d ∧ EvE X B o es1 (fun r0 es2 => r0 = .sl sl ∧ EvE X B a es2 (fun r1 es3 => ∃ ds n j, r1 = .val (.int n) ∧ es3[sl]? = some (.own ds) ∧ ixN ds.length n = some j ∧ D.nx (es3.set sl (.own (ds.set j d)))))))
    (ha : ∀ v, assign (.Subscript o a p) X.env v = (do
      let ov ← holding [v] (eval o X.env)
      let iv ← holding [v, ov] (eval a X.env)
      standAt p
      holding [v, ov, iv] (setItem ov iv v)
      release [v, ov, iv] []) := by with_unfolding_all (intro _; rfl))
    (hs : swapsWithSole [.Subscript o a p] e pos.line X.env = pure false := by with_unfolding_all rfl) (hw : swappedStores [.Subscript o a p] e X.env = pure none := by with_unfolding_all rfl)
    (h1 : (assignEach [.Subscript o a p] X.env).map (·.2) = [assign (.Subscript o a p) X.env] := by with_unfolding_all rfl) : EvS X B (.Assign [.Subscript o a p] e pos) es D := fun σ F H ok bd E k =>
  wS.of (ps_asg pe_w (pg_sub pe_w pe_w set_list ha) hs hw h1) ((ee_fz (P := fun r es1 => ∃ d, r = .val d ∧ EvE X B o es1 (fun r0 es2 => r0 = .sl sl ∧ EvE X B a es2 (fun r1 es3 => ∃ ds n j, r1 = .val (.int n) ∧ es3[sl]? = some (.own ds) ∧ ixN ds.length n = some j ∧ D.nx (es3.set sl (.own (ds.set j d))))))  h) σ F H ok bd _ fun v r es1 F1 H1 p1 q1 o1 t1 => by
    obtain ⟨d, rfl, p1⟩ := p1
    refine p1 σ F1 H1 o1 (bd.tr t1) _ fun v0 r0 es2 F2 H2 p2 q2 o2 t2 => ?_
    obtain ⟨rfl, p2⟩ := p2
    refine p2 σ F2 H2 o2 (bd.tr (t1.trans t2)) _ fun v1 r1 es3 F3 H3 p3 q3 o3 t3 => ?_
    obtain ⟨ds, n, j, rfl, hi, hj, p⟩ := p3
    cases q3
    have q0 : σ[sl]? = some (some v0) := q2
    obtain ⟨lp, ws, rfl, hl, hh, ra⟩ := own_at (N := NT) o3 hi (show RsOk NT F3 H3 σ v0 (.sl sl) from q0)
    have qv := RsOk.keep ok t1 q1 (t2.trans t3)
    exact ⟨lp, ws, n, j, rfl, rfl, hh, by rw [ra.length]; exact hj, k.nx _ σ F3 _ p (o3.mut hi hl (ra.set qv j)) ((bd.tr (t1.trans (t2.trans t3))).tr (Tr.mut o3 hi hl)) (t1.trans (t2.trans t3)).exF⟩)
/-! ### what is forgotten -/
theorem at_blank {fg : List Nat} {i : Nat} {x : Addr} (h : OwAt (blank es fg) σ i x) : OwAt es σ i x := by
  obtain ⟨t, ds, v, h1, h2, h3⟩ := h
  exact ⟨t, ds, v, (blank_own h1).2, h2, h3⟩
theorem Ok.forget {K : Fg} (o : Ok K es σ F H) (fg : List Nat) : Ok K (blank es fg) σ F H := by
  refine ⟨by rw [blank_len]; exact o.len, fun i e he => ?_, fun i j x h1 h2 => o.sep i j x (at_blank h1) (at_blank h2), o.sub⟩
  rw [blank_get] at he
  split at he
  · cases he; trivial
  · exact o.slot i e he
theorem Bd.forget {np : Nat} (bd : Bd B es σ F H) {fg : List Nat} (hB : ∀ i a, B.par i a → i < np) (hf : ∀ i, i ∈ fg → np ≤ i) : Bd B (blank es fg) σ F H := by
  refine ⟨bd.exF, bd.new, bd.fr, bd.dom, fun x ⟨i, h⟩ => bd.ow x ⟨i, at_blank h⟩, fun i x h => ?_, bd.opar, bd.tp, fun i x t v h => ?_⟩
  · obtain ⟨t, ds, v, h1, h2⟩ := bd.par i x h
    refine ⟨t, ds, v, ?_, h2⟩
    rw [blank_get, if_neg fun z => by have := hf i z.1; have := hB i x h; omega]
    exact h1
  · obtain ⟨ds, h1, h2⟩ := bd.tg i x t v h
    refine ⟨ds, ?_, h2⟩
    rw [blank_get, if_neg fun z => by have := hf i z.1; have := hB i x (bd.tp i x t v h); omega]
    exact h1
theorem ess_forget {np : Nat} (fg : List Nat) (hB : ∀ i a, B.par i a → i < np) (hf : ∀ i, i ∈ fg → np ≤ i) (h : EvSs X B sts (blank es fg) D) : EvSs X B sts es D := fun σ F H ok bd E k =>
  h σ F H (ok.forget fg) (bd.forget hB hf) E k
/-- for tg in iter; fg: what a turn leaves behind is forgotten -/
theorem es_for {np : Nat} (hp : PassesOwn (model X.prog X.w) X.A X.env X.xe) (hc : X.calm = true) (hB : ∀ i a, B.par i a → i < np) (fg : List Nat)
    (h : EvI X B tg iter es fun items es1 => ∃ Iv : Nat → List En → Prop, Iv 0 es1 ∧ (∀ i d es2, items[i]? = some d → Iv i es2 → EvG X tg vs d es2 fun es3 => EvSs X B body es3 { D with nx := fun es4 => Iv (i + 1) (blank es4 fg), ct := fun es4 => Iv (i + 1) (blank es4 fg), bk := D.nx }) ∧ ∀ es2, Iv items.length es2 → D.nx es2)
    (hf : ∀ i, i ∈ fg → np ≤ i := by decide) (hs : ∀ x, foldedSetIterable iter X.env x = pure x := by with_unfolding_all (intro _; rfl)) : EvS X B (.For tg iter body [] pos) es D := fun σ F H ok bd E k =>
  wS.of (ps_for hp hc pi_w pg_w pss_w hs) (h σ F H ok bd _ fun J items es1 F1 H1 p1 it o1 t1 => by
    obtain ⟨Iv, h0, hs, hd⟩ := p1
    refine ⟨fun i m σi Hi => i ≤ items.length ∧ m = items.length - i ∧ ∃ es2 F2, Iv i es2 ∧ Ok X.K es2 σi F2 Hi ∧ Bd B es2 σi F2 Hi ∧ Same F1 F2, ⟨items.length, Nat.zero_le _, rfl, es1, F1, h0, o1, bd.tr t1, Same.refl F1⟩, ?_⟩
    rintro i m σi Hi ⟨hi, rfl, es2, F2, w, o2, b2, s2⟩
    by_cases hlt : i < items.length
    · refine .inr ⟨it.go i Hi hlt (s2.trans o2.sub), fun σn Hn => ∃ es2 F2, Iv (i + 1) es2 ∧ Ok X.K es2 σn F2 Hn ∧ Bd B es2 σn F2 Hn ∧ Same F1 F2, fun σn Hn ⟨es', F', w', o', b', s'⟩ => ⟨items.length - (i + 1), by omega, hlt, rfl, es', F', w', o', b', s'⟩, fun x Hy y => ?_⟩
      obtain ⟨d, hd'⟩ : ∃ d, items[i]? = some d := ⟨_, List.getElem?_eq_getElem hlt⟩
      obtain ⟨F3, o3, b3, s3, q3⟩ : ∃ F3, Ok X.K es2 σi F3 Hy ∧ Bd B es2 σi F3 Hy ∧ Same F1 F3 ∧ Rp F3 x d := by
        rcases it.yld i Hi x Hy d hd' (s2.trans o2.sub) y with ⟨rfl, q⟩ | ⟨T, ob, ws, ds, rfl, n, hoc, hod, rfl, rfl, ra⟩
        · exact ⟨F2, o2, b2, s2, Rp.mono s2 d x q⟩
        · have sn := s2.trans (same_new (ob := .frz ob (.tup ws)) (Same.back o2.sub n))
          exact ⟨_, o2.newF n, b2.tr (Tr.newF o2 n), sn, .tup ⟨ob, upd_same, hoc, hod⟩ (Rp.monoAll sn ds ws ra)⟩
      refine hs i d es2 hd' w σi F3 Hy x o3 q3 _ fun σ4 es4 p4 o4 a4 => ?_
      refine p4 σ4 F3 Hy o4 (b3.asg a4) _ ⟨fun es5 σ5 F5 H5 w5 o5 b5 s5 => ⟨_, F5, w5, o5.forget fg, b5.forget hB hf, s3.trans s5⟩, k.rt, fun es5 σ5 F5 H5 w5 o5 b5 s5 => k.nx es5 σ5 F5 H5 w5 o5 b5 (t1.exF.trans (s3.trans s5)), fun es5 σ5 F5 H5 w5 o5 b5 s5 => ⟨_, F5, w5, o5.forget fg, b5.forget hB hf, s3.trans s5⟩⟩
    · have e : i = items.length := by omega
      subst e
      exact .inl ⟨it.stop Hi (s2.trans o2.sub), k.nx es2 σi F2 Hi (hd es2 w) o2 b2 (t1.exF.trans s2)⟩)
/-- while -/
theorem es_while {np : Nat} (hp : PassesOwn (model X.prog X.w) X.A X.env X.xe) (hB : ∀ i a, B.par i a → i < np) (fg : List Nat) (Iv : List En → Prop) (μ : List En → Nat) (h0 : Iv es)
    (hs : ∀ es1, Iv es1 → EvT X B c es1 fun k es2 => (k = true → EvSs X B body es2 { D with nx := fun es4 => Iv (blank es4 fg) ∧ μ (blank es4 fg) < μ es1, ct := fun es4 => Iv (blank es4 fg) ∧ μ (blank es4 fg) < μ es1, bk := D.nx }) ∧ (k = false → D.nx es2))
    (hf : ∀ i, i ∈ fg → np ≤ i := by decide) : EvS X B (.While c body [] pos) es D := fun σ F H ok bd E k =>
  wS.of (ps_while hp pt_w pss_w) (by
    refine ⟨fun m σi Hi => ∃ es2 F2, Iv es2 ∧ m = μ es2 ∧ Ok X.K es2 σi F2 Hi ∧ Bd B es2 σi F2 Hi ∧ Same F F2, ⟨μ es, es, F, h0, rfl, ok, bd, Same.refl F⟩, ?_⟩
    rintro m σi Hi ⟨es2, F2, w, rfl, o2, b2, s2⟩
    refine hs es2 w σi F2 Hi o2 b2 _ fun kb es3 F3 H3 p3 o3 t3 => ?_
    cases kb with
    | true =>
      rw [if_pos rfl]
      refine ⟨fun σn Hn => ∃ es4 F4, Iv es4 ∧ μ es4 < μ es2 ∧ Ok X.K es4 σn F4 Hn ∧ Bd B es4 σn F4 Hn ∧ Same F F4, fun σn Hn ⟨es4, F4, w4, l4, o4, b4, s4⟩ => ⟨μ es4, l4, es4, F4, w4, rfl, o4, b4, s4⟩, ?_⟩
      have s3 := s2.trans t3.exF
      exact p3.1 rfl σi F3 H3 o3 (b2.tr t3) _ ⟨fun es5 σ5 F5 H5 w5 o5 b5 s5 => ⟨_, F5, w5.1, w5.2, o5.forget fg, b5.forget hB hf, s3.trans s5⟩, k.rt, fun es5 σ5 F5 H5 w5 o5 b5 s5 => k.nx es5 σ5 F5 H5 w5 o5 b5 (s3.trans s5), fun es5 σ5 F5 H5 w5 o5 b5 s5 => ⟨_, F5, w5.1, w5.2, o5.forget fg, b5.forget hB hf, s3.trans s5⟩⟩
    | false =>
      rw [if_neg Bool.false_ne_true]
      exact k.nx es3 σi F3 H3 (p3.2 rfl) o3 (b2.tr t3) (s2.trans t3.exF))
end
end HL

set_option Elab.async false
set_option linter.all false
set_option maxRecDepth 100000
set_option maxHeartbeats 2000000
set_option autoImplicit false
namespace HL
open PySem PySem.Spec PyProof.Rows L2

/-! ### what a def promises -/
structure FS where
  n : Nat
  pre : List En → Prop
  post : List En → Rs → List En → Prop
  exc : List En → Addr → List En → Prop := fun _ _ _ => False
def noSl : Rs → Bool
  | .sl _ => false
  | .fl _ _ => false
  | _ => true
def sg (vs : List V) : L2.St := vs.map some
def spOf (K : Fg) (S : FS) : Sp := fun vs H Q E => vs.length = S.n ∧ ∃ F es, Ok K es (sg vs) F H ∧ S.pre es ∧
  (∀ v r es' F' H', S.post es r es' → noSl r = true → RsOk (Nw H) F' H' (sg vs) v r → Ok K es' (sg vs) F' H' → Tr es (sg vs) F H es' F' H' → Q v H') ∧
  (∀ C es' F' H', S.exc es C es' → Ok K es' (sg vs) F' H' → Tr es (sg vs) F H es' F' H' → E (.ref C) none H')
def mrg : List En → List En → List En
  | [], _ => []
  | e0 :: es0, e :: es => cond (isO e0) e e0 :: mrg es0 es
  | e0 :: es0, [] => e0 :: es0
def isOwn : Option En → Bool
  | some (.own _) => true
  | some (.tab _ _ _ _) => true
  | _ => false
def outR (es0 es1 : List En) : Rs → Option Rs
  | .val d => some (.val d)
  | .new ds => some (.new ds)
  | .newT C x l ds => some (.newT C x l ds)
  | .raw w => some (.raw w)
  | .sl i => match es1[i]? with
    | some (.own ds) => if isOwn es0[i]? then none else some (.new ds)
    | some (.tab C x l ds) => if isOwn es0[i]? then none else some (.newT C x l ds)
    | _ => none
  | .fl _ _ => none
section
variable {K : Fg} {es es0 es1 : List En} {σ σ1 : L2.St} {F H F1 H1 : Hp}
theorem SlOk.keepV {so : Option (Option V)} {en : En} {F' H' : Hp} (h : SlOk K F H so en) (n : isO en = false) (sF : Same F F') : SlOk K F' H' so en := by
  cases en with
  | no => trivial
  | val d => obtain ⟨v, e, q⟩ := h; exact ⟨v, e, Rp.mono sF d v q⟩
  | own ds => cases n
  | tab C x l ds => cases n
  | scr ns => obtain ⟨a, e, q⟩ := h; exact ⟨a, e, sF.seq q⟩
  | raw v => exact h
theorem isOwn_mk {t : Tg} {ds : List D} : isOwn (some (mkO t ds)) = true := by
  match t with
  | none => rfl
  | some (_, _, _) => rfl
theorem mrg_len : ∀ {es0 es1 : List En}, (mrg es0 es1).length = es0.length
  | [], _ => by unfold mrg; rfl
  | e0 :: es0, e :: es => by unfold mrg; rw [List.length_cons, List.length_cons, mrg_len]
  | e0 :: es0, [] => by unfold mrg; rfl
theorem mrg_get : ∀ {es0 es1 : List En} {i : Nat} {e : En}, (mrg es0 es1)[i]? = some e → ∃ e0, es0[i]? = some e0 ∧ ((isO e0 = true ∧ (es1[i]? = some e ∨ es1[i]? = none)) ∨ (isO e0 = false ∧ e = e0))
  | [], es1, i, e, h => by unfold mrg at h; simp at h
  | e0 :: es0, [], i, e, h => by
    unfold mrg at h
    refine ⟨e, h, ?_⟩
    cases q : isO e with
    | true => exact .inl ⟨rfl, .inr rfl⟩
    | false => exact .inr ⟨rfl, rfl⟩
  | e0 :: es0, e1 :: es1, 0, e, h => by
    unfold mrg at h
    have h := Option.some.inj h
    cases q : isO e0 with
    | true => rw [q] at h; exact ⟨e0, rfl, .inl ⟨q, .inl (congrArg some h)⟩⟩
    | false => rw [q] at h; exact ⟨e0, rfl, .inr ⟨q, h.symm⟩⟩
  | e0 :: es0, e1 :: es1, i + 1, e, h => by
    unfold mrg at h
    have h' : (mrg es0 es1)[i]? = some e := by simpa using h
    simpa using mrg_get h'
theorem mrg_own {i : Nat} {t : Tg} {ds : List D} {e1 : En} (h : es0[i]? = some (mkO t ds)) (h1 : es1[i]? = some e1) : (mrg es0 es1)[i]? = some e1 := by
  have hl : i < (mrg es0 es1).length := by rw [mrg_len]; exact (List.getElem?_eq_some_iff.mp h).1
  obtain ⟨e, he⟩ : ∃ e, (mrg es0 es1)[i]? = some e := ⟨_, List.getElem?_eq_getElem hl⟩
  obtain ⟨e0, g0, g⟩ := mrg_get he
  rw [h] at g0
  cases g0
  rcases g with ⟨_, g | g⟩ | ⟨g, _⟩
  · rw [h1] at g; cases g; exact he
  · rw [h1] at g; cases g
  · rw [isO_mk] at g; cases g
/-- the ground at a def's entry -/
def ground (es : List En) (σ : L2.St) (F H : Hp) : Bs := ⟨F, H, fun a => Ow es σ a, fun i a => OwAt es σ i a, fun i a t v => (∃ ds, es[i]? = some (mkO t ds) ∧ σ[i]? = some (some v)) ∧ Pt t v a⟩
theorem append_own {n i : Nat} {t : Tg} {ds : List D} (h : (es ++ List.replicate n En.no)[i]? = some (mkO t ds)) : es[i]? = some (mkO t ds) := by
  by_cases hi : i < es.length
  · rw [List.getElem?_append_left hi] at h; exact h
  · rw [List.getElem?_append_right (by omega)] at h
    have := List.getElem?_replicate (n := n) (a := En.no) (i := i - es.length)
    rw [this] at h
    split at h
    · have h := Option.some.inj h
      have h2 := isO_mk (t := t) (ds := ds)
      rw [← h] at h2
      cases h2
    · cases h
theorem get_left {α : Type} {l l' : List α} {i : Nat} {x : α} (h : l[i]? = some x) : (l ++ l')[i]? = some x := by
  rw [List.getElem?_append_left (List.getElem?_eq_some_iff.mp h).1]; exact h
theorem ground_ok {n : Nat} {σ' : L2.St} (o : Ok K es σ F H) (hl : σ'.length = n) : Ok K (es ++ List.replicate n .no) (σ ++ σ') F H ∧ Bd (ground es σ F H) (es ++ List.replicate n .no) (σ ++ σ') F H := by
  have out : ∀ {i x}, OwAt (es ++ List.replicate n .no) (σ ++ σ') i x → OwAt es σ i x := fun {i x} ⟨t, ds, v, h1, h2, h3⟩ => by
    have g1 := append_own h1
    have hi : i < σ.length := by rw [← o.len]; exact (List.getElem?_eq_some_iff.mp g1).1
    rw [List.getElem?_append_left hi] at h2
    exact ⟨t, ds, v, g1, h2, h3⟩
  refine ⟨⟨by simp [o.len, hl], fun i e he => ?_, fun i j x h1 h2 => o.sep i j x (out h1) (out h2), o.sub⟩, ⟨Same.refl F, fun _ h _ => h, fun _ _ h _ => h, fun _ h => h, fun x ⟨i, h⟩ => .inl ⟨i, out h⟩, fun i x ⟨t, ds, v, h1, h2, h3⟩ => ⟨t, ds, v, get_left h1, get_left h2, h3⟩, fun x ⟨i, h⟩ => ⟨i, h⟩, fun i a t v ⟨⟨ds, h1, h2⟩, h3⟩ => ⟨t, ds, v, h1, h2, h3⟩, fun i a t v ⟨⟨ds, h1, h2⟩, _⟩ => ⟨ds, get_left h1, get_left h2⟩⟩⟩
  · by_cases hi : i < es.length
    · rw [List.getElem?_append_left hi] at he
      rw [List.getElem?_append_left (by rw [← o.len]; exact hi)]
      exact o.slot i e he
    · rw [List.getElem?_append_right (by omega), List.getElem?_replicate] at he
      split at he
      · cases he; trivial
      · cases he
theorem ground_out (o : Ok K es0 σ F H) (o1 : Ok K es1 σ1 F1 H1) (b1 : Bd (ground es0 σ F H) es1 σ1 F1 H1) : Ok K (mrg es0 es1) σ F1 H1 ∧ Tr es0 σ F H (mrg es0 es1) F1 H1 := by
  have par : ∀ {i : Nat} {t : Tg} {ds : List D}, es0[i]? = some (mkO t ds) → ∃ ds' v, es1[i]? = some (mkO t ds') ∧ σ1[i]? = some (some v) ∧ σ[i]? = some (some v) := fun {i t ds} h => by
    obtain ⟨v, lp, ws, e1, p, _⟩ := o.slO h
    obtain ⟨ds', g1, g2⟩ := b1.tg i lp t v ⟨⟨ds, h, e1⟩, p⟩
    exact ⟨ds', v, g1, g2, e1⟩
  have own0 : ∀ {i x}, OwAt (mrg es0 es1) σ i x → OwAt es0 σ i x := fun {i x} ⟨t, ds, v, h1, h2, h3⟩ => by
    obtain ⟨e0, h0, ⟨q, h⟩ | ⟨n, e⟩⟩ := mrg_get h1
    · obtain ⟨t0, d0, rfl⟩ := mkO_of q
      obtain ⟨ds', v', g1, g2, g3⟩ := par h0
      rcases h with h | h
      · rw [g1] at h
        obtain ⟨rfl, rfl⟩ := mkO_inj (Option.some.inj h)
        exact ⟨_, d0, v, h0, h2, h3⟩
      · rw [g1] at h; cases h
    · rw [← e, isO_mk] at n; cases n
  refine ⟨⟨by rw [mrg_len]; exact o.len, fun i e he => ?_, fun i j x h1 h2 => o.sep i j x (own0 h1) (own0 h2), o1.sub⟩, ⟨b1.exF, b1.new, fun x ob h n => b1.fr x ob h n, b1.dom, fun x ⟨i, h⟩ => ⟨i, own0 h⟩, fun i t ds h => ?_⟩⟩
  · obtain ⟨e0, h0, ⟨q, h⟩ | ⟨n, rfl⟩⟩ := mrg_get he
    · obtain ⟨t0, d0, rfl⟩ := mkO_of q
      obtain ⟨ds', v', g1, g2, g3⟩ := par h0
      rcases h with h | h
      · rw [g1] at h
        cases h
        have z := o1.slot i _ g1
        rw [g2] at z
        rw [g3]
        exact z
      · rw [g1] at h; cases h
    · exact (o.slot i _ h0).keepV n b1.exF
  · obtain ⟨ds', v', g1, g2, g3⟩ := par h
    exact ⟨ds', mrg_own h g1⟩

theorem outR_sl {es0 es1 : List En} {i : Nat} {r' : Rs} (h : outR es0 es1 (.sl i) = some r') : ∃ t ds, es1[i]? = some (mkO t ds) ∧ isOwn es0[i]? = false ∧ r' = mkN t ds := by
  have h : (match es1[i]? with | some (.own ds) => if isOwn es0[i]? then none else some (.new ds) | some (.tab C x l ds) => if isOwn es0[i]? then none else some (.newT C x l ds) | _ => none) = some r' := h
  cases q : isOwn es0[i]? with
  | true =>
    rw [q] at h
    split at h
    · cases h
    · cases h
    · cases h
  | false =>
    rw [q] at h
    split at h
    · rename_i ds z
      exact ⟨none, ds, z, rfl, (Option.some.inj h).symm⟩
    · rename_i C x l ds z
      exact ⟨some (C, x, l), ds, z, rfl, (Option.some.inj h).symm⟩
    · cases h
theorem noSl_mk : ∀ {t : Tg} {ds : List D}, noSl (mkN t ds) = true
  | none, _ => rfl
  | some (_, _, _), _ => rfl
theorem outR_noSl {es0 es1 : List En} {r r' : Rs} (h : outR es0 es1 r = some r') : noSl r' = true := by
  cases r with
  | val d => cases h; rfl
  | new ds => cases h; rfl
  | newT C x l ds => cases h; rfl
  | raw w => cases h; rfl
  | fl i l => cases h
  | sl i =>
    obtain ⟨t, ds, _, _, rfl⟩ := outR_sl h
    exact noSl_mk
/-! ### a def by its body -/
variable {P : Program} {w : World} {mg : Str → Option Value} {base : Heap}
abbrev Bx (CX : CXT) (P : Program) (w : World) (K : Fg) (mg : Str → Option Value) (base : Heap) (N : List Str) (q : Str) (st : Stmt) (f : Addr) (cdv : Value) (A : Around) (outer : List Env) (s : Shared) (H : Hp) (E : XK) : Cx :=
  cxOf CX P w K mg base N q (defScope st) f cdv A outer s H E
def fnD (S : FS) (es0 : List En) : Dn where
  nx := fun es1 => S.post es0 (.val .none) (mrg es0 es1)
  rt := fun r es1 => ∃ r', outR es0 es1 r = some r' ∧ S.post es0 r' (mrg es0 es1)
theorem fn_end {S : FS} {vs : List V} {Q : VK} {F H : Hp} {es0 : List En} (o : Ok K es0 (sg vs) F H)
    (k : ∀ v r es' F' H', S.post es0 r es' → noSl r = true → RsOk (Nw H) F' H' (sg vs) v r → Ok K es' (sg vs) F' H' → Tr es0 (sg vs) F H es' F' H' → Q v H') : EnK K (ground es0 (sg vs) F H) F (fnD S es0) { nx := fun _ H' => Q .non H', rt := Q } where
  nx := fun es1 σ1 F1 H1 p o1 b1 _ => by
    obtain ⟨o2, t2⟩ := ground_out o o1 b1
    exact k .non _ _ F1 H1 p rfl .non o2 t2
  rt := fun v r es1 σ1 F1 H1 p q o1 b1 => by
    obtain ⟨r', hr, p⟩ := p
    obtain ⟨o2, t2⟩ := ground_out o o1 b1
    refine k v r' _ F1 H1 p ?_ ?_ o2 t2
    · exact outR_noSl hr
    cases r with
    | val d => cases hr; exact q
    | new ds => cases hr; exact q
    | newT C x l ds => cases hr; exact q
    | raw w => cases hr; exact q
    | fl i l => cases hr
    | sl i =>
      obtain ⟨g, ds, z, hn, rfl⟩ := outR_sl hr
      have q : σ1[i]? = some (some v) := q
      obtain ⟨v', lp, ws, e1, p1, ins, f1, hh, ra⟩ := o1.slO z
      rw [q] at e1
      cases e1
      refine rsOk_mk.mpr ⟨lp, ws, p1, ins, ?_, f1, hh, ra⟩
      rcases b1.ow lp ⟨i, g, ds, v, z, q, p1⟩ with h | h
      · obtain ⟨j, hj⟩ := h
        have h1 := b1.par j lp hj
        have e := o1.sep i j lp ⟨g, ds, v, z, q, p1⟩ h1
        subst e
        obtain ⟨t2, d2, v2, h2, _⟩ := hj
        rw [h2, isOwn_mk] at hn
        cases hn
      · exact h
  bk := fun _ _ _ _ p => p.elim
  ct := fun _ _ _ _ p => p.elim
theorem start_eq {N : List Str} {vs : List V} : start N vs = sg vs ++ List.replicate (N.length - vs.length) none := rfl
/-- a def that lets nothing out -/
theorem fn_ok {x q : Str} {st : Stmt} {f : Addr} {fd : FuncData} {N ps : List Str} {k : Nat} {S : FS} (Fu : Fun K x q st f fd) (Sc : FnScope N ps (defScope st)) (hn : S.n = ps.length)
    (body : ∀ (cdv : Value) (A : Around) (outer : List Env) (s : Shared) (H : Hp) (E : XK) (B : Bs) (es0 : List En), Room k (A.deeper (envOfC q (defScope st) s.heap.objs.size f cdv)) → S.pre es0 → (∀ i a, B.par i a → i < S.n) →
      EvSs (Bx CX0 P w K mg base N q st f cdv A outer s H E).nox B (defBody st) (es0 ++ List.replicate (N.length - S.n) .no) (fnD S es0)) : FnOk P w K mg base CX0 (k + 1) f fd ps (spOf K S) := by
  refine Fu.ok Sc (fun vs H Q E h => by rw [h.1, hn]) fun cdv A outer s H vs Q E hr h => ?_
  obtain ⟨hl, F, es0, o, pre, kq, kx⟩ := h
  have hlen : es0.length = S.n := by rw [o.len]; show (vs.map some).length = _; rw [List.length_map, hl]
  obtain ⟨o0, b0⟩ := ground_ok (n := N.length - S.n) (σ' := List.replicate (N.length - S.n) none) o (by simp)
  refine ⟨_, pss_w, ?_⟩
  rw [start_eq, hl]
  exact body cdv A outer s H E (ground es0 (sg vs) F H) es0 hr pre (fun i a ⟨_, _, _, h1, _⟩ => by rw [← hlen]; exact (List.getElem?_eq_some_iff.mp h1).1) _ F H o0 b0 _ (fn_end o kq)
/-- what an exception in the air must bring -/
def Exc (X : Cx) (B : Bs) (ex : Addr → List En → Prop) : Prop := Takes X fun cls d σ H => ∃ C es F, cls = .ref C ∧ d = none ∧ Ok X.K es σ F H ∧ Bd B es σ F H ∧ ex C es
/-- a def that may raise -/
theorem fn_okX {x q : Str} {st : Stmt} {f : Addr} {fd : FuncData} {N ps : List Str} {k : Nat} {S : FS} (Fu : Fun K x q st f fd) (Sc : FnScope N ps (defScope st)) (hn : S.n = ps.length)
    (body : ∀ (cdv : Value) (A : Around) (outer : List Env) (s : Shared) (H : Hp) (E : XK) (B : Bs) (es0 : List En), Room k (A.deeper (envOfC q (defScope st) s.heap.objs.size f cdv)) → S.pre es0 → (∀ i a, B.par i a → i < S.n) →
      Exc (Bx (L2.CX P w) P w K mg base N q st f cdv A outer s H E) B (fun C es1 => S.exc es0 C (mrg es0 es1)) →
      EvSs (Bx (L2.CX P w) P w K mg base N q st f cdv A outer s H E) B (defBody st) (es0 ++ List.replicate (N.length - S.n) .no) (fnD S es0)) : FnOk P w K mg base (L2.CX P w) (k + 1) f fd ps (spOf K S) := by
  refine Fu.okX Sc (fun vs H Q E h => by rw [h.1, hn]) fun cdv A outer s H vs Q E hr h => ?_
  obtain ⟨hl, F, es0, o, pre, kq, kx⟩ := h
  have hlen : es0.length = S.n := by rw [o.len]; show (vs.map some).length = _; rw [List.length_map, hl]
  obtain ⟨o0, b0⟩ := ground_ok (n := N.length - S.n) (σ' := List.replicate (N.length - S.n) none) o (by simp)
  refine ⟨_, pss_w, ?_⟩
  rw [start_eq, hl]
  refine body cdv A outer s H E (ground es0 (sg vs) F H) es0 hr pre (fun i a ⟨_, _, _, h1, _⟩ => by rw [← hlen]; exact (List.getElem?_eq_some_iff.mp h1).1) ?_ _ F H o0 b0 _ (fn_end o kq)
  refine (takes_of rfl rfl rfl rfl).imp fun cls d σ1 H1 hh => ?_
  obtain ⟨C, es1, F1, rfl, rfl, o1, b1, ex⟩ := hh
  obtain ⟨o2, t2⟩ := ground_out o o1 b1
  exact kx C _ F1 H1 ex o2 t2
end

/-! ### a call -/
def argEn (es : List En) : Rs → Option En
  | .val d => some (.val d)
  | .sl i => es[i]?
  | .raw w => some (.raw w)
  | _ => none
def argsEn (es : List En) : List Rs → Option (List En)
  | [] => some []
  | r :: rs => match argEn es r, argsEn es rs with
    | some e, some l => some (e :: l)
    | _, _ => none
def noOwn : List En → Bool
  | [] => true
  | e :: l => !isO e && noOwn l
/-- at most the first is a list of ours -/
def headOwn (l : List En) : Bool := noOwn l.tail
def back (es : List En) : List Rs → List En → List En
  | .sl i :: _, .own ds :: _ => es.set i (.own ds)
  | .sl i :: _, .tab C x l ds :: _ => es.set i (.tab C x l ds)
  | _, _ => es
section
variable {X : Cx} {B : Bs} {es es0 es1 es' : List En} {σ : L2.St} {F H F1 H1 F' H' : Hp} {vs : List V} {rs : List Rs} {P : Rs → List En → Prop} {a b c e o : Expr} {l : List Expr} {pos p : Pos}
theorem argsEn_get : ∀ {rs : List Rs} {es0 : List En} {k : Nat} {en : En}, argsEn es rs = some es0 → es0[k]? = some en → ∃ r, rs[k]? = some r ∧ argEn es r = some en
  | [], es0, k, en, h, h0 => by cases h; simp at h0
  | r :: rs, es0, k, en, h, h0 => by
    unfold argsEn at h
    split at h
    · rename_i e l h1 h2
      cases h
      cases k with
      | zero => cases h0; exact ⟨r, rfl, h1⟩
      | succ k => simpa using argsEn_get h2 (by simpa using h0)
    · cases h
theorem argsEn_len : ∀ {rs : List Rs} {es0 : List En}, argsEn es rs = some es0 → es0.length = rs.length
  | [], es0, h => by cases h; rfl
  | r :: rs, es0, h => by
    unfold argsEn at h
    split at h
    · rename_i e l h1 h2
      cases h
      rw [List.length_cons, List.length_cons, argsEn_len h2]
    · cases h
theorem rsAll_get {N : Addr → Prop} : ∀ {vs : List V} {rs : List Rs} {k : Nat} {r : Rs}, RsAll N F H σ vs rs → rs[k]? = some r → ∃ v, vs[k]? = some v ∧ RsOk N F H σ v r
  | [], [], _, _, _, h => by simp at h
  | v :: vs, r :: rs, k, r', h, h0 => by
    cases k with
    | zero => cases h0; exact ⟨v, rfl, h.1⟩
    | succ k => simpa using rsAll_get h.2 (by simpa using h0)
  | [], _ :: _, _, _, h, _ => h.elim
  | _ :: _, [], _, _, h, _ => h.elim
theorem rsAll_len {N : Addr → Prop} : ∀ {vs : List V} {rs : List Rs}, RsAll N F H σ vs rs → vs.length = rs.length
  | [], [], _ => rfl
  | v :: vs, r :: rs, h => by rw [List.length_cons, List.length_cons, rsAll_len h.2]
  | [], _ :: _, h => h.elim
  | _ :: _, [], h => h.elim
theorem noOwn_get : ∀ {l : List En} {k : Nat} {t : Tg} {ds : List D}, noOwn l = true → l[k]? ≠ some (mkO t ds)
  | [], k, t, ds, _ => by simp
  | e :: l, k, t, ds, h => by
    unfold noOwn at h
    rw [Bool.and_eq_true] at h
    cases k with
    | zero =>
      intro z
      have z : e = mkO t ds := Option.some.inj z
      rw [z, isO_mk] at h
      exact absurd h.1 (by decide)
    | succ k => simpa using noOwn_get (l := l) (k := k) (t := t) (ds := ds) h.2
theorem headOwn_get {k : Nat} {t : Tg} {ds : List D} (h : headOwn es0 = true) (h0 : es0[k]? = some (mkO t ds)) : k = 0 := by
  cases k with
  | zero => rfl
  | succ k =>
    cases es0 with
    | nil => simp at h0
    | cons e l => exact absurd (by simpa using h0) (noOwn_get (l := l) (k := k) (t := t) (ds := ds) h)
theorem sg_get {k : Nat} {v : V} (h : vs[k]? = some v) : (sg vs)[k]? = some (some v) := by
  unfold sg; rw [List.getElem?_map, h]; rfl
/-- what the callee gets -/
theorem call_in {K : Fg} (o : Ok K es σ F H) (q : RsAll NT F H σ vs rs) (ha : argsEn es rs = some es0) (ho : headOwn es0 = true) : Ok K es0 (sg vs) F H ∧ (∀ x, Ow es0 (sg vs) x → Ow es σ x) ∧ ∀ t ds, es0[0]? = some (mkO t ds) → ∃ i v, rs[0]? = some (.sl i) ∧ es[i]? = some (mkO t ds) ∧ σ[i]? = some (some v) ∧ (sg vs)[0]? = some (some v) := by
  have hl : es0.length = vs.length := (argsEn_len ha).trans (rsAll_len q).symm
  have own : ∀ (k : Nat) t ds, es0[k]? = some (mkO t ds) → ∃ i v, rs[k]? = some (.sl i) ∧ es[i]? = some (mkO t ds) ∧ σ[i]? = some (some v) ∧ (sg vs)[k]? = some (some v) := fun k t ds h => by
    obtain ⟨r, h1, h2⟩ := argsEn_get ha h
    obtain ⟨v, h3, h4⟩ := rsAll_get q h1
    have no : ∀ {e : En}, some e = some (mkO t ds) → isO e = false → False := fun {e} z z2 => by
      rw [Option.some.inj z, isO_mk] at z2
      cases z2
    cases r with
    | val d => exact (no h2 rfl).elim
    | sl i => exact ⟨i, v, h1, h2, h4, sg_get h3⟩
    | raw w => exact (no h2 rfl).elim
    | new ds => cases h2
    | newT C x l ds => cases h2
    | fl i l => cases h2
  refine ⟨⟨by rw [hl]; unfold sg; rw [List.length_map], fun k en h => ?_, fun i j x h1 h2 => ?_, o.sub⟩, fun x ⟨k, t, ds, v, h1, h2, h3⟩ => ?_, fun t ds h => own 0 t ds h⟩
  · obtain ⟨r, h1, h2⟩ := argsEn_get ha h
    obtain ⟨v, h3, h4⟩ := rsAll_get q h1
    rw [sg_get h3]
    cases r with
    | val d => cases h2; exact ⟨v, rfl, h4⟩
    | sl i =>
      have h4 : σ[i]? = some (some v) := h4
      have z := o.slot i en h2
      rw [h4] at z
      exact z
    | raw w => cases h2; have h4 : v = w := h4; subst h4; rfl
    | new ds => cases h2
    | newT C x l ds => cases h2
    | fl i l => cases h2
  · obtain ⟨_, _, _, h1, _⟩ := h1
    obtain ⟨_, _, _, h2, _⟩ := h2
    rw [headOwn_get ho h1, headOwn_get ho h2]
  · obtain ⟨i, v', _, g1, g2, g3⟩ := own k t ds h1
    rw [g3] at h2; cases h2
    exact ⟨i, t, ds, v, g1, g2, h3⟩
theorem back_mk {es : List En} {i : Nat} {t : Tg} {ds : List D} {rs : List Rs} {l : List En} : back es (.sl i :: rs) (mkO t ds :: l) = es.set i (mkO t ds) := by
  match t with
  | none => rfl
  | some (_, _, _) => rfl
theorem back_no {es es' : List En} {rs : List Rs} (h : ∀ t ds, es'[0]? ≠ some (mkO t ds)) : back es rs es' = es := by
  match rs, es', h with
  | [], _, _ => rfl
  | r :: _, [], _ => cases r <;> rfl
  | r :: _, e :: _, n1 =>
    cases r with
    | sl i =>
      cases e with
      | own ds' => exact absurd rfl (n1 none ds')
      | tab C x l ds' => exact absurd rfl (n1 (some (C, x, l)) ds')
      | _ => rfl
    | _ => rfl
/-- what comes back -/
theorem call_out {K : Fg} (o : Ok K es σ F H) (q : RsAll NT F H σ vs rs) (ha : argsEn es rs = some es0) (ho : headOwn es0 = true) (o' : Ok K es' (sg vs) F' H') (t : Tr es0 (sg vs) F H es' F' H') : Ok K (back es rs es') σ F' H' ∧ Tr es σ F H (back es rs es') F' H' := by
  obtain ⟨oc, hw, hd⟩ := call_in o q ha ho
  -- slots that were not handed over
  have stay : ∀ (j : Nat) en, es[j]? = some en → (∀ i, rs[0]? = some (.sl i) → es0[0]? = es[i]? → i ≠ j ∨ isO en = false) → SlOk K F' H' σ[j]? en := fun j en h n => by
    have z := o.slot j en h
    cases hq : isO en with
    | false => exact SlOk.keepV (H := H) z hq t.exF
    | true =>
      obtain ⟨g, ds, rfl⟩ := mkO_of hq
      obtain ⟨v, lp, ws, e1, p, ins, f, hh, ra⟩ := slOk_mk.mp z
      refine slOk_mk.mpr ⟨v, lp, ws, e1, p, ins.mono t.exF, t.new lp f (by rw [hh]; exact nofun), t.fr lp _ hh fun w => ?_, Rp.monoAll t.exF ds ws ra⟩
      obtain ⟨k, g2, d0, v2, h1, h2, h3⟩ := w
      have e := headOwn_get ho h1
      subst e
      obtain ⟨i, v3, g0, g1, g4, g3⟩ := hd g2 d0 h1
      rw [h2] at g3; cases g3
      have ij := o.sep i j lp ⟨g2, d0, _, g1, g4, h3⟩ ⟨g, ds, v, h, e1, p⟩
      rcases n i g0 (h1.trans g1.symm) with n | n
      · exact n ij
      · rw [isO_mk] at n; cases n
  by_cases hb : ∃ i g ds ds', rs[0]? = some (.sl i) ∧ es0[0]? = some (mkO g ds) ∧ es'[0]? = some (mkO g ds')
  · obtain ⟨i, g, ds, ds', g0, g1, g2⟩ := hb
    obtain ⟨i', v0, k0, k1, k2, k3⟩ := hd g ds g1
    rw [g0] at k0; cases k0
    have eb : back es rs es' = es.set i (mkO g ds') := by
      match rs, es', g0, g2 with
      | r :: _, e :: _, g0, g2 =>
        cases Option.some.inj g0
        have g2 : e = mkO g ds' := Option.some.inj g2
        rw [g2]
        exact back_mk
    rw [eb]
    obtain ⟨v1, lq, ws, e1, p, ins, f, hh, ra⟩ := o'.slO g2
    rw [k3] at e1; cases e1
    refine ⟨⟨by simpa using o.len, fun j en h => ?_, fun j k x h1 h2 => o.sep j k x ((OwAt.set k1).mp h1) ((OwAt.set k1).mp h2), o'.sub⟩, ⟨t.exF, t.new, fun x ob h n => t.fr x ob h fun w => n (hw x w), t.dom, fun x w => (Ow.set k1).mp w, fun j g3 d h => ?_⟩⟩
    · rcases get_set h with ⟨rfl, rfl, _⟩ | ⟨ne, h⟩
      · exact slOk_mk.mpr ⟨v0, lq, ws, k2, p, ins, f, hh, ra⟩
      · exact stay j en h fun i2 h2 _ => by rw [g0] at h2; cases h2; exact .inl (Ne.symm ne)
    · by_cases e : i = j
      · subst e
        rw [k1] at h
        obtain ⟨rfl, rfl⟩ := mkO_inj (Option.some.inj h)
        exact ⟨ds', List.getElem?_set_self (List.getElem?_eq_some_iff.mp k1).1⟩
      · exact ⟨d, by rw [List.getElem?_set_ne e]; exact h⟩
  · have none0 : ∀ g ds, es0[0]? ≠ some (mkO g ds) := fun g ds h => by
      obtain ⟨i, v0, k0, k1, k2, k3⟩ := hd g ds h
      obtain ⟨ds', h'⟩ := t.own 0 g ds h
      exact hb ⟨i, g, ds, ds', k0, h, h'⟩
    have none1 : ∀ g ds, es'[0]? ≠ some (mkO g ds) := fun g ds h => by
      obtain ⟨v1, lp, ws, e1, p, _⟩ := o'.slO h
      obtain ⟨k, g2, d0, v2, h1, _⟩ := t.ow lp ⟨0, g, ds, v1, h, e1, p⟩
      rw [headOwn_get ho h1] at h1
      exact none0 g2 d0 h1
    rw [back_no none1]
    refine ⟨⟨o.len, fun j en h => stay j en h fun i h1 h2 => ?_, o.sep, o'.sub⟩, ⟨t.exF, t.new, fun x ob h n => t.fr x ob h fun w => n (hw x w), t.dom, fun x w => w, fun j g d h => ⟨d, h⟩⟩⟩
    by_cases e : i = j
    · cases hq : isO en with
      | false => exact .inr rfl
      | true =>
        obtain ⟨g, ds, rfl⟩ := mkO_of hq
        exact absurd (by rw [h2, e, h]) (none0 g ds)
    · exact .inl e
/-- f(e, ..) of a def of the text; nothing is raised -/
theorem ee_call {CXt : CXT} {k : Nat} {f : Addr} {fd : FuncData} {ps : List Str} {S : FS} {x : Str} (Fn : FnOk X.prog X.w X.K X.mg X.base CXt k f fd ps (spOf X.K S)) (hr : Room k X.A) (hg : Gl X x) (hm : X.mg x = some (.ref f)) (hk : PySem.W.keepIn X.K (.ref f) = true) (hb : Binds X.K fd ps []) (hx : Passes CXt X E0)
    (h : EvA X B (e :: l) es fun rs es1 => rs.length = S.n ∧ ∃ es0, argsEn es1 rs = some es0 ∧ headOwn es0 = true ∧ S.pre es0 ∧ (∀ C es', ¬ S.exc es0 C es') ∧ ∀ r es', S.post es0 r es' → P r (back es1 rs es'))
    (hdb : (x == ("__debug__" : Str)) = false := by decide) (he : starEach (e :: l) X.env = (false, eval e X.env) :: starEach l X.env := by with_unfolding_all rfl) (hpl : (backTo pos (starEach l X.env)).any (·.1) = false := by with_unfolding_all rfl) :
    EvE X B (.Call (.Name x p) (e :: l) [] pos) es P := fun σ F H ok bd Q kk =>
  wE.of (pe_call Fn hr hg hm hk hb .nil hx pa_w hdb he hpl) (h σ F H ok bd _ fun vs rs es1 F1 H1 p1 q1 o1 t1 => by
    obtain ⟨hn, es0, ha, ho, pre, nx, hp⟩ := p1
    show spOf X.K S (vs ++ []) H1 Q E0
    rw [List.append_nil]
    refine ⟨(rsAll_len q1).trans hn, F1, es0, (call_in o1 q1 ha ho).1, pre, fun v r es' F' H' p ns q o' t => ?_, fun C es' F' H' p _ _ => nx C es' p⟩
    obtain ⟨o2, t2⟩ := call_out o1 q1 ha ho o' t
    refine kk v r _ F' H' (hp r es' p) ?_ o2 (t1.trans t2)
    have q2 : RsOk (Nw H1) F' H' σ v r := by
      cases r with
      | sl i => cases ns
      | val d => exact q
      | new ds => exact q
      | newT C x l ds => exact q
      | fl i l => cases ns
      | raw w => exact q
    exact q2.back t1)
end
end HL

set_option Elab.async false
set_option linter.all false
set_option maxRecDepth 100000
set_option maxHeartbeats 2000000
set_option autoImplicit false
namespace HL
open PySem PySem.Spec PyProof.Rows L2

/-! ### the defs of a text, as they are called -/
structure Bl (mg : Str → Option Value) : Prop where
  isinstance : mg "isinstance" = none
  int : mg "int" = none
  bool : mg "bool" = none
  str : mg "str" = none
  tuple : mg "tuple" = none
  list : mg "list" = none
  set : mg "set" = none
  len : mg "len" = none
  all : mg "all" = none
  range : mg "range" = none
  sum : mg "sum" = none
  min : mg "min" = none
  max : mg "max" = none
  abs : mg "abs" = none
  sorted : mg "sorted" = none
  enumerate : mg "enumerate" = none
  zip : mg "zip" = none
/-- a def of the text as it stands -/
def Def (K : Fg) (mg : Str → Option Value) (x : Str) (st : Stmt) (ps : List Str) : Prop := ∃ f fd, Fun K x x st f fd ∧ mg x = some (.ref f) ∧ Binds K fd ps []
/-- a def that keeps its promise, ready to be called -/
def Cal (P : Program) (w : World) (K : Fg) (mg : Str → Option Value) (base : Heap) (CX : CXT) (k : Nat) (x : Str) (ps : List Str) (S : FS) : Prop :=
  ∃ f fd, FnOk P w K mg base CX k f fd ps (spOf K S) ∧ mg x = some (.ref f) ∧ PySem.W.keepIn K (.ref f) = true ∧ Binds K fd ps []
section
variable {P : Program} {w : World} {K : Fg} {mg : Str → Option Value} {base : Heap}
theorem Cal.mono {CX : CXT} {j k : Nat} {x : Str} {ps : List Str} {S : FS} (c : Cal P w K mg base CX j x ps S) (h : j ≤ k) : Cal P w K mg base CX k x ps S := by
  obtain ⟨f, fd, h1, h2, h3, h4⟩ := c
  exact ⟨f, fd, h1.mono h, h2, h3, h4⟩
theorem def_ok {x : Str} {st : Stmt} {N ps : List Str} {k : Nat} {S : FS} (d : Def K mg x st ps) (Sc : FnScope N ps (defScope st)) (hn : S.n = ps.length)
    (body : ∀ (f : Addr) (cdv : Value) (A : Around) (outer : List Env) (s : Shared) (H : Hp) (E : XK) (B : Bs) (es0 : List En), Room k (Bx CX0 P w K mg base N x st f cdv A outer s H E).A → S.pre es0 → (∀ i a, B.par i a → i < S.n) →
      EvSs (Bx CX0 P w K mg base N x st f cdv A outer s H E).nox B (defBody st) (es0 ++ List.replicate (N.length - S.n) .no) (fnD S es0)) : Cal P w K mg base CX0 (k + 1) x ps S := by
  obtain ⟨f, fd, h1, h2, h3⟩ := d
  exact ⟨f, fd, fn_ok h1 Sc hn (body f), h2, h1.kp, h3⟩
theorem def_okX {x : Str} {st : Stmt} {N ps : List Str} {k : Nat} {S : FS} (d : Def K mg x st ps) (Sc : FnScope N ps (defScope st)) (hn : S.n = ps.length)
    (body : ∀ (f : Addr) (cdv : Value) (A : Around) (outer : List Env) (s : Shared) (H : Hp) (E : XK) (B : Bs) (es0 : List En), Room k (Bx (L2.CX P w) P w K mg base N x st f cdv A outer s H E).A → S.pre es0 → (∀ i a, B.par i a → i < S.n) →
      Exc (Bx (L2.CX P w) P w K mg base N x st f cdv A outer s H E) B (fun C es1 => S.exc es0 C (mrg es0 es1)) →
      EvSs (Bx (L2.CX P w) P w K mg base N x st f cdv A outer s H E) B (defBody st) (es0 ++ List.replicate (N.length - S.n) .no) (fnD S es0)) : Cal P w K mg base (L2.CX P w) (k + 1) x ps S := by
  obtain ⟨f, fd, h1, h2, h3⟩ := d
  exact ⟨f, fd, fn_okX h1 Sc hn (body f), h2, h1.kp, h3⟩
end
section
variable {X : Cx} {B : Bs} {es : List En} {Q : Rs → List En → Prop} {e : Expr} {l : List Expr} {pos p : Pos}
theorem ee_cal {CXt : CXT} {k : Nat} {ps : List Str} {S : FS} {x : Str} (c : Cal X.prog X.w X.K X.mg X.base CXt k x ps S) (hr : Room k X.A) (hg : Gl X x) (hx : Passes CXt X E0)
    (h : EvA X B (e :: l) es fun rs es1 => rs.length = S.n ∧ ∃ es0, argsEn es1 rs = some es0 ∧ headOwn es0 = true ∧ S.pre es0 ∧ (∀ C es', ¬ S.exc es0 C es') ∧ ∀ r es', S.post es0 r es' → Q r (back es1 rs es'))
    (hdb : (x == ("__debug__" : Str)) = false := by decide) (he : starEach (e :: l) X.env = (false, eval e X.env) :: starEach l X.env := by with_unfolding_all rfl) (hpl : (backTo pos (starEach l X.env)).any (·.1) = false := by with_unfolding_all rfl) :
    EvE X B (.Call (.Name x p) (e :: l) [] pos) es Q := by
  obtain ⟨f, fd, h1, h2, h3, h4⟩ := c
  exact ee_call h1 hr hg h2 h3 h4 hx h hdb he hpl
end
/-- a promise about data alone: what comes out hangs on what goes in, nothing is changed -/
def pureG (n : Nat) (pre : List D → Prop) (f : List D → Except Addr Rs) : FS where
  n := n
  pre := fun es => ∃ ds, es = ds.map En.val ∧ pre ds
  post := fun es r es' => ∃ ds, es = ds.map En.val ∧ f ds = .ok r ∧ es' = es
  exc := fun es C es' => ∃ ds, es = ds.map En.val ∧ f ds = .error C ∧ es' = es
def rOut (n : Nat) (es1 : List En) : Rs → Option Rs
  | .val d => some (.val d)
  | .new ds => some (.new ds)
  | .raw w => some (.raw w)
  | .sl i => match es1[i]? with
    | some (.own ds) => if n ≤ i then some (.new ds) else none
    | _ => none
  | _ => none
def pD (f : List D → Except Addr Rs) (n : Nat) (ds : List D) : Dn where
  nx := fun _ => f ds = .ok (.val .none)
  rt := fun r es1 => ∃ r', rOut n es1 r = some r' ∧ f ds = .ok r'
theorem map_val_inj : ∀ {ds ds' : List D}, ds.map En.val = ds'.map En.val → ds = ds'
  | [], [], _ => rfl
  | [], _ :: _, h => by cases h
  | _ :: _, [], h => by cases h
  | a :: l, b :: m, h => by
    rw [List.map_cons, List.map_cons] at h
    injection h with h1 h2
    injection h1 with h1
    rw [h1, map_val_inj h2]
theorem mrg_val : ∀ {ds : List D} {es : List En}, mrg (ds.map En.val) es = ds.map En.val
  | [], _ => by rw [List.map_nil]; unfold mrg; rfl
  | d :: ds, [] => rfl
  | d :: ds, e :: es => by
    rw [List.map_cons]
    show En.val d :: mrg (ds.map En.val) es = _
    rw [mrg_val]
theorem pD_fn {n : Nat} {pre : List D → Prop} {f : List D → Except Addr Rs} {ds : List D} (hn : ds.length = n) :
    (∀ es, (pD f n ds).nx es → (fnD (pureG n pre f) (ds.map En.val)).nx es) ∧ ∀ r es, (pD f n ds).rt r es → (fnD (pureG n pre f) (ds.map En.val)).rt r es := by
  refine ⟨fun es h => ⟨ds, rfl, h, mrg_val⟩, fun r es ⟨r', h1, h2⟩ => ⟨r', ?_, ds, rfl, h2, mrg_val⟩⟩
  cases r with
  | val d => exact h1
  | new ds => exact h1
  | raw w => exact h1
  | newT C x l ds => cases h1
  | fl i l => cases h1
  | sl i =>
    have h1 : (match es[i]? with | some (.own ds) => if n ≤ i then some (.new ds) else none | _ => none) = some r' := h1
    show (match es[i]? with | some (.own d1) => if isOwn (ds.map En.val)[i]? then none else some (.new d1) | some (.tab C x l d1) => if isOwn (ds.map En.val)[i]? then none else some (.newT C x l d1) | _ => none) = some r'
    split at h1
    · rename_i d1 e
      split at h1
      · rename_i hi
        rw [e]
        show (if isOwn (ds.map En.val)[i]? then none else some (.new d1)) = some r'
        have e2 : (ds.map En.val)[i]? = none := List.getElem?_eq_none (by rw [List.length_map]; omega)
        rw [e2, if_neg (by show ¬ (false = true); decide)]
        exact h1
      · cases h1
    · cases h1
section
variable {P : Program} {w : World} {K : Fg} {mg : Str → Option Value} {base : Heap}
theorem def_okG {x : Str} {st : Stmt} {N ps : List Str} {k n : Nat} {pre : List D → Prop} {f : List D → Except Addr Rs} (d : Def K mg x st ps) (Sc : FnScope N ps (defScope st)) (hn : n = ps.length) (hp : ∀ ds, pre ds → ds.length = n)
    (body : ∀ (fa : Addr) (cdv : Value) (A : Around) (outer : List Env) (s : Shared) (H : Hp) (E : XK) (B : Bs) (ds : List D), Room k (Bx CX0 P w K mg base N x st fa cdv A outer s H E).A → pre ds → (∀ i a, B.par i a → i < 0) →
      EvSs (Bx CX0 P w K mg base N x st fa cdv A outer s H E).nox B (defBody st) (ds.map En.val ++ List.replicate (N.length - n) .no) (pD f n ds)) : Cal P w K mg base CX0 (k + 1) x ps (pureG n pre f) := by
  refine def_ok d Sc hn fun fa cdv A outer s H E B es0 hr pr hB => ?_
  obtain ⟨ds, rfl, pr⟩ := pr
  intro σ F Hh o bd E' k'
  have hB' : ∀ i a, B.par i a → i < 0 := fun i a h => by
    obtain ⟨_, _, _, h1, _⟩ := bd.par i a h
    have hi := hB i a h
    rw [List.getElem?_append_left (by rw [List.length_map, hp ds pr]; exact hi), List.getElem?_map] at h1
    cases q : ds[i]? with
    | none => rw [q] at h1; cases h1
    | some y => rw [q] at h1; exact absurd h1 (not_mk rfl)
  exact (body fa cdv A outer s H E B ds hr pr hB').imp (pD_fn (hp ds pr)).1 (pD_fn (hp ds pr)).2 (fun _ h => h) (fun _ h => h) σ F Hh o bd E' k'
theorem def_okXG {x : Str} {st : Stmt} {N ps : List Str} {k n : Nat} {pre : List D → Prop} {f : List D → Except Addr Rs} (d : Def K mg x st ps) (Sc : FnScope N ps (defScope st)) (hn : n = ps.length) (hp : ∀ ds, pre ds → ds.length = n)
    (body : ∀ (fa : Addr) (cdv : Value) (A : Around) (outer : List Env) (s : Shared) (H : Hp) (E : XK) (B : Bs) (ds : List D), Room k (Bx (L2.CX P w) P w K mg base N x st fa cdv A outer s H E).A → pre ds → (∀ i a, B.par i a → i < 0) →
      Exc (Bx (L2.CX P w) P w K mg base N x st fa cdv A outer s H E) B (fun C _ => f ds = .error C) →
      EvSs (Bx (L2.CX P w) P w K mg base N x st fa cdv A outer s H E) B (defBody st) (ds.map En.val ++ List.replicate (N.length - n) .no) (pD f n ds)) : Cal P w K mg base (L2.CX P w) (k + 1) x ps (pureG n pre f) := by
  refine def_okX d Sc hn fun fa cdv A outer s H E B es0 hr pr hB hX => ?_
  obtain ⟨ds, rfl, pr⟩ := pr
  intro σ F Hh o bd E' k'
  have hB' : ∀ i a, B.par i a → i < 0 := fun i a h => by
    obtain ⟨_, _, _, h1, _⟩ := bd.par i a h
    have hi := hB i a h
    rw [List.getElem?_append_left (by rw [List.length_map, hp ds pr]; exact hi), List.getElem?_map] at h1
    cases q : ds[i]? with
    | none => rw [q] at h1; cases h1
    | some y => rw [q] at h1; exact absurd h1 (not_mk rfl)
  have hX' : Exc (Bx (L2.CX P w) P w K mg base N x st fa cdv A outer s H E) B (fun C _ => f ds = .error C) := hX.imp fun c dd σ1 H1 ⟨C, es, F, h1, h2, h3, h4, h5⟩ => ⟨C, es, F, h1, h2, h3, h4, ds, rfl, h5, mrg_val⟩
  exact (body fa cdv A outer s H E B ds hr pr hB' hX').imp (pD_fn (hp ds pr)).1 (pD_fn (hp ds pr)).2 (fun _ h => h) (fun _ h => h) σ F Hh o bd E' k'
end
section
variable {X : Cx} {B : Bs} {es : List En} {Q : Rs → List En → Prop} {e : Expr} {l : List Expr} {pos p : Pos}
theorem argsEn_dats : ∀ {rs : List Rs} {ds : List D}, dats rs = some ds → argsEn es rs = some (ds.map En.val) ∧ rs.length = ds.length
  | [], ds, h => by cases h; exact ⟨rfl, rfl⟩
  | .val d :: rs, ds, h => by
    have h : (dats rs).map (d :: ·) = some ds := h
    cases q : dats rs with
    | none => rw [q] at h; cases h
    | some ds' =>
      rw [q] at h
      cases h
      obtain ⟨h1, h2⟩ := argsEn_dats q
      refine ⟨?_, by rw [List.length_cons, List.length_cons, h2]⟩
      show (match argEn es (.val d), argsEn es rs with | some e, some l => some (e :: l) | _, _ => none) = _
      rw [h1]; rfl
  | .new _ :: _, _, h => by cases h
  | .sl _ :: _, _, h => by cases h
  | .raw _ :: _, _, h => by cases h
theorem noOwn_val : ∀ ds : List D, noOwn (ds.map En.val) = true
  | [] => rfl
  | d :: ds => by rw [List.map_cons]; exact noOwn_val ds
theorem back_val {rs : List Rs} {ds : List D} (h : dats rs = some ds) (es' : List En) : back es rs es' = es := by
  cases rs with
  | nil => rfl
  | cons r rs =>
    cases r with
    | sl i => cases h
    | _ => rfl
/-- .. called where it raises nothing -/
theorem ee_calG {CXt : CXT} {k n : Nat} {ps : List Str} {pre : List D → Prop} {f : List D → Except Addr Rs} {x : Str} (c : Cal X.prog X.w X.K X.mg X.base CXt k x ps (pureG n pre f)) (hr : Room k X.A) (hg : Gl X x) (hx : Passes CXt X E0)
    (h : EvA X B (e :: l) es fun rs es1 => ∃ ds r, dats rs = some ds ∧ ds.length = n ∧ pre ds ∧ f ds = .ok r ∧ Q r es1)
    (hdb : (x == ("__debug__" : Str)) = false := by decide) (he : starEach (e :: l) X.env = (false, eval e X.env) :: starEach l X.env := by with_unfolding_all rfl) (hpl : (backTo pos (starEach l X.env)).any (·.1) = false := by with_unfolding_all rfl) :
    EvE X B (.Call (.Name x p) (e :: l) [] pos) es Q := by
  refine ee_cal c hr hg hx (fun σ F H o bd Q' k' => h σ F H o bd Q' fun vs rs es' F' H' p1 q o' t => k' vs rs es' F' H' ?_ q o' t) hdb he hpl
  obtain ⟨ds, r, h1, h2, h3, h4, h5⟩ := p1
  obtain ⟨a1, a2⟩ := argsEn_dats (es := es') h1
  refine ⟨a2.trans h2, _, a1, ?_, ⟨ds, rfl, h3⟩, fun C e2 ⟨ds', e3, e4, _⟩ => ?_, fun r' e2 ⟨ds', e3, e4, _⟩ => ?_⟩
  · cases ds with
    | nil => rfl
    | cons d ds => exact noOwn_val ds
  · rw [← map_val_inj e3, h4] at e4; cases e4
  · rw [← map_val_inj e3, h4] at e4
    cases e4
    rw [back_val h1]
    exact h5
end
end HL

set_option Elab.async false
set_option linter.all false
set_option maxRecDepth 100000
set_option maxHeartbeats 2000000
set_option autoImplicit false
namespace HL
open PySem PySem.Spec PyProof.Rows L2
theorem b_int : bootBuiltins "int" = some (.type "int") := by decide +kernel
theorem b_bool : bootBuiltins "bool" = some (.type "bool") := by decide +kernel
theorem b_str : bootBuiltins "str" = some (.type "str") := by decide +kernel
theorem b_tuple : bootBuiltins "tuple" = some (.type "tuple") := by decide +kernel
theorem b_list : bootBuiltins "list" = some (.type "list") := by decide +kernel
theorem b_set : bootBuiltins "set" = some (.type "set") := by decide +kernel
theorem b_len : bootBuiltins "len" = some (.builtin "len") := by decide +kernel
theorem b_all : bootBuiltins "all" = some (.builtin "all") := by decide +kernel
theorem b_sum : bootBuiltins "sum" = some (.builtin "sum") := by decide +kernel
theorem b_min : bootBuiltins "min" = some (.builtin "min") := by decide +kernel
theorem b_max : bootBuiltins "max" = some (.builtin "max") := by decide +kernel
theorem b_abs : bootBuiltins "abs" = some (.builtin "abs") := by decide +kernel
theorem b_sorted : bootBuiltins "sorted" = some (.builtin "sorted") := by decide +kernel
theorem b_isinstance : bootBuiltins "isinstance" = some (.builtin "isinstance") := by decide +kernel
section
variable {X : Cx} {B : Bs} {es : List En} {P : Rs → List En → Prop} {e elt : Expr} {ifs l : List Expr} {pos p : Pos} {tg iter : Expr} {scope : Scope} {own : List (Str × Nat)}
theorem blanked1 {i : Nat} (h : es[i]? = some .no) : Blanked es [i] := fun j hj _ => by
  have e : j = i := by simpa using hj
  subst e; exact h
theorem blanked2 {i j : Nat} (h : es[i]? = some .no) (h' : es[j]? = some .no) : Blanked es [i, j] := fun k hk _ => by
  have e : k = i ∨ k = j := by simpa using hk
  rcases e with e | e
  · subst e; exact h
  · subst e; exact h'
theorem EvI.imp {P P' : List D → List En → Prop} (h : EvI X B tg iter es P) (w : ∀ items es', P items es' → P' items es') : EvI X B tg iter es P' := fun σ F H o bd R k => h σ F H o bd R fun J items es' F' H' p => k J items es' F' H' (w items es' p)
theorem EvG.imp {vs : List Nat} {d : D} {P P' : List En → Prop} (h : EvG X tg vs d es P) (w : ∀ es', P es' → P' es') : EvG X tg vs d es P' := fun σ F H v o q Q k => h σ F H v o q Q fun σ' es' p => k σ' es' (w es' p)
theorem EvTs.imp {P P' : Bool → List En → Prop} (h : EvTs X B ifs es P) (w : ∀ r es', P r es' → P' r es') : EvTs X B ifs es P' := fun σ F H o bd Q k => h σ F H o bd Q fun b es' F' H' p => k b es' F' H' (w b es' p)
theorem take_get {items : List D} {i : Nat} {d : D} (h : items[i]? = some d) : items.take (i + 1) = items.take i ++ [d] := by
  rw [List.take_add_one, h]; rfl
/-- [elt for tg in iter if ..], every element by itself: g tells which stay, f what is made of them -/
theorem ee_filt (hc : X.calm = true) (hN : X.N.Nodup) (ok : BlkOk X.N X.env.scope scope own) (g : D → Bool) (f : D → D)
    (h : EvI X B tg iter es fun items es1 => Blanked es1 (own.map (·.2)) ∧ items.length ≤ sizeLine ∧ (∀ d, d ∈ items → Blk X scope fun X1 => EvG X1 tg (own.map (·.2)) d es1 fun es3 => Blk X scope fun X2 => EvTs X2 B ifs es3 fun k es4 => k = g d ∧ blank es4 (own.map (·.2)) = es1 ∧ (k = true → Blk X scope fun X3 => EvE X3 B elt es4 fun r es5 => frz r = .val (f d) ∧ blank es5 (own.map (·.2)) = es1)) ∧ P (.new ((items.filter g).map f)) es1)
    (hs : ∀ x, foldedSetIterable iter X.env x = pure x := by with_unfolding_all (intro _; rfl)) : EvE X B (.ListComp elt [⟨tg, iter, ifs, 0⟩] scope pos) es P := by
  refine ee_lc hc hN ok (EvI.imp h fun items es1 hh => ?_) hs
  obtain ⟨hb, hz, hE, hP⟩ := hh
  refine ⟨fun i acc es2 => es2 = es1 ∧ acc = ((items.take i).filter g).map f, ⟨rfl, rfl⟩, fun i acc es2 ⟨e, _⟩ => by rw [e]; exact hb, fun i d acc es2 hd ⟨e1, e2⟩ => ?_, fun acc es2 ⟨e1, e2⟩ => ?_⟩
  · subst e1 e2
    have hmem : d ∈ items := List.mem_of_getElem? hd
    have hi : i < items.length := (List.getElem?_eq_some_iff.mp hd).1
    refine ⟨?_, fun s H C cl fp => (hE d hmem s H C cl fp).imp fun es3 h3 s' H' C' cl' fp' => (h3 s' H' C' cl' fp').imp fun k es4 ⟨h4, h5, h6⟩ => ⟨fun hk s'' H'' C'' cl'' fp'' => (h6 hk s'' H'' C'' cl'' fp'').imp fun r es5 ⟨h7, h8⟩ => ⟨f d, h7, h8, ?_⟩, fun hk => ⟨h5, ?_⟩⟩⟩
    · rw [List.length_map]
      refine Nat.lt_of_le_of_lt (List.length_filter_le _ _) ?_
      rw [List.length_take]; omega
    · rw [take_get hd, List.filter_append, List.map_append]
      rw [show [d].filter g = [d] by rw [List.filter_cons, if_pos (by rw [← h4]; exact hk)]; rfl]
      rfl
    · rw [take_get hd, List.filter_append, List.map_append]
      rw [show [d].filter g = [] by rw [List.filter_cons, if_neg (by rw [← h4, hk]; decide)]; rfl]
      simp
  · subst e1 e2
    rw [List.take_length]
    exact hP
/-- [elt for tg in iter], every element by itself -/
theorem ee_map (hc : X.calm = true) (hN : X.N.Nodup) (ok : BlkOk X.N X.env.scope scope own) (f : D → D)
    (h : EvI X B tg iter es fun items es1 => Blanked es1 (own.map (·.2)) ∧ items.length ≤ sizeLine ∧ (∀ d, d ∈ items → Blk X scope fun X1 => EvG X1 tg (own.map (·.2)) d es1 fun es3 => blank es3 (own.map (·.2)) = es1 ∧ Blk X scope fun X2 => EvE X2 B elt es3 fun r es5 => frz r = .val (f d) ∧ blank es5 (own.map (·.2)) = es1) ∧ P (.new (items.map f)) es1)
    (hs : ∀ x, foldedSetIterable iter X.env x = pure x := by with_unfolding_all (intro _; rfl)) : EvE X B (.ListComp elt [⟨tg, iter, [], 0⟩] scope pos) es P :=
  ee_filt hc hN ok (fun _ => true) f (EvI.imp h fun items es1 ⟨hb, hz, hE, hP⟩ => ⟨hb, hz, fun d hd s H C cl fp => (hE d hd s H C cl fp).imp fun es3 ⟨hb3, h3⟩ s' H' C' cl' fp' => ets_nil ⟨rfl, hb3, fun _ => h3⟩, by
    rw [show items.filter (fun _ => true) = items from List.filter_eq_self.mpr fun _ _ => rfl]; exact hP⟩) hs
/-- a def of the text, pure, called: the room first -/
theorem cal1 {CXt : CXT} {j k n : Nat} {ps : List Str} {pre : List D → Prop} {f : List D → Except Addr Rs} {x : Str} (hr : Room k X.A) (c : Cal X.prog X.w X.K X.mg X.base CXt j x ps (pureG n pre f)) (hjk : j ≤ k) (hg : Gl X x) (hx : Passes CXt X E0)
    (h : EvA X B (e :: l) es fun rs es1 => ∃ ds r, dats rs = some ds ∧ ds.length = n ∧ pre ds ∧ f ds = .ok r ∧ P r es1)
    (hdb : (x == ("__debug__" : Str)) = false := by decide) (he : starEach (e :: l) X.env = (false, eval e X.env) :: starEach l X.env := by with_unfolding_all rfl) (hpl : (backTo pos (starEach l X.env)).any (·.1) = false := by with_unfolding_all rfl) :
    EvE X B (.Call (.Name x p) (e :: l) [] pos) es P := ee_calG (c.mono hjk) hr hg hx h hdb he hpl
/-- any def of the text -/
theorem cal2 {CXt : CXT} {j k : Nat} {ps : List Str} {S : FS} {x : Str} (hr : Room k X.A) (c : Cal X.prog X.w X.K X.mg X.base CXt j x ps S) (hjk : j ≤ k) (hg : Gl X x) (hx : Passes CXt X E0)
    (h : EvA X B (e :: l) es fun rs es1 => rs.length = S.n ∧ ∃ es0, argsEn es1 rs = some es0 ∧ headOwn es0 = true ∧ S.pre es0 ∧ (∀ C es', ¬ S.exc es0 C es') ∧ ∀ r es', S.post es0 r es' → P r (back es1 rs es'))
    (hdb : (x == ("__debug__" : Str)) = false := by decide) (he : starEach (e :: l) X.env = (false, eval e X.env) :: starEach l X.env := by with_unfolding_all rfl) (hpl : (backTo pos (starEach l X.env)).any (·.1) = false := by with_unfolding_all rfl) :
    EvE X B (.Call (.Name x p) (e :: l) [] pos) es P := ee_cal (c.mono hjk) hr hg hx h hdb he hpl
/-! ### more of ints -/
theorem eqv_int (i j : Int) : PyData.eqv (.int i) (.int j) = decide (i = j) := by
  show (i == j) = decide (i = j)
  by_cases h : i = j
  · rw [h]; simp
  · rw [decide_eq_false h]; simpa using h
theorem o_eqI (hu : X.A.units + 65 < cLine) {i j : Int} (p : P (.val (.bool (decide (i = j)))) es) : Rd2 X (rW X (compareOp .Eq)) (.val (.int i)) (.val (.int j)) es P :=
  o_eq hu rfl rfl rfl rfl (by rw [eqv_int]; exact p)
theorem o_neI (hu : X.A.units + 65 < cLine) {i j : Int} (p : P (.val (.bool (!decide (i = j)))) es) : Rd2 X (rW X (compareOp .NotEq)) (.val (.int i)) (.val (.int j)) es P :=
  o_ne hu rfl rfl rfl rfl (by rw [eqv_int]; exact p)
end
/-- the ints of a list of data -/
def intsD : List D → List Int
  | [] => []
  | .int n :: ds => n :: intsD ds
  | _ :: ds => intsD ds
theorem intsD_map : ∀ ns : List Int, intsD (ns.map .int) = ns
  | [] => rfl
  | n :: ns => by rw [List.map_cons]; show n :: intsD _ = _; rw [intsD_map]
theorem szl {n : Nat} (h : n ≤ 100000) : n ≤ sizeLine := Nat.le_trans h (by decide)
theorem szt {n : Nat} (h : n < 100000) : n < sizeLine := Nat.lt_of_lt_of_le h (by decide)
theorem mem_rg0 {n : Nat} {d : D} (h : d ∈ rg0 n) : ∃ k : Nat, k < n ∧ d = .int (k : Int) := by
  obtain ⟨k, hk, rfl⟩ := List.mem_map.mp h
  exact ⟨k, by simpa using hk, rfl⟩
theorem rg0_len (n : Nat) : (rg0 n).length = n := by simp [rg0]
theorem rg0_map (n : Nat) (f : D → D) : (rg0 n).map f = (List.range n).map fun k : Nat => f (.int (k : Int)) := by
  unfold rg0; rw [List.map_map]; rfl
theorem atI_ints {ns : List Int} {k : Nat} (h : k < ns.length) : atI (ns.map PyData.int) (k : Int) = some (.int (ns.getD k 0)) := by
  refine atI_nat ?_
  rw [List.getElem?_map, List.getElem?_eq_getElem h, List.getD_eq_getElem?_getD, List.getElem?_eq_getElem h]
  rfl
theorem units65 {k : Nat} {A : Around} (r : Room k A) : A.units + 65 < cLine := by have := r.un; omega
end HL

set_option Elab.async false
set_option linter.all false
set_option maxRecDepth 100000
set_option maxHeartbeats 4000000
set_option autoImplicit false
namespace HL
open PySem PySem.Spec PyProof.Rows L2

/-! ### sum of a tuple -/
def rSumT (K : Fg) : List V → Hp → VK → Prop := fun vs H Q => ∃ (a : Addr) (ns : List Int), vs = [V.ref a] ∧ SqT K H a (ns.map V.int) ∧ Q (.int ns.sum) H
theorem cr_sumT {X : Cx} (hc : X.calm = true) : CallR X (.builtin "sum") (rSumT X.K) := by
  intro pins s σ H vs us Q I r h
  obtain ⟨a, ns, rfl, hs, q⟩ := h
  obtain ⟨its, rv, ht, hz⟩ := I.tuple hs
  rw [Vals.ref1 r]
  have hi := rv.ints
  obtain ⟨ys, e⟩ := hi.allInts.items
  have hn : numsOf (intItems ys).toList = ns := by rw [← e]; exact hi.numsOf
  rw [nums_intItems] at hn
  have ht' : s.heap.IsTuple a (intItems ys) := by rw [← e]; exact ht
  refine PySem.W.ktm_sumG (I.ok.hd hc) ht' fun h' tk t' hk => ?_
  rw [preSum_eq, List.take_of_length_le (by simp), hn]
  exact ⟨.int ns.sum, H, I.kept (t' := tk) hk, ⟨_, rfl⟩, q⟩

/-! ### sorted of a tuple of ints -/
section
variable {prog : Program} {w : World} {A : Around} {E : Value → Shared → Prop} {s : Shared}
theorem collect_tup {t : Addr} {ws : List Value} {Q : List Value → Shared → Prop} (ht : s.heap.IsTuple t ws.toArray)
    (k : Q ws { s with heap := (s.heap.push (seqObj "list" #[] 0)).update s.heap.objs.size (Obj.mapSeq (· ++ ws.toArray)) }) (hw : ws.length ≤ sizeLine) :
    wpAny (model prog w) A (collect (.ref t)) Q E s := by
  obtain ⟨ob, hob, hcl, m, hdt⟩ := id ht
  unfold collect
  refine wpAny_bind (wpAny_runValue (codeAny_builtin entry_proto_collect' ?_))
  show wpAny _ _ (do again (.builtin "list.__iadd__" ⟨[← newList [], .ref t], []⟩)) _ _ s
  refine wpAny_bind (wpAny_newList (wpAny_pure ⟨Code.quiet_builtin _ (by decide +kernel), codeAny_builtin entry_list_iadd' ?_⟩))
  show wpAny _ _ (Builtin.List.listExtendWith (.ref s.heap.objs.size) (.ref t) (.ref s.heap.objs.size)) _ _ { s with heap := s.heap.push (seqObj "list" #[] 0) }
  unfold Builtin.List.listExtendWith
  have hob' : (s.heap.push (seqObj "list" #[] 0)).get? t = some ob := Heap.get?_push_of_some _ hob
  refine wpAny_bind (wpAny_typeOf (T := "tuple") ⟨ob, hob', hcl⟩ ?_)
  have hty : (Value.type "tuple" == Value.type "tuple") = true := by rfl
  rw [if_pos (by rw [hty]; simp)]
  refine wpAny_bind (listItems_at hob' hdt ?_)
  have hnew : (s.heap.push (seqObj "list" #[] 0)).get? s.heap.objs.size = some (seqObj "list" #[] 0) := Heap.get?_push_size _ rfl
  refine wpAny_bind (listItems_at (xs := #[]) (n := 0) hnew rfl ?_)
  rw [if_neg (by simp)]
  refine wpAny_bind (listUpdate_at (xs := #[]) (n := 0) hnew rfl ?_ (Nat.zero_le _) (by show (#[] ++ ws.toArray).size ≤ sizeLine + 1; simp only [Array.size_append, List.size_toArray, List.length_nil]; omega))
  refine wpAny_pure ?_
  show wpAny (model prog w) A (do
      let ob ← load s.heap.objs.size
      match ob.data with
      | .seq zs _ => pure zs.toList
      | _ => unsupported "internal:collect") Q E { s with heap := (s.heap.push (seqObj "list" #[] 0)).update s.heap.objs.size (Obj.mapSeq (· ++ ws.toArray)) }
  refine wpAny_bind (wpAny_load (get?_update_seq hnew _) ?_)
  have hback : ((#[] : Array Value) ++ ws.toArray).toList = ws := by simp
  show wpAny _ _ (pure ((#[] : Array Value) ++ ws.toArray).toList) Q E _
  rw [hback]
  exact wpAny_pure k
theorem sorted_tup {t : Addr} {ws : List Value} {ltv : Value → Value → Bool} {Q : Value → Shared → Prop} (O : SrtO.Swo ltv) (ht : s.heap.IsTuple t ws.toArray) (hw : ws.length ≤ sizeLine)
    (hS : 2 ≤ ws.length → ∀ (h₁ : Heap) (a : Addr), SrtO.SortableO prog w A.in1.in1 { s with heap := h₁ } a ws ltv)
    (k : ∀ out : List Value, SrtO.Srtd ltv out → SrtO.Stb ltv out ws → Q (.ref (s.heap.objs.size + 1)) { s with heap := sortedAll s.heap ws out.toArray }) :
    wpAny (model prog w) A (call (.builtin "sorted") [.ref t]) Q E s := by
  refine Calls.call_function_entry kind_sorted plain_sorted entry_sorted (args_sorted1 _) ?_
  unfold Builtin.«sorted»
  refine wpAny_bind (m := checkCount "sorted" 1 1 _) (wpAny_pure ?_)
  refine wpAny_bind (collect_tup ht ?_ hw)
  refine wpAny_bind (wpAny_newList ?_ hw)
  have hsize : ((s.heap.push (seqObj "list" #[] 0)).update s.heap.objs.size (Obj.mapSeq (· ++ ws.toArray))).objs.size = s.heap.objs.size + 1 := by
    rw [Heap.size_update, size_push']
  have hat := PySem.W.copyHeap_at s.heap ws
  show wpAny _ _ _ _ _ { s with heap := PySem.W.copyHeap s.heap ws }
  rw [hsize]
  exact wpAny_bind (wpAny_holding (wpAny_call_entry slot_list_sort ⟨_, hat, rfl⟩ entry_list_sort (SrtO.list_sort_ord (s := { s with heap := PySem.W.copyHeap s.heap ws }) O hat hw (fun h2 => hS h2 _ _) fun out h1 h2 => ⟨_, rfl, wpAny_pure ⟨_, rfl, k out h1 h2⟩⟩) (args_list_sort _)))
end
section
variable {X : Cx} {B : Bs} {es : List En} {r : Rs} {P : Rs → List En → Prop}
def rSortedT' (K : Fg) : List V → Hp → VK → Prop := fun vs H Q => ∃ (a : Addr) (ns : List Int), vs = [V.ref a] ∧ SqT K H a (ns.map V.int) ∧
  ∀ (ns' : List Int) (p : Addr), ns'.Perm ns → ns'.Pairwise (· ≤ ·) → H p = none → Q (.ref p) (upd H p (.lst (ns'.map V.int)))
theorem cr_sortedT' : CallR X (.builtin "sorted") (rSortedT' X.K) := by
  intro pins s σ H vs us Q I rv h
  obtain ⟨a, ns, rfl, hs, q⟩ := h
  obtain ⟨its, rw', ht, hz⟩ := I.tuple hs
  rw [Vals.ref1 rv]
  have hi := rw'.ints
  have hz' : its.length ≤ sizeLine := by rw [← rw'.length]; exact hz
  refine sorted_tup SrtO.swo_int (show s.heap.IsTuple a its.toArray from ht) hz' (fun h2 _ _ => SrtO.ints_sortable hi h2) fun out h1 h2 => ?_
  obtain ⟨k1, k2, k3⟩ := SrtO.ints_out hi h1 h2
  obtain ⟨ep, hat⟩ := PyProof.Rows.sortedAll_at s.heap its out.toArray
  have hle : ((out.map SrtO.iv).map V.int).length ≤ sizeLine := by
    rw [List.length_map, k2.length_eq, ← List.length_map (f := V.int)]
    exact hz
  have new : ObjOk X.prog X.w (upd H (s.heap.objs.size + 1) (.lst ((out.map SrtO.iv).map V.int))) (sortedAll s.heap its out.toArray) (s.heap.objs.size + 1) (.lst ((out.map SrtO.iv).map V.int)) := ⟨hle, out, ep, vals_of_ints k1, hat⟩
  exact ⟨.ref _, _, I.laid (t' := s.toks) (fun _ _ => PyProof.Rows.sortedAll_old) (Nat.le_succ _) new, rfl, q _ _ k2 k3 (I.hok.fresh (Nat.le_succ _))⟩
theorem c_sumT (hc : X.calm = true) {ns : List Int} (h : den es r = some (.tuple (ns.map .int))) (p : P (.val (.int ns.sum)) es) : RdC X (cW X (.builtin "sum")) [r] es P :=
  RdC.of (cr_sumT hc) fun σ F H vs o q Q k => by
    obtain ⟨v, rfl, q1⟩ := rs1 q
    obtain ⟨a, ws, rfl, f, e, ra⟩ := q1.seqT o h
    rw [ra.toInts] at e
    exact ⟨a, ns, rfl, e.seq, k_val k o p (.int _)⟩
theorem c_sortedT {ns : List Int} (h : den es r = some (.tuple (ns.map .int))) (p : ∀ ns' : List Int, ns'.Perm ns → ns'.Pairwise (· ≤ ·) → P (.new (ns'.map .int)) es) : RdC X (cW X (.builtin "sorted")) [r] es P :=
  RdC.of cr_sortedT' fun σ F H vs o q Q k => by
    obtain ⟨v, rfl, q1⟩ := rs1 q
    obtain ⟨a, ws, rfl, f, e, ra⟩ := q1.seqT o h
    rw [ra.toInts] at e
    exact ⟨a, ns, rfl, e.seq, fun ns' q' h1 h2 n => k_lst k o (p ns' h1 h2) (RpAll.ints ns') n⟩
end
end HL

set_option Elab.async false
set_option linter.all false
set_option maxRecDepth 100000
set_option maxHeartbeats 4000000
set_option autoImplicit false
namespace PySem
open Sem (wp)
open AutoSeq1 (wpAny_loadPart')
theorem hl_enum_new (t : Addr) (items : Array Value) :
    Meets (Builtin.«enumerate.__new__» ⟨[.type "enumerate", .ref t], []⟩) (fun _ R s => s.heap.IsTuple t items ∧
      R (.ok (.ret (.ref (s.heap.push { cls := .type "tuple_iterator", data := .fields #[.ref t, .int 0 0] }).objs.size)))
        { s with heap := (s.heap.push { cls := .type "tuple_iterator", data := .fields #[.ref t, .int 0 0] }).push { cls := .type "enumerate", data := .fields #[.none, .bool false, .ref s.heap.objs.size, rawInt 0, .none, .none] } }) :=
  .of_wp fun prog w A R s hh => by
    obtain ⟨hp, g, d, tk, os⟩ := s; obtain ⟨hT, hh⟩ := hh
    have hsub := sub_enumerate
    have q0 : ∀ {A' : Around} {E : Value → Shared → Prop} {Q : Value → Shared → Prop}, Q (.ref hp.objs.size) ⟨hp.push { cls := .type "tuple_iterator", data := .fields #[.ref t, .int 0 0] }, g, d, tk, os⟩ → wpAny (model prog w) A' (pyIter (.ref t)) Q E ⟨hp, g, d, tk, os⟩ :=
      fun q => wpAny_pyIter_tuple hT q
    wp_walk using q0
    refine wpAny_stack_any fun st => wpAny_pure ?_
    split
    · rename_i c _ _ _ _ _
      cases (c == Value.type "enumerate") <;> (wp_walk using q0; exact ⟨_, rfl, hh⟩)
    · wp_walk using q0
      exact ⟨_, rfl, hh⟩
theorem hl_call_enum {prog : Program} {w : World} {A : Around} {E : Value → Shared → Prop} {s : Shared} {t : Addr} {items : Array Value} {Q : Value → Shared → Prop} (hT : s.heap.IsTuple t items)
    (k : ∀ h', IsEnum h' (s.heap.objs.size + 1) s.heap.objs.size 0 .none → h'.IsTupleIter s.heap.objs.size t 0 → (∀ b o, s.heap.get? b = some o → h'.get? b = some o) → Q (.ref (s.heap.objs.size + 1)) { s with heap := h' }) :
    wpAny (model prog w) A (call (.type "enumerate") [.ref t]) Q E s := by
  refine callType_new F.called_enumerate (by decide) (F.typeCall_enumerate_1 _) (F.newCall_enumerate_1 _) (fun obj => F.args_object_init_2 obj _) F.entry_enumerate_new (hl_enum_new t items) ⟨hT, ?_⟩
  have z1 : (s.heap.push { cls := .type "tuple_iterator", data := .fields #[.ref t, .int 0 0] }).objs.size = s.heap.objs.size + 1 := Heap.size_push ..
  show _ ∧ _
  rw [z1]
  have z2 := Heap.get?_push_size (s.heap.push { cls := .type "tuple_iterator", data := .fields #[.ref t, .int 0 0] }) (o := { cls := .type "enumerate", data := .fields #[.none, .bool false, .ref s.heap.objs.size, rawInt 0, .none, .none] }) rfl
  rw [z1] at z2
  exact ⟨⟨_, z2, rfl⟩, k _ z2 ⟨_, Heap.get?_push_of_some _ (Heap.get?_push_size _ rfl), rfl, rfl⟩ fun b o x => Heap.get?_push_of_some _ (Heap.get?_push_of_some _ x)⟩
end PySem
namespace HL
open PySem PySem.Spec PyProof.Rows L2
def IteT (K : Fg) (a : Addr) : It :=
  ⟨fun i H => ∃ (xs : List V) (x : V), SqT K H a xs ∧ xs[i]? = some x, fun i H v H' => ∃ T ob x, v = .ref T ∧ H T = none ∧ ob.cls = .type "tuple" ∧ ob.dict = none ∧ H' = upd H T (.frz ob (.tup [.int (i : Nat), x])) ∧ ∀ xs, SqT K H a xs → xs[i]? = some x, fun i H => ∃ xs : List V, SqT K H a xs ∧ xs.length = i⟩
theorem ne_enum {h : Heap} {e it a : Addr} {i : Int} {old : Value} {xs : Array Value} (he : IsEnum h e it i old) (ht : h.IsTuple a xs) : e ≠ a := fun z => by
  obtain ⟨o, ho, hc, _⟩ := ht
  rw [← z] at ho
  rw [show h.get? e = some _ from he] at ho
  cases ho
  exact absurd hc (by simp)
theorem ne_iter {h : Heap} {it a : Addr} {i : Nat} {xs : Array Value} (hi : h.IsTupleIter it a i) (ht : h.IsTuple a xs) : a ≠ it := fun z => by
  obtain ⟨o, ho, hc, _⟩ := ht
  obtain ⟨o', ho', hc', _⟩ := hi
  rw [z, ho'] at ho
  cases ho
  rw [hc'] at hc
  exact absurd hc (by simp)
theorem turn_enumT {P : Program} {w : World} {K : Fg} {elts : List Expr} {kk : Nat} {tpos : Pos} (a e it : Addr) :
    Turn P w K (.Tuple elts kk tpos) (IteT K a) [e, it] e (fun i h => (∃ old, IsEnum h e it ((i : Nat) : Int) old) ∧ h.IsTupleIter it a i ∧ e ≠ it) where
  mem := by simp
  obj := fun i h st b hb => by
    obtain ⟨⟨old, he⟩, ⟨o, ho, hc, hd⟩, _⟩ := st
    rcases (show b = e ∨ b = it by simpa using hb) with z | z
    · rw [z]; exact ⟨_, he, fun v q => nomatch q⟩
    · rw [z]; exact ⟨o, ho, fun v q => by rw [hd] at q; cases q⟩
  keep := fun i h h' st k => ⟨⟨st.1.choose, k e (by simp) _ st.1.choose_spec⟩, st.2.1.at fun o q => k it (by simp) o q, st.2.2⟩
  item := by
    intro X eP ew eK hcalm i pins s σ H E I hf st hg
    subst eP ew eK
    obtain ⟨⟨old, he⟩, hit, hne⟩ := st
    obtain ⟨xs, x, hq, hx⟩ := hg
    obtain ⟨its, rv, tp, hz⟩ := I.tuple hq
    have tp' : s.heap.IsTuple a its.toArray := tp
    obtain ⟨u, hu, ru⟩ := rv.get hx
    have lte : e < s.heap.objs.size := Heap.lt_size he
    have lti : it < s.heap.objs.size := by obtain ⟨_, q, _⟩ := hit; exact Heap.lt_size q
    have Dr := Draws.tuple (prog := X.prog) (w := X.w) (A := X.A.in1) (I.ok.hd hcalm) it a (ne_iter hit tp') its.toArray
    have hlt : i < its.toArray.size := by have := (List.getElem?_eq_some_iff.mp hu).1; simpa using this
    refine wpAny_pyNext_enum_itemD Dr he ⟨hit, tp'⟩ hlt hne (by simp only [List.mem_cons, List.not_mem_nil, or_false, not_or]; exact ⟨hne, ne_enum he tp'⟩) fun y h' tk hy ho hst' hT hsz hk => ?_
    have ey : y = u := by
      have hy' : its.toArray[i]? = some y := hy
      rw [show its.toArray[i]? = its[i]? by simp, hu] at hy'
      exact (Option.some.inj hy').symm
    subst ey
    refine ⟨_, rfl, wpAny_letOwnedTupleGo_enum (s := { s with heap := h', toks := tk + 1 }) ho fun h2 he2 sb => ?_⟩
    have hT2 : h2.get? s.heap.objs.size = some { cls := .type "tuple", data := .seq #[.int i tk, y] } := (sb.2 _ (Nat.ne_of_gt lte)).trans hT
    have new : ObjOk X.prog X.w (upd H s.heap.objs.size (.frz { cls := .type "tuple", data := .seq #[.int i tk, y] } (.tup [.int (i : Nat), x]))) h2 s.heap.objs.size (.frz { cls := .type "tuple", data := .seq #[.int i tk, y] } (.tup [.int (i : Nat), x])) :=
      ⟨hT2, by show 2 ≤ sizeLine; decide, [.int i tk, y], .cons ⟨_, rfl⟩ (.cons ru .nil), ⟨_, hT2, rfl, _, rfl⟩⟩
    have J : Inv X pins σ (upd H s.heap.objs.size (.frz { cls := .type "tuple", data := .seq #[.int i tk, y] } (.tup [.int (i : Nat), x]))) { s with heap := h2, toks := tk + 1 } :=
      I.turnedNew (ch := [e, it]) (fun b ob hb q => (sb.2 b (fun z => hb (by simp [z]))).trans (hk b ob (fun z => hb (by simp [z])) (fun z => hb (by simp [z])) q)) hf (Nat.le_refl _) new
    have hit2 : h2.IsTupleIter it a (i + 1) := hst'.1.at fun o q => (sb.2 it (Ne.symm hne)).trans q
    refine ⟨.ref s.heap.objs.size, _, J, rfl, ⟨_, { cls := .type "tuple", data := .seq #[.int i tk, y] }, x, rfl, I.hok.fresh (Nat.le_refl _), rfl, rfl, rfl, fun zs hy => by rw [I.tuple_inj hy hq]; exact hx⟩, ⟨⟨y, ?_⟩, hit2, hne⟩, fun b hb => ?_⟩
    · rw [show ((i + 1 : Nat) : Int) = (i : Int) + 1 by omega]; exact he2
    · have hb' : b < s.heap.objs.size := by
        rcases (show b = e ∨ b = it by simpa using hb) with z | z <;> rw [z]
        · exact lte
        · exact lti
      rw [upd_ne (Nat.ne_of_lt hb')]
      exact (hf b hb).1
  done := by
    intro X eP ew eK hcalm i pins s σ H E I hf st hg
    subst eP ew eK
    obtain ⟨⟨old, he⟩, hit, hne⟩ := st
    obtain ⟨xs, hq, hx⟩ := hg
    obtain ⟨its, rv, tp, hz⟩ := I.tuple hq
    have tp' : s.heap.IsTuple a its.toArray := tp
    obtain ⟨f0, f1, f2, f3, f4, f5⟩ := hf it (by simp)
    have Dr := Draws.tuple (prog := X.prog) (w := X.w) (A := X.A.in1) (I.ok.hd hcalm) it a (ne_iter hit tp') its.toArray
    have en : its.toArray.size = i := by rw [List.size_toArray, ← rv.length]; exact hx
    refine wpAny_pyNext_enum_endD Dr he (by rw [en]; exact ⟨hit, tp'⟩) fun h' eb => ⟨rfl, I.turned (t' := s.toks) (fun b o hb q => eb b o hb q) f0 f1 f3 f4 f5⟩
  self := fun A i s Q E st h => wpAny_pyIter_enum st.1.choose_spec h
def iEnumT (K : Fg) (ta : TA) : TI := fun σ H R => ta σ H fun vs H1 => ∃ a xs, vs = [.ref a] ∧ SqT K H1 a xs ∧ R (IteT K a) H1
theorem pi_enumT {X : Cx} {e : Expr} {ta : TA} {p pos tpos : Pos} {elts : List Expr} {kk : Nat} (hg : Gl X "enumerate") (hm : X.mg "enumerate" = none) (ha : PA X [e] ta) (hs : starEach [e] X.env = [(false, eval e X.env)] := by with_unfolding_all rfl) :
    PI X (.Tuple elts kk tpos) (.Call (.Name "enumerate" p) [e] [] pos) (iEnumT X.K ta) := by
  refine ⟨fun pins s σ H R I h => ?_⟩
  refine Call_ (ld_blt I hg hm boot_enumerate (PyProof.Rows.callWith_type1 (thn (ha.run pos pins s σ H _ I h) fun us s1 hh => ?_) hs rfl))
  obtain ⟨vs, H1, I1, r1, a, xs, ex, hq, q⟩ := hh
  subst ex
  cases r1 with
  | cons ra rr =>
    cases rr
    cases ra
    obtain ⟨its, rv, tp, hz⟩ := I1.tuple hq
    refine hl_call_enum (show s1.heap.IsTuple a its.toArray from tp) fun h' he hit hk => wpAny_pyIter_enum he ?_
    have J : Inv X pins σ H1 { s1 with heap := h' } := I1.kept (t' := s1.toks) hk
    refine ⟨s1.heap.objs.size + 1, [s1.heap.objs.size + 1, s1.heap.objs.size], _, _, H1, rfl, J, turn_enumT a (s1.heap.objs.size + 1) s1.heap.objs.size, ⟨⟨.none, he⟩, hit, Nat.succ_ne_self _⟩, fun b hb => ?_, q⟩
    have hle : s1.heap.objs.size ≤ b := by
      rcases (show b = s1.heap.objs.size + 1 ∨ b = s1.heap.objs.size by simpa using hb) with z | z <;> rw [z]
      · exact Nat.le_succ _
      · exact Nat.le_refl _
    exact I1.fpOk hle (I1.hok.fresh hle)
/-- the places with their items -/
def enD (ds : List D) : List D := (List.range ds.length).map fun i : Nat => .tuple [.int (i : Int), ds.getD i .none]
theorem enD_get {ds : List D} {i : Nat} {d : D} (h : (enD ds)[i]? = some d) : ∃ x, ds[i]? = some x ∧ d = .tuple [.int (i : Int), x] := by
  have hi : i < ds.length := by
    have := (List.getElem?_eq_some_iff.mp h).1
    simpa [enD] using this
  unfold enD at h
  rw [List.getElem?_map, List.getElem?_range hi] at h
  refine ⟨ds[i], List.getElem?_eq_getElem hi, ?_⟩
  rw [← Option.some.inj h]
  show PyData.tuple [PyData.int (i : Int), ds.getD i .none] = _
  rw [List.getD_eq_getElem?_getD, List.getElem?_eq_getElem hi]
  rfl
theorem enD_len (ds : List D) : (enD ds).length = ds.length := by simp [enD]
section
variable {X : Cx} {B : Bs} {es : List En} {F : Hp} {e : Expr} {p pos tpos : Pos} {elts : List Expr} {kk : Nat}
theorem itok_enumT {K : Fg} {ap : Addr} {vs : List V} {ds : List D} (h : TupM F ap vs) (ra : RpAll F vs ds) : ItOk (IteT K ap) (enD ds) F where
  go := fun i H hi s => ⟨vs, vs[i]'(by rw [ra.length, ← enD_len]; exact hi), (h.mono s).seq, by simp⟩
  stop := fun H s => ⟨vs, (h.mono s).seq, by rw [ra.length, enD_len]⟩
  yld := fun i H x H' d hd s y => by
    obtain ⟨T, ob, y, rfl, n, hoc, hod, rfl, hy⟩ := y
    obtain ⟨dx, h1, rfl⟩ := enD_get hd
    obtain ⟨w, hw, q⟩ := ra.getD h1
    have z := hy vs ((h.mono s).seq)
    rw [hw] at z; cases z
    exact .inr ⟨T, ob, _, _, rfl, n, hoc, hod, rfl, rfl, .cons (.int _) (.cons q .nil)⟩
theorem ei_enumT {P : List D → List En → Prop} (hg : Gl X "enumerate") (hm : X.mg "enumerate" = none) (h : EvE X B e es (fun r es1 => ∃ ds, r = .val (.tuple ds) ∧ P (enD ds) es1)) (hs : starEach [e] X.env = [(false, eval e X.env)] := by with_unfolding_all rfl) :
    EvI X B (.Tuple elts kk tpos) (.Call (.Name "enumerate" p) [e] [] pos) es P := fun σ F H o bd R k =>
  wI.of (pi_enumT hg hm (pa_cons pe_w pa_nil hs) hs) (h σ F H o bd _ fun v r es1 F1 H1 p1 q1 o1 t1 => by
    obtain ⟨ds, rfl, p⟩ := p1
    cases q1 with
    | tup h1 h2 => exact ⟨_, _, rfl, (h1.mono o1.sub).seq, k _ _ es1 F1 H1 p (itok_enumT h1 h2) o1 t1⟩)
/-! ### raise -/
structure ExT (K : Fg) (mg : Str → Option Value) (x : Str) (C : Addr) : Prop where
  e : PySem.W.excIn K C [.type "ValueError", .type "Exception", .type "BaseException", .type "object"] "ValueError.__new__" = true
  g : mg x = some (.ref C)
  k : PySem.W.keepIn K (.ref C) = true
  b : PySem.W.subIn K (.ref C) (.type "BaseException") = some true
  t : PySem.W.typeIn K (.ref C) = some (.type "type")
theorem es_raise {x m : Str} {C : Addr} {ex : Addr → List En → Prop} {j : Nat} {p2 pos' : Pos} {Dd : Dn} (hc : X.calm = true) (hx : Exc X B ex) (T : ExT X.K X.mg x C) (hg : Gl X x) (q : ex C es) (hdb : (x == ("__debug__" : Str)) = false := by decide) :
    EvS X B (.Raise (some (.Call (.Name x p) [.Constant (.str m) j p2] [] pos)) none pos') es Dd := fun σ F H o bd E k =>
  wS.of (L2.ps_raise hc hx (pmk_own PySem.F.excBase_ValueError T.e T.g T.k (raises_own T.b T.t) hg hdb)) ⟨C, es, F, rfl, rfl, o, bd, q⟩
end
end HL

set_option Elab.async false
set_option linter.all false
set_option maxRecDepth 100000
set_option maxHeartbeats 4000000
set_option autoImplicit false
namespace HL
open PySem PySem.Spec PyProof.Rows L2
section
variable {X : Cx} {B : Bs} {es : List En} {st : Stmt} {sts : List Stmt} {D : Dn}
/-- a statement with what stands behind it named -/
theorem ess_mid (Mid : List En → Prop) (h : EvS X B st es { D with nx := Mid }) (k : ∀ es1, Mid es1 → EvSs X B sts es1 D) : EvSs X B (st :: sts) es D :=
  ess_cons (h.imp k (fun _ _ p => p) (fun _ p => p) (fun _ p => p))
end
/-! ### a, b = x, y: lists of ours or values -/
def enR : Rs → Option En
  | .val d => some (.val d)
  | .new ds => some (.own ds)
  | .newT C x l ds => some (.tab C x l ds)
  | _ => none
theorem enR_cases {r : Rs} {en : En} (e : enR r = some en) : (∃ d, r = .val d ∧ en = .val d) ∨ ∃ t ds, r = mkN t ds ∧ en = mkO t ds := by
  cases r with
  | val d => cases e; exact .inl ⟨d, rfl, rfl⟩
  | new ds => cases e; exact .inr ⟨none, ds, rfl, rfl⟩
  | newT C x l ds => cases e; exact .inr ⟨some (C, x, l), ds, rfl, rfl⟩
  | sl i => cases e
  | raw w => cases e
  | fl i l => cases e
theorem put_ok {K : Fg} {B : Bs} {es : List En} {σ : L2.St} {F H : Hp} {i : Nat} {v : V} {r : Rs} {en : En} {N : Addr → Prop} (o : Ok K es σ F H) (bd : Bd B es σ F H) (hi : notOwn es[i]? = true) (e : enR r = some en) (q : RsOk N F H σ v r)
    (hn : ∀ l, N l → ¬ Ow es σ l ∧ B.H l = none) : Ok K (es.set i en) (σ.set i (some v)) F H ∧ Bd B (es.set i en) (σ.set i (some v)) F H := by
  rcases enR_cases e with ⟨d, rfl, rfl⟩ | ⟨t, ds, rfl, rfl⟩
  · exact ⟨o.setV hi rfl ⟨v, rfl, q⟩, bd.asg (vs := [i]) (AsgR.setV hi (by simp) rfl)⟩
  · obtain ⟨lp, ws, p, ins, n, f, hh, ra⟩ := rsOk_mk.mp q
    obtain ⟨n1, n2⟩ := hn lp n
    exact ⟨o.setOG hi p ins f hh ra n1, Bd.setOG o bd hi p n2⟩
theorem enR_any {F H : Hp} {σ σ' : L2.St} {v : V} {r : Rs} {en : En} {N : Addr → Prop} (e : enR r = some en) (q : RsOk N F H σ v r) : RsOk N F H σ' v r := by
  rcases enR_cases e with ⟨d, rfl, rfl⟩ | ⟨t, ds, rfl, rfl⟩
  · exact q
  · exact rsOk_mk.mpr (rsOk_mk.mp q)
section
variable {X : Cx} {B : Bs} {es : List En} {a b : Expr} {pos : Pos} {D : Dn}
theorem es_parG {i j : Nat} {x y : Str} {px py pt : Pos} {kt k2 pt2} (hc : X.calm = true) (hN : X.N.Nodup) (hi : X.N[i]? = some x) (hj : X.N[j]? = some y) (hij : i ≠ j)
    (hx : X.env.scope.names.lookup x = some .local) (hy : X.env.scope.names.lookup y = some .local)
    (h : EvE X B a es (fun r1 es1 => EvE X B b es1 (fun r2 es2 => ∃ e1 e2, enR r1 = some e1 ∧ enR r2 = some e2 ∧ notOwn es2[i]? = true ∧ notOwn es2[j]? = true ∧ D.nx ((es2.set i e1).set j e2))))
    (hw : swappedStores [.Tuple [.Name x px, .Name y py] kt pt] (.Tuple [a, b] k2 pt2) X.env = pure (some [x, y]) := by with_unfolding_all rfl)
    (hs : swapsWithSole [.Tuple [.Name x px, .Name y py] kt pt] (.Tuple [a, b] k2 pt2) pos.line X.env = pure false := by with_unfolding_all rfl)
    (he : starEach [a, b] X.env = [(false, eval a X.env), (false, eval b X.env)] := by with_unfolding_all rfl) (he2 : starEach [b] X.env = [(false, eval b X.env)] := by with_unfolding_all rfl) :
    EvS X B (.Assign [.Tuple [.Name x px, .Name y py] kt pt] (.Tuple [a, b] k2 pt2) pos) es D := fun σ F H ok bd E k =>
  wS.of (ps_par hc hN hi hj hij hx hy (pa_cons pe_w (pa_cons pe_w pa_nil he2) (by rw [he, he2])) hw hs) (h σ F H ok bd _ fun v r1 es1 F1 H1 p1 q1 o1 t1 => p1 σ F1 H1 o1 (bd.tr t1) _ fun w r2 es2 F2 H2 p2 q2 o2 t2 => by
    obtain ⟨e1, e2, h1, h2, n1, n2, p⟩ := p2
    have q1' := RsOk.keep ok t1 q1 t2
    have b2 : Bd B es2 σ F2 H2 := (bd.tr t1).tr t2
    have nB : ∀ l, H l = none → B.H l = none := fun l hl => by
      cases e : B.H l with
      | none => rfl
      | some ob => exact absurd hl (bd.dom l (by rw [e]; exact nofun))
    have dm : ∀ l, H1 l = none → H l = none := fun l hl => by
      cases e : H l with
      | none => rfl
      | some ob => exact absurd hl (t1.dom l (by rw [e]; exact nofun))
    obtain ⟨oa, ba⟩ := put_ok o2 b2 n1 h1 q1' fun l hl => ⟨fun z => (by
      obtain ⟨_, ws', h'⟩ := ok.owned ((t1.trans t2).ow l z)
      rw [show H l = none from hl] at h'; cases h'), nB l hl⟩
    have n2' : notOwn (es2.set i e1)[j]? = true := by rw [List.getElem?_set_ne hij]; exact n2
    obtain ⟨ob, bb⟩ := put_ok (N := Nw H1) oa ba n2' h2 (enR_any h2 q2) fun l hl => ⟨fun ⟨m, g, d, w', z1, z2, z3⟩ => (by
      rcases get_set z1 with ⟨rfl, z4, _⟩ | ⟨ne, z1⟩
      · have hl' : m < σ.length := by rw [← o2.len]; exact (notOwn_get n1).1
        rw [List.getElem?_set_self hl'] at z2
        cases z2
        rcases enR_cases h1 with ⟨d', rfl, rfl⟩ | ⟨t, ds, rfl, rfl⟩
        · exact not_mk (e := .val d') rfl (congrArg some z4.symm)
        · obtain ⟨rfl, rfl⟩ := mkO_inj z4
          obtain ⟨lp, ws, p, ins, n, f, hh, ra⟩ := rsOk_mk.mp q1
          rw [z3.uniq p] at hl
          rw [show H1 lp = none from hl] at hh; cases hh
      · rw [List.getElem?_set_ne (Ne.symm ne)] at z2
        obtain ⟨_, ws', h'⟩ := o1.owned (t2.ow l ⟨m, g, d, w', z1, z2, z3⟩)
        rw [show H1 l = none from hl] at h'; cases h'), nB l (dm l hl)⟩
    exact ⟨v, w, rfl, k.nx _ _ F2 H2 p ob bb (t1.trans t2).exF⟩)
end
/-- an expression's promise made weaker -/
theorem atI_mod {α : Type} {xs : List α} {i : Int} {n : Nat} (h1 : 0 ≤ i) (h2 : i < n) (hn : xs.length = n) : ∃ v, atI xs i = some v ∧ xs[i.toNat]? = some v := by
  obtain ⟨j, rfl⟩ : ∃ j : Nat, i = (j : Int) := ⟨i.toNat, by omega⟩
  rw [Int.toNat_natCast]
  have h : j < xs.length := by omega
  exact ⟨xs[j], atI_nat (List.getElem?_eq_getElem h), List.getElem?_eq_getElem h⟩
theorem ixN_nat {n j : Nat} (h : j < n) : ixN n (j : Int) = some j := by
  unfold ixN
  simp [h]
end HL

set_option Elab.async false
set_option linter.all false
set_option maxRecDepth 100000
set_option maxHeartbeats 4000000
set_option autoImplicit false
namespace HL
open PySem PySem.Spec PyProof.Rows L2
section
variable {X : Cx} {B : Bs} {es es' : List En} {σ : L2.St} {F H : Hp} {body : List Stmt} {tg iter : Expr} {vs : List Nat} {pos : Pos} {D : Dn}
def parB (B : Bs) (i0 : Nat) (l : Addr) : Bs := { B with par := fun j a => B.par j a ∨ (j = i0 ∧ a = l) }
theorem Bd.toP {i0 : Nat} {l : Addr} {ds : List HL.D} (b : Bd B es σ F H) (h1 : es[i0]? = some (.own ds)) (h2 : σ[i0]? = some (some (.ref l))) : Bd (parB B i0 l) es σ F H :=
  ⟨b.exF, b.new, b.fr, b.dom, b.ow, fun i a h => by
    rcases h with h | ⟨rfl, rfl⟩
    · exact b.par i a h
    · exact ⟨none, ds, _, h1, h2, rfl⟩, fun a h => by
    obtain ⟨i, hi⟩ := b.opar a h
    exact ⟨i, .inl hi⟩, fun i a t v h => .inl (b.tp i a t v h), b.tg⟩
theorem Bd.ofP {i0 : Nat} {l : Addr} {σ0 : L2.St} {es0 : List En} {F0 H0 : Hp} (b0 : Bd B es0 σ0 F0 H0) (b : Bd (parB B i0 l) es σ F H) : Bd B es σ F H :=
  ⟨b.exF, b.new, b.fr, b.dom, b.ow, fun i a h => b.par i a (.inl h), b0.opar, b0.tp, b.tg⟩
theorem Bd.forget2 {fg : List Nat} (bd : Bd B es σ F H) (hd : ∀ i a, B.par i a → i ∉ fg) : Bd B (blank es fg) σ F H := by
  refine ⟨bd.exF, bd.new, bd.fr, bd.dom, fun x ⟨i, h⟩ => bd.ow x ⟨i, at_blank h⟩, fun i x h => ?_, bd.opar, bd.tp, fun i x t v h => ?_⟩
  · obtain ⟨t, ds, v, h1, h2⟩ := bd.par i x h
    refine ⟨t, ds, v, ?_, h2⟩
    rw [blank_get, if_neg fun z => hd i x h z.1]
    exact h1
  · obtain ⟨ds, h1, h2⟩ := bd.tg i x t v h
    refine ⟨ds, ?_, h2⟩
    rw [blank_get, if_neg fun z => hd i x (bd.tp i x t v h) z.1]
    exact h1
/-- for tg in a list of ours, of ints, that the body leaves alone -/
theorem es_forO {np i0 : Nat} {ns : List Int} (hp : PassesOwn (model X.prog X.w) X.A X.env X.xe) (hc : X.calm = true) (hB : ∀ i a, B.par i a → i < np) (fg : List Nat)
    (h : EvE X B iter es fun r es1 => r = .sl i0 ∧ es1[i0]? = some (.own (ns.map PyData.int)) ∧ ∃ Iv : Nat → List En → Prop, Iv 0 es1 ∧ (∀ i es2, Iv i es2 → es2[i0]? = some (.own (ns.map PyData.int))) ∧
      (∀ B' : Bs, (∀ j a, B'.par j a → j < np ∨ j = i0) → ∀ (i : Nat) (hi : i < ns.length) es2, Iv i es2 → EvG X tg vs (.int ns[i]) es2 fun es3 => EvSs X B' body es3 { D with nx := fun es4 => Iv (i + 1) (blank es4 fg), ct := fun es4 => Iv (i + 1) (blank es4 fg), bk := D.nx }) ∧ ∀ es2, Iv ns.length es2 → D.nx es2)
    (hf : ∀ i, i ∈ fg → np ≤ i ∧ i ≠ i0 := by decide) (hs : ∀ x, foldedSetIterable iter X.env x = pure x := by with_unfolding_all (intro _; rfl)) : EvS X B (.For tg iter body [] pos) es D := fun σ F H ok bd E k =>
  wS.of (ps_for hp hc (pi_list pe_w) pg_w pss_w hs) (h σ F H ok bd _ fun v r es1 F1 H1 p1 q1 o1 t1 => by
    obtain ⟨rfl, hown, Iv, h0, hi0, hs, hd⟩ := p1
    have q1 : σ[i0]? = some (some v) := q1
    obtain ⟨v0, l, vs0, e1, pt, _, f1, g1, ra⟩ := o1.slot i0 _ hown
    rw [q1] at e1; cases e1
    have pt : v = .ref l := pt
    subst pt
    have look : ∀ {i : Nat} {es2 : List En} {σi : L2.St} {F2 Hi : Hp}, Iv i es2 → Ok X.K es2 σi F2 Hi → Bd (parB B i0 l) es2 σi F2 Hi → SqL X.K Hi l (ns.map V.int) := fun {i es2 σi F2 Hi} w o2 b2 => by
      obtain ⟨g, d, v2, z1, z2, z5⟩ := b2.par i0 l (.inr ⟨rfl, rfl⟩)
      rw [hi0 i es2 w] at z1
      obtain ⟨rfl, rfl⟩ := mkO_inj (t := none) (Option.some.inj z1)
      obtain ⟨v3, l', vs', z3, z6, _, _, z4, ra'⟩ := o2.slot i0 _ (hi0 i es2 w)
      rw [z2] at z3; cases z3
      rw [z6.uniq z5] at z4
      rw [ra'.toInts] at z4
      exact SqL.of z4
    have dis : ∀ i a, (parB B i0 l).par i a → i ∉ fg := fun i a z hfg => by
      obtain ⟨z1, z2⟩ := hf i hfg
      rcases z with z | ⟨z, _⟩
      · have := hB i a z; omega
      · exact z2 z
    refine ⟨l, rfl, ⟨_, SqL.of g1⟩, fun i m σi Hi => i ≤ ns.length ∧ m = ns.length - i ∧ ∃ es2 F2, Iv i es2 ∧ Ok X.K es2 σi F2 Hi ∧ Bd (parB B i0 l) es2 σi F2 Hi ∧ Same F1 F2, ⟨ns.length, Nat.zero_le _, rfl, es1, F1, h0, o1, (bd.tr t1).toP hown q1, Same.refl F1⟩, ?_⟩
    rintro i m σi Hi ⟨hi, rfl, es2, F2, w, o2, b2, s2⟩
    have hl := look w o2 b2
    by_cases hlt : i < ns.length
    · refine .inr ⟨⟨_, V.int ns[i], hl, by rw [List.getElem?_map, List.getElem?_eq_getElem hlt]; rfl⟩, fun σn Hn => ∃ es2 F2, Iv (i + 1) es2 ∧ Ok X.K es2 σn F2 Hn ∧ Bd (parB B i0 l) es2 σn F2 Hn ∧ Same F1 F2, fun σn Hn ⟨es', F', w', o', b', s'⟩ => ⟨ns.length - (i + 1), by omega, hlt, rfl, es', F', w', o', b', s'⟩, fun x Hy y => ?_⟩
      obtain ⟨e, y⟩ := y
      cases e
      have z := y _ hl
      rw [List.getElem?_map, List.getElem?_eq_getElem hlt] at z
      cases z
      refine hs (parB B i0 l) (fun j a z => z.imp (hB j a) (·.1)) i hlt es2 w σi F2 Hi _ o2 (.int _) _ fun σ4 es4 p4 o4 a4 => ?_
      exact p4 σ4 F2 Hi o4 (b2.asg a4) _ ⟨fun es5 σ5 F5 H5 w5 o5 b5 s5 => ⟨_, F5, w5, o5.forget fg, b5.forget2 dis, s2.trans s5⟩, fun v r es σ F H p q o b => k.rt v r es σ F H p q o (bd.ofP b), fun es5 σ5 F5 H5 w5 o5 b5 s5 => k.nx es5 σ5 F5 H5 w5 o5 (bd.ofP b5) (t1.exF.trans (s2.trans s5)), fun es5 σ5 F5 H5 w5 o5 b5 s5 => ⟨_, F5, w5, o5.forget fg, b5.forget2 dis, s2.trans s5⟩⟩
    · have e : i = ns.length := by omega
      subst e
      exact .inl ⟨⟨_, hl, by rw [List.length_map]; exact Nat.le_refl _⟩, k.nx es2 σi F2 Hi (hd es2 w) o2 (bd.ofP b2) (t1.exF.trans s2)⟩)
end
section
variable {X : Cx} {B : Bs} {es : List En} {a b c : Expr} {pos : Pos}
theorem et_chain {op op' : CmpOp} {P : Bool → List En → Prop} (h : EvE X B a es (fun r1 es1 => EvE X B b es1 (fun r2 es2 => Rd2 X (rW X (compareOp op)) r1 r2 es2 (fun r es3 => ∃ k, r = .val (.bool k) ∧ es3 = es2 ∧
      (k = true → EvE X B c es2 (fun r3 es4 => Rd2 X (rW X (compareOp op')) r2 r3 es4 (fun r es5 => ∃ k, r = .val (.bool k) ∧ P k es5))) ∧ (k = false → P false es2)))))
    (hm : lastMarks [op, op'] [b, c] = false := by with_unfolding_all rfl) : EvT X B (.Compare a [op, op'] [b, c] pos) es P := fun σ F H o bd Q k =>
  wT.of (pt_chain op_w op_w pe_w pe_w pe_w hm) (h σ F H o bd _ fun v1 r1 es1 F1 H1 p1 q1 o1 t1 => p1 σ F1 H1 o1 (bd.tr t1) _ fun v2 r2 es2 F2 H2 p2 q2 o2 t2 =>
    p2 σ F2 H2 v1 v2 o2 (RsOk.keep o t1 q1 t2).all q2.all _ fun v r es3 F3 H3 p3 q3 o3 t3 => by
      obtain ⟨d, rfl, rfl, p, q⟩ := p3
      cases q3
      refine ⟨d, rfl, ?_⟩
      cases d with
      | false => exact ⟨_, rfl, k _ _ F3 H3 (q rfl) o3 ((t1.trans t2).trans t3)⟩
      | true =>
        refine p rfl σ F3 H3 o3 (bd.tr ((t1.trans t2).trans t3)) _ fun v4 r4 es4 F4 H4 p4 q4 o4 t4 => ?_
        exact p4 σ F4 H4 v2 v4 o4 ((RsOk.keep o1 t2 q2 (t3.trans t4))).all q4.all _ fun v5 r5 es5 F5 H5 p5 q5 o5 t5 => by
          obtain ⟨d2, rfl, p5⟩ := p5
          cases q5
          exact ⟨d2, rfl, k d2 es5 F5 H5 p5 o5 ((((t1.trans t2).trans t3).trans t4).trans t5)⟩)
theorem o_isB {i j : Bool} {P : Rs → List En → Prop} (p : P (.val (.bool (decide (i = j)))) es) : Rd2 X (rW X (compareOp .Is)) (.val (.bool i)) (.val (.bool j)) es P :=
  Rd2.of op_is_bl fun σ F H v1 v2 o a b Q k => by cases a; cases b; exact ⟨i, j, rfl, rfl, k_val k o p (.bl _)⟩
theorem o_isNotB {i j : Bool} {P : Rs → List En → Prop} (p : P (.val (.bool (!decide (i = j)))) es) : Rd2 X (rW X (compareOp .IsNot)) (.val (.bool i)) (.val (.bool j)) es P :=
  Rd2.of op_isnot_bl fun σ F H v1 v2 o a b Q k => by cases a; cases b; exact ⟨i, j, rfl, rfl, k_val k o p (.bl _)⟩
end
end HL

set_option Elab.async false
set_option linter.all false
set_option maxRecDepth 100000
set_option maxHeartbeats 4000000
set_option autoImplicit false
namespace HL
open PySem PySem.Spec PyProof.Rows L2
section
variable {X : Cx} {B : Bs} {es : List En} {P : Rs → List En → Prop} {elt : Expr} {ifs : List Expr} {pos spos py : Pos} {tg iter : Expr} {scope : Scope} {own : List (Str × Nat)} {D : Dn} {i : Nat} {y : Str}
/-- what a comprehension asks, turn by turn -/
def LcH (X : Cx) (B : Bs) (scope : Scope) (own : List (Str × Nat)) (tg iter : Expr) (ifs : List Expr) (elt : Expr) (es : List En) (P : Rs → List En → Prop) : Prop :=
  EvI X B tg iter es fun items es1 => ∃ Iv : Nat → List HL.D → List En → Prop, Iv 0 [] es1 ∧ (∀ i acc es2, Iv i acc es2 → Blanked es2 (own.map (·.2))) ∧ (∀ i d acc es2, items[i]? = some d → Iv i acc es2 → LcTurn X B scope (own.map (·.2)) tg ifs elt d acc es2 (Iv (i + 1))) ∧ ∀ acc es2, Iv items.length acc es2 → P (.new acc) es2
theorem lch_filt (g : HL.D → Bool) (f : HL.D → HL.D)
    (h : EvI X B tg iter es fun items es1 => Blanked es1 (own.map (·.2)) ∧ items.length ≤ sizeLine ∧ (∀ d, d ∈ items → Blk X scope fun X1 => EvG X1 tg (own.map (·.2)) d es1 fun es3 => Blk X scope fun X2 => EvTs X2 B ifs es3 fun k es4 => k = g d ∧ blank es4 (own.map (·.2)) = es1 ∧ (k = true → Blk X scope fun X3 => EvE X3 B elt es4 fun r es5 => frz r = .val (f d) ∧ blank es5 (own.map (·.2)) = es1)) ∧ P (.new ((items.filter g).map f)) es1) :
    LcH X B scope own tg iter ifs elt es P := by
  refine EvI.imp h fun items es1 hh => ?_
  obtain ⟨hb, hz, hE, hP⟩ := hh
  refine ⟨fun i acc es2 => es2 = es1 ∧ acc = ((items.take i).filter g).map f, ⟨rfl, rfl⟩, fun i acc es2 ⟨e, _⟩ => by rw [e]; exact hb, fun i d acc es2 hd ⟨e1, e2⟩ => ?_, fun acc es2 ⟨e1, e2⟩ => ?_⟩
  · subst e1 e2
    have hmem : d ∈ items := List.mem_of_getElem? hd
    have hi : i < items.length := (List.getElem?_eq_some_iff.mp hd).1
    refine ⟨?_, fun s H C cl fp => (hE d hmem s H C cl fp).imp fun es3 h3 s' H' C' cl' fp' => (h3 s' H' C' cl' fp').imp fun k es4 ⟨h4, h5, h6⟩ => ⟨fun hk s'' H'' C'' cl'' fp'' => (h6 hk s'' H'' C'' cl'' fp'').imp fun r es5 ⟨h7, h8⟩ => ⟨f d, h7, h8, ?_⟩, fun hk => ⟨h5, ?_⟩⟩⟩
    · rw [List.length_map]
      refine Nat.lt_of_le_of_lt (List.length_filter_le _ _) ?_
      rw [List.length_take]; omega
    · rw [take_get hd, List.filter_append, List.map_append]
      rw [show [d].filter g = [d] by rw [List.filter_cons, if_pos (by rw [← h4]; exact hk)]; rfl]
      rfl
    · rw [take_get hd, List.filter_append, List.map_append]
      rw [show [d].filter g = [] by rw [List.filter_cons, if_neg (by rw [← h4, hk]; decide)]; rfl]
      simp
  · subst e1 e2
    rw [List.take_length]
    exact hP
theorem lch_map (f : HL.D → HL.D)
    (h : EvI X B tg iter es fun items es1 => Blanked es1 (own.map (·.2)) ∧ items.length ≤ sizeLine ∧ (∀ d, d ∈ items → Blk X scope fun X1 => EvG X1 tg (own.map (·.2)) d es1 fun es3 => blank es3 (own.map (·.2)) = es1 ∧ Blk X scope fun X2 => EvE X2 B elt es3 fun r es5 => frz r = .val (f d) ∧ blank es5 (own.map (·.2)) = es1) ∧ P (.new (items.map f)) es1) :
    LcH X B scope own tg iter [] elt es P :=
  lch_filt (fun _ => true) f (EvI.imp h fun items es1 ⟨hb, hz, hE, hP⟩ => ⟨hb, hz, fun d hd s H C cl fp => (hE d hd s H C cl fp).imp fun es3 ⟨hb3, h3⟩ s' H' C' cl' fp' => ets_nil ⟨rfl, hb3, fun _ => h3⟩, by
    rw [show items.filter (fun _ => true) = items from List.filter_eq_self.mpr fun _ _ => rfl]; exact hP⟩)
/-- y = [..], a value -/
theorem es_setLc (hc : X.calm = true) (hN : X.N.Nodup) (hy : X.N[i]? = some y) (hyl : X.env.scope.names.lookup y = some .local) (ok : BlkOk X.N X.env.scope scope own)
    (h : LcH X B scope own tg iter ifs elt es fun r es1 => ∃ acc, r = .new acc ∧ notOwn es1[i]? = true ∧ D.nx (es1.set i (.val (.list acc))))
    (hsw : swapsWith (.ListComp elt [⟨tg, iter, ifs, 0⟩] scope pos) (some (.Name y py)) spos.line X.env = pure true := by with_unfolding_all rfl)
    (hs : ∀ x, foldedSetIterable iter X.env x = pure x := by with_unfolding_all (intro _; rfl)) : EvS X B (.Assign [.Name y py] (.ListComp elt [⟨tg, iter, ifs, 0⟩] scope pos) spos) es D := fun σ F H o bd E k =>
  wS.of (ps_setLc hc hN hy hyl hsw pi_w ok pg_B pts_B pe_B hs) (lc_read (P := fun r es1 => ∃ acc, r = .new acc ∧ notOwn es1[i]? = true ∧ D.nx (es1.set i (.val (.list acc)))) h o bd fun v r es' F' H' p q o' t => by
    obtain ⟨acc, rfl, hi, p⟩ := p
    obtain ⟨l, vs, pt, _, n, f, hh, ra⟩ := q
    have pt : v = .ref l := pt
    subst pt
    have nn : ¬ Ow es' σ l := fun z => by
      obtain ⟨_, w, hw⟩ := o.owned (t.ow l z)
      rw [show H l = none from n] at hw; cases hw
    have o2 := o'.freeze hh f nn
    have t2 := t.freeze (vs := vs) f n
    exact k.nx _ _ _ H' p (o2.setV hi rfl ⟨_, rfl, .lst upd_same (Rp.monoAll (same_new f) acc vs ra)⟩) ((bd.tr t2).asg (vs := [i]) (AsgR.setV hi (by simp) rfl)) t2.exF)
/-- y = [..], a list of ours -/
theorem es_setLcO (hc : X.calm = true) (hN : X.N.Nodup) (hy : X.N[i]? = some y) (hyl : X.env.scope.names.lookup y = some .local) (ok : BlkOk X.N X.env.scope scope own)
    (h : LcH X B scope own tg iter ifs elt es fun r es1 => ∃ acc, r = .new acc ∧ notOwn es1[i]? = true ∧ D.nx (es1.set i (.own acc)))
    (hsw : swapsWith (.ListComp elt [⟨tg, iter, ifs, 0⟩] scope pos) (some (.Name y py)) spos.line X.env = pure true := by with_unfolding_all rfl)
    (hs : ∀ x, foldedSetIterable iter X.env x = pure x := by with_unfolding_all (intro _; rfl)) : EvS X B (.Assign [.Name y py] (.ListComp elt [⟨tg, iter, ifs, 0⟩] scope pos) spos) es D := fun σ F H o bd E k =>
  wS.of (ps_setLc hc hN hy hyl hsw pi_w ok pg_B pts_B pe_B hs) (lc_read (P := fun r es1 => ∃ acc, r = .new acc ∧ notOwn es1[i]? = true ∧ D.nx (es1.set i (.own acc))) h o bd fun v r es1 F1 H1 p1 q1 o1 t1 => by
    obtain ⟨ds, rfl, hi, p⟩ := p1
    obtain ⟨lp, ws, pt, ins, n, f, hh, ra⟩ := q1
    have n2 : B.H lp = none := by
      cases e : B.H lp with
      | none => rfl
      | some ob => exact absurd n (bd.dom lp (by rw [e]; exact nofun))
    have nn : ¬ Ow es1 σ lp := fun z => by
      obtain ⟨_, ws', h'⟩ := o.owned (t1.ow lp z)
      rw [show H lp = none from n] at h'; cases h'
    exact k.nx _ _ F1 H1 p (Ok.setOG (t := none) o1 hi pt ins f hh ra nn) (Bd.setOG (t := none) o1 (bd.tr t1) hi pt n2) t1.exF)
end
end HL

set_option Elab.async false
set_option linter.all false
set_option maxRecDepth 100000
set_option maxHeartbeats 4000000
set_option autoImplicit false
namespace HL
open PySem PySem.Spec PyProof.Rows L2
/-! ### set(a tuple of ints), sorted(set(..)) -/
def rSetT (K : Fg) (w : World) : List V → Hp → VK → Prop := fun xs H Q => ∃ (p : Addr) (ns : List Int), xs = [.ref p] ∧ SqT K H p (ns.map V.int) ∧ ns.length + 1 < scanBound ∧
  ∀ (a : Addr) (c : Nat), H a = none → c ≤ ns.length → Q (.ref a) (upd H a (SetO w a (fun j => decide (j ∈ ns)) c))
section
variable {X : Cx} {B : Bs} {es : List En} {e : Expr} {p1 p2 pos pos2 : Pos} {P : Rs → List En → Prop} {r : Rs}
theorem cr_setT (hc : X.calm = true) : CallR X (.type "set") (rSetT X.K X.w) := by
  intro pins s σ H xs us Q I r h
  obtain ⟨p, ns, rfl, hs, hb, q⟩ := h
  obtain ⟨its, rv, hl, hz⟩ := I.tuple hs
  rw [Vals.ref1 r]
  refine call_set_tupI ns (I.ok.hd hc) (show s.heap.IsTuple p its.toArray from hl) rv.ints hb fun h' tk c R hcn keep => ?_
  exact ⟨.ref _, upd H s.heap.objs.size (SetO X.w s.heap.objs.size (fun j => decide (j ∈ ns)) c), I.laid (t' := tk) keep (Nat.le_refl _) (setO_new R), rfl, q _ c (I.hok.fresh (Nat.le_refl _)) hcn⟩
theorem ee_sortedSet (hc : X.calm = true) (hg1 : Gl X "sorted") (hm1 : X.mg "sorted" = none) (hg2 : Gl X "set") (hm2 : X.mg "set" = none)
    (h : EvE X B e es fun r es1 => ∃ ns : List Int, den es1 r = some (.tuple (ns.map .int)) ∧ ns.length < 64 ∧ ∀ out : List Int, out.Pairwise (· < ·) → (∀ k : Int, k ∈ out ↔ k ∈ ns) → P (.new (out.map .int)) es1)
    (hs : starEach [e] X.env = [(false, eval e X.env)] := by with_unfolding_all rfl)
    (hs2 : starEach [Expr.Call (.Name "set" p2) [e] [] pos2] X.env = [(false, eval (Expr.Call (.Name "set" p2) [e] [] pos2) X.env)] := by with_unfolding_all rfl)
    (hpl : (backTo pos (starEach [] X.env)).any (·.1) = false := by with_unfolding_all rfl) (hpl2 : (backTo pos2 (starEach [] X.env)).any (·.1) = false := by with_unfolding_all rfl) :
    EvE X B (.Call (.Name "sorted" p1) [.Call (.Name "set" p2) [e] [] pos2] [] pos) es P := fun σ F H o bd Q k =>
  wE.of (pe_callB (cr_sortedSet hc) hg1 hm1 b_sorted (pa_cons (pe_callTy (cr_setT hc) hg2 hm2 b_set (pa_cons pe_w pa_nil hs) (by decide) (by decide) hs hpl2) pa_nil hs2) (by decide) (by decide) hs2 hpl) (h σ F H o bd _ fun v r es1 F1 H1 q1 v1 o1 t1 => by
    obtain ⟨ns, hd, hl, q⟩ := q1
    obtain ⟨a1, vs, rfl, f1, g1, ra⟩ := v1.seqT o1 hd
    have ev := ra.toInts
    subst ev
    refine ⟨a1, ns, rfl, g1.seq, by show ns.length + 1 < 4096; omega, fun a c ha hcn => ?_⟩
    refine ⟨a, _, c, rfl, upd_same, by omega, fun out pp h1 h2 h3 hp => ?_⟩
    have o2 : Ok X.K es1 σ F1 (upd H1 a (SetO X.w a (fun j => decide (j ∈ ns)) c)) := o1.newH ha
    exact k_lst (P := P) (fun v r es' F' H' p q o t => k v r es' F' H' p (q.weak fun a z => by
      cases e : H a with
      | none => exact e
      | some ob =>
        exfalso
        refine (t1.trans (Tr.newH o1 ha)).dom a (by rw [e]; exact nofun) z) o ((t1.trans (Tr.newH o1 ha)).trans t)) o2 (q out h1 (fun k => by rw [h2 k, decide_eq_true_eq])) (RpAll.ints out) hp)
end
/-! ### sorted(..) of lots -/
abbrev tupL (l : List Int) : D := .tuple (l.map .int)
def rSortedL (K : Fg) : List V → Hp → VK → Prop := fun xs H Q => ∃ (a : Addr) (ps : List (V × List Int)), xs = [.ref a] ∧ SqL K H a (ps.map (·.1)) ∧ (∀ b ∈ ps, Dp K H b.1 (tupL b.2) ∧ b.2 ≠ []) ∧
  ∀ ps' : List (V × List Int), ps'.Perm ps → ps'.Pairwise (fun b c => b.2 ≤ c.2) → ∀ p, H p = none → Q (.ref p) (upd H p (.lst (ps'.map (·.1))))
theorem each_of {ps : List (V × List Int)} : ∀ {its : List Value}, Vals (ps.map (·.1)) its → PySem.W.EachIs (fun v b => RelV b.1 v) its ps := by
  induction ps with
  | nil => intro its h; cases h; exact .nil
  | cons b ps ih =>
    intro its h
    cases h with
    | cons h1 h2 => exact .cons h1 (ih h2)
theorem of_each {ps : List (V × List Int)} : ∀ {its : List Value}, PySem.W.EachIs (fun v b => RelV b.1 v) its ps → Vals (ps.map (·.1)) its := by
  induction ps with
  | nil => intro its h; cases h; exact .nil
  | cons b ps ih =>
    intro its h
    cases h with
    | cons h1 h2 => exact .cons h1 (ih h2)
theorem each_reads {X : Cx} {pins : List (Addr × Obj)} {σ : L2.St} {H : Hp} {s : Shared} (I : L2.Inv X pins σ H s) {ps : List (V × List Int)} : ∀ {its : List Value}, PySem.W.EachIs (fun v b => RelV b.1 v) its ps → (∀ b ∈ ps, Dp X.K H b.1 (tupL b.2) ∧ b.2 ≠ []) →
    PySem.W.EachIs (fun v b => ∃ as, Reads s.heap v (tupL b.2) as) its ps := by
  induction ps with
  | nil => intro its h _; cases h; exact .nil
  | cons b ps ih =>
    intro its h hd
    cases h with
    | cons h1 h2 => exact .cons (Dp.reads I _ _ _ (hd b List.mem_cons_self).1 h1) (ih h2 fun c hc => hd c (List.mem_cons_of_mem _ hc))
theorem dataLe_tups (x : V × List Int → List Int) : PySem.W.dataLe false (fun b => PyData.tuple ((x b).map .int)) = fun p q => decide (x p ≤ x q) := by
  rw [← PySem.W.dataLe_rows x]
  rfl
theorem cr_sortedL {X : Cx} (hu : X.A.units + 65 < cLine) : CallR X (.builtin "sorted") (rSortedL X.K) := by
  intro pins s σ H vs us Q I r h
  obtain ⟨a, ps, rfl, hs, hd, q⟩ := h
  obtain ⟨its, rv, hl, hz⟩ := I.list hs
  rw [Vals.ref1 r]
  have e := each_of rv
  rw [List.length_map] at hz
  refine PySem.W.sorted_data (enc := fun b : V × List Int => tupL b.2) hl.isList e (each_reads I e hd) (PySem.W.AllAlike.of fun b b' => by rw [PySem.W.alike]; exact PySem.W.alike_ints _ _) (.inl fun d hd' => ?_) hz (fun b _ => ?_) fun out ho hr => ?_
  · obtain ⟨b, hb, rfl⟩ := List.mem_map.mp hd'
    obtain ⟨x, l, hx⟩ := List.exists_cons_of_ne_nil (hd b hb).2
    exact ⟨.int x, l.map .int, by show PyData.tuple (b.2.map .int) = _; rw [hx]; rfl⟩
  · have : (tupL b.2).depth = 1 := by show PyData.depth (.tuple _) = 1; rw [PyData.depth, PySem.W.depth_ints]
    rw [this]; omega
  · rw [show (fun b : V × List Int => tupL b.2) = fun b => PyData.tuple ((Prod.snd b).map .int) from rfl, dataLe_tups Prod.snd] at hr
    have pm : (ps.mergeSort fun p q => decide (p.2 ≤ q.2)).Perm ps := List.mergeSort_perm ps _
    have pw : (ps.mergeSort fun p q => decide (p.2 ≤ q.2)).Pairwise fun b c => b.2 ≤ c.2 := by
      have h := List.pairwise_mergeSort (le := fun p q : V × List Int => decide (p.2 ≤ q.2)) (by intro a b c; simp only [decide_eq_true_eq]; exact List.le_trans) (by intro a b; simp only [Bool.or_eq_true, decide_eq_true_eq]; exact List.le_total _ _) ps
      exact h.imp fun h => of_decide_eq_true h
    obtain ⟨ep, he'⟩ := PyProof.Rows.sortedAll_at s.heap its out.toArray
    have hlen : ((ps.mergeSort fun p q => decide (p.2 ≤ q.2)).map (·.1)).length ≤ sizeLine := by
      rw [List.length_map, pm.length_eq]
      exact hz
    exact ⟨.ref _, upd H (s.heap.objs.size + 1) (.lst ((ps.mergeSort fun p q => decide (p.2 ≤ q.2)).map (·.1))), I.laid (t' := s.toks) (fun _ _ => PyProof.Rows.sortedAll_old) (Nat.le_succ _) ⟨hlen, out, ep, of_each hr, he'⟩, rfl, q _ pm pw _ (I.hok.fresh (Nat.le_succ _))⟩
section
variable {X : Cx} {es : List En} {P : Rs → List En → Prop} {r : Rs}
theorem zip_dp {K : Fg} {F H : Hp} (s : Same F H) : ∀ {ls : List (List Int)} {vs : List V}, RpAll F vs (ls.map tupL) → (∀ l ∈ ls, l ≠ []) → ∃ ps : List (V × List Int), vs = ps.map (·.1) ∧ ls = ps.map (·.2) ∧ (∀ b ∈ ps, Dp K H b.1 (tupL b.2) ∧ b.2 ≠ []) ∧ ∀ b ∈ ps, Rp F b.1 (tupL b.2)
  | [], vs, ra, _ => by cases ra; exact ⟨[], rfl, rfl, nofun, nofun⟩
  | l :: ls, vs, ra, hne => by
    cases ra with
    | cons h1 h2 =>
      obtain ⟨ps, e1, e2, h3, h4⟩ := zip_dp s h2 fun m hm => hne m (List.mem_cons_of_mem _ hm)
      rename_i v vs'
      refine ⟨(v, l) :: ps, by rw [e1]; rfl, by rw [e2]; rfl, fun b hb => ?_, fun b hb => ?_⟩
      · rcases List.mem_cons.mp hb with rfl | hb
        · exact ⟨Rp.dp s _ _ h1, hne l List.mem_cons_self⟩
        · exact h3 b hb
      · rcases List.mem_cons.mp hb with rfl | hb
        · exact h1
        · exact h4 b hb
theorem rp_zip {F : Hp} : ∀ {ps : List (V × List Int)}, (∀ b ∈ ps, Rp F b.1 (tupL b.2)) → RpAll F (ps.map (·.1)) ((ps.map (·.2)).map tupL)
  | [], _ => .nil
  | b :: ps, h => .cons (h b List.mem_cons_self) (rp_zip fun c hc => h c (List.mem_cons_of_mem _ hc))
/-- sorted(..) of a list of tuples of ints, none of them empty -/
theorem c_sortedL (hu : X.A.units + 65 < cLine) {ls : List (List Int)} (hne : ∀ l ∈ ls, l ≠ []) (h : den es r = some (.list (ls.map tupL))) (p : ∀ ls' : List (List Int), ls'.Perm ls → ls'.Pairwise (· ≤ ·) → P (.new (ls'.map tupL)) es) : RdC X (cW X (.builtin "sorted")) [r] es P :=
  RdC.of (cr_sortedL hu) fun σ F H vs o q Q k => by
    obtain ⟨v, rfl, q1⟩ := rs1 q
    obtain ⟨a, ws, rfl, e, ra⟩ := q1.seqL o h
    obtain ⟨ps, rfl, rfl, h1, h2⟩ := zip_dp (K := X.K) o.sub ra hne
    refine ⟨a, ps, rfl, e, h1, fun ps' pm pw pp hp => ?_⟩
    refine k_lst k o (p (ps'.map (·.2)) (pm.map _) ?_) (rp_zip fun b hb => h2 b (pm.mem_iff.mp hb)) hp
    exact List.pairwise_map.mpr pw
end
end HL

set_option Elab.async false
set_option linter.all false
set_option maxRecDepth 100000
set_option maxHeartbeats 4000000
set_option autoImplicit false
namespace HL
open PySem PySem.Spec PyProof.Rows L2
section
variable {X : Cx} {B : Bs} {es es1 es3 es5 : List En} {P : Rs → List En → Prop} {elt : Expr} {pos : Pos} {tg iter tg1 iter1 : Expr} {scope : Scope} {vs vs1 : List Nat} {K : Fg} {σ σ2 σ3 : L2.St} {F H F1 H1 F2 H2 F3 H3 F' H' : Hp}
theorem wipe_idem : wipe (wipe σ vs) vs = wipe σ vs := by
  apply List.ext_getElem?
  intro j
  rw [wipe_get, wipe_get, wipe_length]
  split <;> rfl
theorem wipe_sub (h : ∀ i ∈ vs1, i ∈ vs) : wipe (wipe σ vs1) vs = wipe σ vs := by
  apply List.ext_getElem?
  intro j
  rw [wipe_get, wipe_get, wipe_get, wipe_length]
  split
  · rfl
  · rename_i n1
    rw [if_neg fun z => n1 ⟨h j z.1, z.2⟩]
theorem Ok.updD {Dl : Addr} {ob : HO} (o : Ok K es σ F H) (no : ¬ Ow es σ Dl) (fD : F Dl = none) : Ok K es σ F (upd H Dl ob) := by
  refine ⟨o.len, fun i e he => ?_, o.sep, fun x ob h => ?_⟩
  · have z := o.slot i e he
    have key : ∀ {t2 d2}, es[i]? = some (mkO t2 d2) → SlO F H σ[i]? t2 d2 → SlO F (upd H Dl ob) σ[i]? t2 d2 := fun {t2 d2} he z => by
      obtain ⟨v2, lp, ws, e1, p, ii, f1, hh, ra⟩ := z
      have ne : lp ≠ Dl := fun z => no ⟨i, t2, d2, v2, he, e1, by rw [← z]; exact p⟩
      exact ⟨v2, lp, ws, e1, p, ii, f1, by rw [upd_ne ne]; exact hh, ra⟩
    cases e with
    | own ds => exact key (t2 := none) he z
    | tab C x l ds => exact key (t2 := some (C, x, l)) he z
    | val d => exact z
    | no => trivial
    | scr ns => exact z
    | raw v => exact z
  · have ne : x ≠ Dl := fun z => by rw [z, fD] at h; cases h
    rw [upd_ne ne]; exact o.sub x ob h
theorem Grow.step {σw : L2.St} {Dl : Addr} {acc : List D} (o1 : Ok K es1 σw F1 H1) (g : Grow K es1 σw F1 H1 Dl acc es1 F H) (t : Tr es1 σw F H es1 F' H') (o : Ok K es1 σw F' H') : Grow K es1 σw F1 H1 Dl acc es1 F' H' := by
  obtain ⟨vacc, h1, h2⟩ := g.hD
  exact ⟨o, g.tr.trans t, g.new, t.new Dl g.fD (by rw [h1]; exact nofun), vacc, t.fr Dl _ h1 (g.notOw o1), Rp.monoAll t.exF acc vacc h2⟩
/-- [elt for tg in iter for tg1 in iter1]: nothing else is changed -/
theorem ee_lc2 {own : List (Str × Nat)} (hc : X.calm = true) (hN : X.N.Nodup) (ok : BlkOk X.N X.env.scope scope own) (vs1 : List Nat) (hv : ∀ i ∈ vs1, i ∈ own.map (·.2)) (g : D → List D) (f : D → D → D)
    (h : EvI X B tg iter es fun items es1 => Blanked es1 (own.map (·.2)) ∧ (items.flatMap fun d => (g d).map (f d)).length ≤ sizeLine ∧
      (∀ d, d ∈ items → Blk X scope fun X1 => EvG X1 tg (own.map (·.2)) d es1 fun es3 => blank es3 (own.map (·.2)) = es1 ∧ Blanked es3 vs1 ∧ Blk X scope fun X2 => EvI X2 B tg1 iter1 es3 fun its es4 => its = g d ∧ es4 = es3 ∧ ∀ d2, d2 ∈ its → (∀ ds, d2 ≠ .tuple ds) ∧ Blk X scope fun X3 => EvG X3 tg1 vs1 d2 es3 fun es5 => Blk X scope fun X4 => EvE X4 B elt es5 fun r es6 => frz r = .val (f d d2) ∧ blank es6 vs1 = es3) ∧
      P (.new (items.flatMap fun d => (g d).map (f d))) es1)
    (hs : ∀ x, foldedSetIterable iter X.env x = pure x := by with_unfolding_all (intro _; rfl)) (hs1 : ∀ env x, foldedSetIterable iter1 env x = pure x := by with_unfolding_all (intro _ _; rfl)) :
    EvE X B (.ListComp elt [⟨tg, iter, [], 0⟩, ⟨tg1, iter1, [], 0⟩] scope pos) es P := fun σ F H o bd Q k =>
  wE.of (pe_lc2 (vs1 := vs1) hc hN pi_w ok hv pg_B pts_B pi_B pg_B pts_B pe_B hs hs1) (by
    refine h σ F H o bd _ fun J items es1 F1 H1 p1 it o1 t1 => ?_
    obtain ⟨hb, hz, hT, hP⟩ := p1
    generalize hvs : own.map (·.2) = vs at hb hT hv
    have bd1 := bd.tr t1
    have c1 : Clear es1 vs := hb.clear
    have ow1 : Ok X.K es1 (wipe σ vs) F1 H1 := by
      have z := ok_blank (vs := vs) o1
      rw [hb.eq] at z; exact z
    intro Dl nD
    refine ⟨fun i m Hi => i ≤ items.length ∧ m = items.length - i ∧ ∃ F2, Grow X.K es1 (wipe σ vs) F1 H1 Dl ((items.take i).flatMap fun d => (g d).map (f d)) es1 F2 Hi, ⟨items.length, Nat.zero_le _, rfl, F1, ow1.newH nD, Tr.newH ow1 nD, nD, Same.back o1.sub nD, [], upd_same, .nil⟩, ?_⟩
    rintro i m Hi ⟨hi, rfl, F2, gr⟩
    have s12 : Same F1 Hi := gr.tr.exF.trans gr.ok.sub
    by_cases hlt : i < items.length
    · refine .inr ⟨it.go i Hi hlt s12, fun Hn => ∃ F2, Grow X.K es1 (wipe σ vs) F1 H1 Dl ((items.take (i + 1)).flatMap fun d => (g d).map (f d)) es1 F2 Hn, fun Hn ⟨F', g'⟩ => ⟨items.length - (i + 1), by omega, hlt, rfl, F', g'⟩, fun x Hy y => ?_⟩
      obtain ⟨d, hd'⟩ : ∃ d, items[i]? = some d := ⟨_, List.getElem?_eq_getElem hlt⟩
      have etake : items.take (i + 1) = items.take i ++ [d] := take_get hd'
      have elen : ((items.take i).flatMap fun d => (g d).map (f d)).length + (g d).length ≤ sizeLine := by
        have e1 : items = items.take (i + 1) ++ items.drop (i + 1) := (List.take_append_drop _ _).symm
        rw [e1, etake, List.flatMap_append, List.flatMap_append, List.length_append, List.length_append, List.flatMap_singleton, List.length_map] at hz
        omega
      obtain ⟨F3, g3, q3⟩ := gr.yield ow1 it hd' y
      have turn := hT d (List.mem_of_getElem? hd')
      intro s H C cl fp
      refine turn s H C cl fp _ F3 Hy x g3.ok q3 _ fun σ3 es3 p3 o3 a3 => ?_
      obtain ⟨hbl, hb1, turn2⟩ := p3
      have ww : wipe σ3 vs = wipe σ vs := a3.wp.trans wipe_idem
      refine ⟨ww, fun s H C cl fp => wTs.of pts_nil ?_⟩
      dsimp only [tYes]
      rw [if_pos rfl]
      have bd3 : Bd B es3 σ3 F3 Hy := ((bd_wipe c1 bd1).tr g3.tr).asg a3
      intro s' H' C' cl' fp'
      refine turn2 s' H' C' cl' fp' σ3 F3 Hy o3 bd3 _ fun J1 its es4 F4 H4 p4 it1 o4 t4 => ?_
      obtain ⟨rfl, rfl, turn3⟩ := p4
      have c3 : Clear es4 vs1 := hb1.clear
      have o4w : Ok X.K es4 (wipe σ3 vs1) F4 H4 := by
        have z := ok_blank (vs := vs1) o4
        rw [hb1.eq] at z; exact z
      -- es4 over the wiped places
      have back : ∀ {F5 H5 : Hp}, Ok X.K es4 (wipe σ3 vs1) F5 H5 → Ok X.K es1 (wipe σ vs) F5 H5 := fun {F5 H5} z => by
        have z' := ok_blank (vs := vs) z
        rw [hbl, wipe_sub hv, ww] at z'
        exact z'
      have a3w : AsgR vs es1 (wipe σ vs) es4 (wipe σ3 vs1) := by
        refine ⟨by rw [wipe_sub hv]; exact a3.wp, a3.own, fun i t ds z => ?_⟩
        have n : i ∉ vs1 := fun z' => c1 i t ds (hv i z') z
        rw [wipe_out' n]
        exact a3.keep i t ds z
      have noD : ∀ {F5 H5 : Hp} {acc : List HL.D}, Grow X.K es1 (wipe σ vs) F1 H1 Dl acc es1 F5 H5 → ¬ Ow es4 (wipe σ3 vs1) Dl := fun gg ⟨i, t, ds, v, z1, z2, z3⟩ =>
        gg.notOw ow1 ⟨i, t, ds, v, (a3w.own i t ds).mpr z1, by rw [← a3w.keep i t ds ((a3w.own i t ds).mpr z1)]; exact z2, z3⟩
      have g4 : Grow X.K es1 (wipe σ vs) F1 H1 Dl ((items.take i).flatMap fun d => (g d).map (f d)) es1 F4 H4 := by
        have z := Tr.turn c1 ww a3 t4
        rw [hbl] at z
        exact g3.step ow1 z (back o4w)
      have bd4 : Bd B es4 σ3 F4 H4 := bd3.tr t4
      refine ⟨fun j k Hj => j ≤ (g d).length ∧ k = (g d).length - j ∧ ∃ F5, Same F4 F5 ∧ Grow X.K es1 (wipe σ vs) F1 H1 Dl (((items.take i).flatMap fun d => (g d).map (f d)) ++ ((g d).take j).map (f d)) es1 F5 Hj ∧ Ok X.K es4 (wipe σ3 vs1) F5 Hj ∧ Bd B es4 (wipe σ3 vs1) F5 Hj, ⟨(g d).length, Nat.zero_le _, rfl, F4, Same.refl F4, by rw [List.take_zero, List.map_nil, List.append_nil]; exact g4, o4w, bd_wipe c3 bd4⟩, ?_⟩
      rintro j kk Hj ⟨hj, rfl, F5, s45, g5, o5, b5⟩
      have s4j : Same F4 Hj := s45.trans o5.sub
      by_cases hlt2 : j < (g d).length
      · refine .inr ⟨it1.go j Hj hlt2 s4j, fun Hn => ∃ F5, Same F4 F5 ∧ Grow X.K es1 (wipe σ vs) F1 H1 Dl (((items.take i).flatMap fun d => (g d).map (f d)) ++ ((g d).take (j + 1)).map (f d)) es1 F5 Hn ∧ Ok X.K es4 (wipe σ3 vs1) F5 Hn ∧ Bd B es4 (wipe σ3 vs1) F5 Hn, fun Hn ⟨F', z⟩ => ⟨(g d).length - (j + 1), by omega, hlt2, rfl, F', z⟩, fun x2 Hz y2 => ?_⟩
        obtain ⟨d2, hd2⟩ : ∃ d2, (g d)[j]? = some d2 := ⟨_, List.getElem?_eq_getElem hlt2⟩
        obtain ⟨nt, turn4⟩ := turn3 d2 (List.mem_of_getElem? hd2)
        obtain ⟨rfl, qx⟩ : Hz = Hj ∧ Rp F5 x2 d2 := by
          rcases it1.yld j Hj x2 Hz d2 hd2 s4j y2 with ⟨e, q⟩ | ⟨_, _, _, ds, _, _, _, _, _, e, _⟩
          · exact ⟨e, Rp.mono s45 _ _ q⟩
          · exact absurd e (nt ds)
        intro s H C cl fp
        refine turn4 s H C cl fp _ F5 Hz x2 o5 qx _ fun σ5 es5 p5 o6 a5 => ?_
        have ww5 : wipe σ5 vs1 = wipe σ3 vs1 := a5.wp.trans wipe_idem
        refine ⟨ww5, fun s H C cl fp => wTs.of pts_nil ?_⟩
        dsimp only [tYes]
        rw [if_pos rfl]
        intro s'' H'' C'' cl'' fp''
        refine (ee_fz (P := fun r es6 => r = .val (f d d2) ∧ blank es6 vs1 = es4) (p5 s'' H'' C'' cl'' fp'')) σ5 F5 Hz o6 (b5.asg a5) _ fun v6 r6 es6 F6 H6 p6 q6 o7 t6 => ?_
        obtain ⟨rfl, hbl6⟩ := p6
        have o7w : Ok X.K es4 (wipe σ3 vs1) F6 H6 := by
          have z := ok_blank (vs := vs1) o7
          rw [hbl6, ww5] at z
          exact z
        have t7 : Tr es4 (wipe σ3 vs1) F5 Hz es4 F6 H6 := by
          have z := Tr.turn c3 ww5 a5 t6
          rw [hbl6] at z; exact z
        have t8 : Tr es1 (wipe σ vs) F5 Hz es1 F6 H6 := by
          have z := Tr.turn (σ := σ) c1 (by rw [wipe_sub hv]; exact ww) a3w t7
          rw [hbl] at z; exact z
        have g6 := g5.step ow1 t8 (back o7w)
        obtain ⟨vacc, e1, e2, g7⟩ := g6.add (d := f d d2) (y := v6) ow1 q6 (by rw [List.length_append, List.length_map, List.length_take]; omega)
        refine ⟨vacc, e1, e2, F6, s45.trans t6.exF, ?_, o7w.updD (noD g6) g6.fD, ?_⟩
        · rw [take_get hd2, List.map_append, ← List.append_assoc]
          exact g7
        · have b7 := b5.tr t7
          refine ⟨b7.exF, b7.new, fun a ob z n => ?_, fun a z z' => ?_, b7.ow, b7.par, b7.opar, b7.tp, b7.tg⟩
          · by_cases e : a = Dl
            · subst e
              have := bd1.dom a (by rw [z]; exact nofun)
              exact absurd nD this
            · rw [upd_ne e]; exact b7.fr a ob z n
          · by_cases e : a = Dl
            · subst e
              rw [upd_same] at z'; cases z'
            · rw [upd_ne e] at z'; exact b7.dom a z z'
      · have e : j = (g d).length := by omega
        subst e
        refine .inl ⟨it1.stop Hj s4j, F5, ?_⟩
        rw [etake, List.flatMap_append, List.flatMap_singleton]
        rw [List.take_length] at g5
        exact g5
    · have e : i = items.length := by omega
      subst e
      refine .inl ⟨it.stop Hi s12, ?_⟩
      obtain ⟨vacc, h1, h2⟩ := gr.hD
      rw [List.take_length] at h2
      have t2 : Tr es1 σ F1 H1 es1 F2 Hi := (tr_wipe c1 c1).mp gr.tr
      have o2 : Ok X.K es1 σ F2 Hi := by
        refine ⟨by have z := gr.ok.len; rw [wipe_length] at z; exact z, fun j en he => ?_, fun j1 j2 x k1 k2 => ?_, gr.ok.sub⟩
        · have z := gr.ok.slot j en he
          by_cases hj : j ∈ vs
          · rw [hb j hj (List.getElem?_eq_some_iff.mp he).1] at he
            cases he
            trivial
          · rw [wipe_out' hj] at z; exact z
        · exact gr.ok.sep j1 j2 x ((at_wipe c1).mpr k1) ((at_wipe c1).mpr k2)
      refine k (.ref Dl) (.new _) es1 F2 Hi hP ⟨Dl, vacc, rfl, trivial, ?_, gr.fD, h1, h2⟩ o2 (t1.trans t2)
      show H Dl = none
      cases q : H Dl with
      | none => rfl
      | some ob => exact absurd nD (t1.dom Dl (by rw [q]; exact nofun)))
end
end HL

set_option Elab.async false
set_option linter.all false
set_option maxRecDepth 100000
set_option maxHeartbeats 4000000
set_option autoImplicit false
namespace HL
open PySem PySem.Spec PyProof.Rows L2
section
variable {X : Cx} {B : Bs} {es : List En} {e oa ia ob ib : Expr} {pos pa pb pt : Pos} {kt : Nat} {D : Dn}
/-- what a store at a subscript does -/
abbrev AsgSub (X : Cx) (o a : Expr) (p : Pos) : Prop := ∀ v, assign (.Subscript o a p) X.env v = (do
      let ov ← holding [v] (eval o X.env)
      let iv ← holding [v, ov] (eval a X.env)
      standAt p
      holding [v, ov, iv] (setItem ov iv v)
      release [v, ov, iv] [])
/-- x[i], x[j] = e in a list of ours -/
theorem es_put2 {sl : Nat} (hc : X.calm = true) (h : EvE X B e es (fun r es1 => ∃ d1 d2, frz r = .val (.tuple [d1, d2]) ∧ EvE X B oa es1 (fun r0 es2 => r0 = .sl sl ∧ EvE X B ia es2 (fun r1 es3 => ∃ ds n j, r1 = .val (.int n) ∧ es3[sl]? = some (.own ds) ∧ ixN ds.length n = some j ∧
      EvE X B ob (es3.set sl (.own (ds.set j d1))) (fun r0 es4 => r0 = .sl sl ∧ EvE X B ib es4 (fun r1 es5 => ∃ ds2 n2 j2, r1 = .val (.int n2) ∧ es5[sl]? = some (.own ds2) ∧ ixN ds2.length n2 = some j2 ∧ D.nx (es5.set sl (.own (ds2.set j2 d2)))))))))
    (ha : AsgSub X oa ia pa := by with_unfolding_all (intro _; rfl)) (hb : AsgSub X ob ib pb := by with_unfolding_all (intro _; rfl))
    (hs : swapsWithSole [.Tuple [.Subscript oa ia pa, .Subscript ob ib pb] kt pt] e pos.line X.env = pure false := by with_unfolding_all rfl) (hw : swappedStores [.Tuple [.Subscript oa ia pa, .Subscript ob ib pb] kt pt] e X.env = pure none := by with_unfolding_all rfl)
    (h1 : (assignEach [.Tuple [.Subscript oa ia pa, .Subscript ob ib pb] kt pt] X.env).map (·.2) = [assign (.Tuple [.Subscript oa ia pa, .Subscript ob ib pb] kt pt) X.env] := by with_unfolding_all rfl)
    (hn : (assignEach [.Subscript oa ia pa, .Subscript ob ib pb] X.env).length = 2 := by with_unfolding_all rfl) (hst : (assignEach [.Subscript oa ia pa, .Subscript ob ib pb] X.env).findIdx? (·.1) = none := by with_unfolding_all rfl)
    (hs1 : (assignEach [.Subscript oa ia pa, .Subscript ob ib pb] X.env).map (·.2) = assign (.Subscript oa ia pa) X.env :: (assignEach [.Subscript ob ib pb] X.env).map (·.2) := by with_unfolding_all rfl)
    (hs2 : (assignEach [.Subscript ob ib pb] X.env).map (·.2) = assign (.Subscript ob ib pb) X.env :: (assignEach [] X.env).map (·.2) := by with_unfolding_all rfl) :
    EvS X B (.Assign [.Tuple [.Subscript oa ia pa, .Subscript ob ib pb] kt pt] e pos) es D := fun σ F H ok bd E k =>
  wS.of (ps_asg pe_w (pg_tup hc (pgs_cons (pg_sub pe_w pe_w set_list ha) (pgs_cons (pg_sub pe_w pe_w set_list hb) pgs_nil hs2) hs1) hn hst) hs hw h1)
    ((ee_fz (P := fun r es1 => ∃ d1 d2, r = .val (.tuple [d1, d2]) ∧ EvE X B oa es1 (fun r0 es2 => r0 = .sl sl ∧ EvE X B ia es2 (fun r1 es3 => ∃ ds n j, r1 = .val (.int n) ∧ es3[sl]? = some (.own ds) ∧ ixN ds.length n = some j ∧
      EvE X B ob (es3.set sl (.own (ds.set j d1))) (fun r0 es4 => r0 = .sl sl ∧ EvE X B ib es4 (fun r1 es5 => ∃ ds2 n2 j2, r1 = .val (.int n2) ∧ es5[sl]? = some (.own ds2) ∧ ixN ds2.length n2 = some j2 ∧ D.nx (es5.set sl (.own (ds2.set j2 d2)))))))) h) σ F H ok bd _ fun v r es1 F1 H1 p1 q1 o1 t1 => by
    obtain ⟨d1, d2, rfl, p1⟩ := p1
    cases q1 with
    | tup g1 g2 =>
      rename_i ap vs
      cases g2 with
      | cons r1 g3 =>
        rename_i xv xvs
        cases g3 with
        | cons r2 g4 =>
          cases g4
          refine ⟨_, _, rfl, (g1.mono o1.sub).seq, rfl, _, _, rfl, ?_⟩
          refine p1 σ F1 H1 o1 (bd.tr t1) _ fun v0 r0 es2 F2 H2 p2 q2 o2 t2 => ?_
          obtain ⟨rfl, p2⟩ := p2
          refine p2 σ F2 H2 o2 (bd.tr (t1.trans t2)) _ fun v1 r1' es3 F3 H3 p3 q3 o3 t3 => ?_
          obtain ⟨ds, n, j, rfl, hi, hj, p⟩ := p3
          cases q3
          have q0 : σ[sl]? = some (some v0) := q2
          obtain ⟨lp, ws, rfl, hl, hh, ra⟩ := own_at (N := NT) o3 hi (show RsOk NT F3 H3 σ v0 (.sl sl) from q0)
          have s3 : Same F1 F3 := t2.exF.trans t3.exF
          have qv := Rp.mono s3 _ _ r1
          have b3 := bd.tr (t1.trans (t2.trans t3))
          have om := o3.mut hi hl (ra.set qv j)
          have bm := b3.tr (Tr.mut (ds' := ds.set j d1) (vs' := ws.set j xv) o3 hi hl)
          refine ⟨lp, ws, n, j, rfl, rfl, hh, by rw [ra.length]; exact hj, _, _, rfl, ?_⟩
          refine p σ F3 _ om bm _ fun v4 r4 es4 F4 H4 p4 q4 o4 t4 => ?_
          obtain ⟨rfl, p4⟩ := p4
          refine p4 σ F4 H4 o4 (bm.tr t4) _ fun v5 r5 es5 F5 H5 p5 q5 o5 t5 => ?_
          obtain ⟨ds2, n2, j2, rfl, hi2, hj2, pp⟩ := p5
          cases q5
          have q0' : σ[sl]? = some (some v4) := q4
          obtain ⟨lp2, ws2, rfl, hl2, hh2, ra2⟩ := own_at (N := NT) o5 hi2 (show RsOk NT F5 H5 σ v4 (.sl sl) from q0')
          have s5 : Same F1 F5 := s3.trans (t4.exF.trans t5.exF)
          have qw := Rp.mono s5 _ _ r2
          exact ⟨lp2, ws2, n2, j2, rfl, rfl, hh2, by rw [ra2.length]; exact hj2, rfl, k.nx _ σ F5 _ pp (o5.mut hi2 hl2 (ra2.set qw j2)) ((bm.tr (t4.trans t5)).tr (Tr.mut o5 hi2 hl2)) (t1.exF.trans s5)⟩)
end
end HL

set_option Elab.async false
set_option linter.all false
set_option maxRecDepth 100000
set_option maxHeartbeats 4000000
set_option autoImplicit false
namespace HL
open PySem PySem.Spec PyProof.Rows L2
theorem code_iff {B : Int} : ∀ {a b : List Int}, a.length = b.length → TS.Bd B a → TS.Bd B b → (TS.code B a < TS.code B b ↔ a < b)
  | [], [], _, _, _ => by simp
  | x :: a, y :: b, h, h1, h2 => by
    have hl : a.length = b.length := by simpa using h
    rw [List.cons_lt_cons_iff]
    rcases Int.lt_trichotomy x y with hxy | hxy | hxy
    · exact ⟨fun _ => .inl hxy, fun _ => TS.code_lt hl h1.tail h2.tail hxy⟩
    · subst hxy
      rw [TS.code_same hl, code_iff hl h1.tail h2.tail]
      exact ⟨fun z => .inr ⟨rfl, z⟩, fun z => z.elim (fun q => absurd q (Int.lt_irrefl _)) (·.2)⟩
    · have := TS.code_lt hl.symm h2.tail h1.tail hxy
      exact ⟨fun z => absurd (Int.lt_trans z this) (Int.lt_irrefl _), fun z => z.elim (fun q => absurd (Int.lt_trans q hxy) (Int.lt_irrefl _)) fun q => absurd (q.1 ▸ hxy) (Int.lt_irrefl _)⟩
theorem ks_of {F : Hp} : ∀ {ls : List (List Int)} {vs : List V}, RpAll F vs (ls.map tupL) → ∃ ks : List (Addr × List Int), vs = ks.map (fun p => V.ref p.1) ∧ ls = ks.map (·.2) ∧ ∀ p ∈ ks, TupM F p.1 (p.2.map V.int)
  | [], vs, ra => by cases ra; exact ⟨[], rfl, rfl, nofun⟩
  | l :: ls, vs, ra => by
    cases ra with
    | cons h1 h2 =>
      obtain ⟨ks, e1, e2, h3⟩ := ks_of h2
      cases h1 with
      | tup g1 g2 =>
        rename_i a ws
        rw [g2.toInts] at g1
        refine ⟨(a, l) :: ks, by rw [e1]; rfl, by rw [e2]; rfl, fun p hp => ?_⟩
        rcases List.mem_cons.mp hp with rfl | hp
        · exact g1
        · exact h3 p hp
theorem rp_ks {F : Hp} : ∀ {ks : List (Addr × List Int)}, (∀ p ∈ ks, TupM F p.1 (p.2.map V.int)) → RpAll F (ks.map fun p => V.ref p.1) ((ks.map (·.2)).map tupL)
  | [], _ => .nil
  | p :: ks, h => .cons (.tup (h p List.mem_cons_self) (RpAll.ints _)) (rp_ks fun q hq => h q (List.mem_cons_of_mem _ hq))
section
variable {X : Cx} {B : Bs} {es : List En} {e : Expr} {p1 p2 pos pos2 : Pos} {P : Rs → List En → Prop} {r : Rs}
theorem ee_lenSet (hc : X.calm = true) (hg : Gl X "len") (hm : X.mg "len" = none) (hg2 : Gl X "set") (hm2 : X.mg "set" = none)
    (h : EvE X B e es fun r es1 => ∃ ns : List Int, den es1 r = some (.list (ns.map .int)) ∧ ns.length < 64 ∧ ns.Nodup ∧ P (.val (.int ns.length)) es1)
    (na : starEach [e] X.env = (false, eval e X.env) :: starEach [] X.env := by with_unfolding_all rfl) : EvE X B (.Call (.Name "len" p1) [.Call (.Name "set" p2) [e] [] pos2] [] pos) es P := fun σ F H o bd Q k =>
  wE.of (pe_lenSetI hc hg hm hg2 hm2 pe_w na) (h σ F H o bd _ fun v r es1 F1 H1 q1 v1 o1 t1 => by
    obtain ⟨ns, hd, hl, hn, q⟩ := q1
    obtain ⟨a, vs, rfl, e1, ra⟩ := v1.seqL o1 hd
    rw [ra.toInts] at e1
    exact ⟨a, ns, rfl, e1, hl, hn, k _ _ es1 F1 H1 q (.int _) o1 t1⟩)
theorem ee_sortedSetL (hc : X.calm = true) (hu : X.A.units + 64 < cLine) (hg1 : Gl X "sorted") (hm1 : X.mg "sorted" = none) (hg2 : Gl X "set") (hm2 : X.mg "set" = none) (M : Int)
    (h : EvE X B e es fun r es1 => ∃ (ls : List (List Int)) (d : Nat), den es1 r = some (.list (ls.map tupL)) ∧ ls.length < 64 ∧ 1 ≤ d ∧ (∀ l ∈ ls, l.length = d ∧ ∀ x ∈ l, 0 ≤ x ∧ x ≤ M) ∧
      ∀ out : List (List Int), out.Nodup → (∀ l, l ∈ out ↔ l ∈ ls) → out.Pairwise (· ≤ ·) → P (.new (out.map tupL)) es1)
    (hs : starEach [e] X.env = [(false, eval e X.env)] := by with_unfolding_all rfl)
    (hs2 : starEach [Expr.Call (.Name "set" p2) [e] [] pos2] X.env = [(false, eval (Expr.Call (.Name "set" p2) [e] [] pos2) X.env)] := by with_unfolding_all rfl)
    (hpl : (backTo pos (starEach [] X.env)).any (·.1) = false := by with_unfolding_all rfl) (hpl2 : (backTo pos2 (starEach [] X.env)).any (·.1) = false := by with_unfolding_all rfl) :
    EvE X B (.Call (.Name "sorted" p1) [.Call (.Name "set" p2) [e] [] pos2] [] pos) es P := fun σ F H o bd Q k =>
  wE.of (pe_callB (cr_sortedT hc) hg1 hm1 b_sorted (pa_cons (pe_callTy (cr_setOfT hc hu) hg2 hm2 b_set (pa_cons pe_w pa_nil hs) (by decide) (by decide) hs hpl2) pa_nil hs2) (by decide) (by decide) hs2 hpl) (h σ F H o bd _ fun v r es1 F1 H1 q1 v1 o1 t1 => by
    obtain ⟨ls, d, hd, hl, hd1, hb, q⟩ := q1
    obtain ⟨a1, vs, rfl, g1, ra⟩ := v1.seqL o1 hd
    obtain ⟨ks, rfl, rfl, hk⟩ := ks_of ra
    refine ⟨a1, ks, rfl, g1, fun p hp => ((hk p hp).mono o1.sub).seq, by simpa using hl, fun a L ha hL1 hL2 => ?_⟩
    have o2 : Ok X.K es1 σ F1 (upd H1 a (SetTO X.prog X.w a L)) := o1.newH ha
    have bdL : ∀ p ∈ L, p.2.length = d ∧ TS.Bd (M + 1) p.2 := fun p hp => by
      have := hb p.2 (List.mem_map_of_mem (hL1 p hp))
      exact ⟨this.1, fun x hx => by have := this.2 x hx; omega⟩
    refine ⟨a, L, d, M + 1, rfl, upd_same, fun p hp => ((hk p (hL1 p hp)).mono o2.sub).seq, hd1, bdL, fun L' pp pm hn _ hpw hp => ?_⟩
    refine k_lst (P := P) (fun v r es' F' H' p q o t => k v r es' F' H' p (q.weak fun a z => by
      cases e : H a with
      | none => exact e
      | some ob =>
        exfalso
        refine (t1.trans (Tr.newH o1 ha)).dom a (by rw [e]; exact nofun) z) o ((t1.trans (Tr.newH o1 ha)).trans t)) o2 (q (L'.map (·.2)) hn (fun l => ?_) ?_) (rp_ks fun p hp => hk p (hL1 p (pm.mem_iff.mp hp))) hp
    · constructor
      · intro h
        obtain ⟨p, hp, rfl⟩ := List.mem_map.mp h
        exact List.mem_map_of_mem (hL1 p (pm.mem_iff.mp hp))
      · intro h
        obtain ⟨p, hp, rfl⟩ := List.mem_map.mp h
        exact ((pm.map (·.2)).mem_iff).mpr (hL2 p hp)
    · rw [List.pairwise_map]
      refine List.Pairwise.imp_of_mem (fun {x y} hx hy hxy => ?_) hpw
      have bx := bdL x (pm.mem_iff.mp hx)
      have yb := bdL y (pm.mem_iff.mp hy)
      refine List.not_lt.mp fun z => ?_
      have := (code_iff (by rw [bx.1, yb.1]) yb.2 bx.2).mpr z
      omega)
end
end HL

set_option Elab.async false
set_option linter.all false
set_option maxRecDepth 100000
set_option maxHeartbeats 4000000
set_option autoImplicit false
namespace HL
open PySem PySem.Spec PyProof.Rows L2
section
variable {X : Cx} {B : Bs} {es : List En} {σ : L2.St} {F H : Hp} {o e : Expr} {pos apos : Pos} {P : Rs → List En → Prop}
theorem Ok.put {K : Fg} (ok : Ok K es σ F H) {l : Addr} {ob : HO} (f : F l = none) (n : ¬ Ow es σ l) : Ok K es σ F (upd H l ob) := ok.updD n f
/-- xs.append(d) of a list nobody else holds -/
theorem ee_appN {p : Pos} (h : EvE X B o es fun r0 es1 => ∃ ds, r0 = .new ds ∧ ds.length < sizeLine ∧ EvE X B e es1 fun r es2 => ∃ d, r = .val d ∧ P (.val .none) es2)
    (hbase : attributeBase o "append" X.env (eval o X.env) = eval o X.env := by with_unfolding_all rfl)
    (hfew : ((backTo pos (starEach [e] X.env)).all (fun x => !x.1) && (backToKw pos (keywordEach [] X.env)).all (fun x => x.1.isSome)
      && decide ([e].length + ([] : List Keyword).length + (if ([] : List Keyword).isEmpty then 0 else 1) < 30)) = true := by with_unfolding_all rfl)
    (hline : (apos.endLine == pos.line) = true := by with_unfolding_all rfl) (hs : starEach [e] X.env = (false, eval e X.env) :: starEach [] X.env := by with_unfolding_all rfl) (hplain : (backTo pos (starEach [] X.env)).any (·.1) = false := by with_unfolding_all rfl) :
    EvE X B (.Call (.Attribute o "append" apos) [e] [] pos) es P := fun σ F H ok bd Q k =>
  wE.of (pe_bm PySem.F.plainAttrs_list PySem.F.slot_list_append PySem.F.type_list_append mt_append pe_w (pa_cons pe_w pa_nil hs) hbase hfew hline hs hplain) (h σ F H ok bd _ fun v r0 es1 F1 H1 p1 q1 o1 t1 => by
    obtain ⟨ds, rfl, hz, p1⟩ := p1
    obtain ⟨l, ws, pt, _, n, f1, hh, ra⟩ := q1
    have pt : v = .ref l := pt
    subst pt
    refine ⟨.inl ⟨rfl, _, SqL.of hh⟩, ?_⟩
    refine p1 σ F1 H1 o1 (bd.tr t1) _ fun v2 r2 es2 F2 H2 p2 q2 o2 t2 => ?_
    obtain ⟨d, rfl, p⟩ := p2
    have n1 : ¬ Ow es1 σ l := fun z => by
      obtain ⟨_, ws', h'⟩ := ok.owned (t1.ow l z)
      rw [show H l = none from n] at h'; cases h'
    have n2 : ¬ Ow es2 σ l := fun z => n1 (t2.ow l z)
    have f2 : F2 l = none := t2.new l f1 (by rw [hh]; exact nofun)
    refine ⟨l, ws, v2, rfl, rfl, t2.fr l _ hh n1, by rw [ra.length]; exact hz, k .non (.val .none) es2 F2 _ p .non (o2.put f2 n2) ?_⟩
    have t := t1.trans t2
    exact ⟨t.exF, t.new, fun a x h n' => by
      have ne : a ≠ l := fun e => by rw [e, show H l = none from n] at h; cases h
      rw [upd_ne ne]; exact t.fr a x h n', fun a h z => by
      have ne : a ≠ l := fun e => by rw [e] at h; exact h n
      rw [upd_ne ne] at z; exact t.dom a h z, t.ow, t.own⟩)
end
end HL

set_option Elab.async false
set_option linter.all false
set_option maxRecDepth 100000
set_option maxHeartbeats 2000000
set_option autoImplicit false
namespace HX
open PySem PySem.Spec PyProof.Rows L2 L2H HotX
section
variable {prog : Program} {w : World} {A : Around} {E : Value → Shared → Prop} {s : Shared} {x1 : Addr}
theorem hot_moves {h h' : Heap} (hot : HotAt A x1 h) (k : ∀ o, h.get? x1 = some o → h'.get? x1 = some o) : HotAt A x1 h' := by
  obtain ⟨hh, o, vs, e, d, c⟩ := hot
  exact ⟨hh, o, vs, k o e, d, c⟩
theorem hot_ne {h : Heap} {b : Addr} {o : Obj} (hot : HotAt A x1 h) (hb : h.get? b = some o) (hd : ∀ vs, o.data = .fields vs → vs[2]? ≠ some .none) : x1 ≠ b := fun z => by
  subst z
  obtain ⟨_, o1, vs, e, d, c⟩ := hot
  rw [hb] at e
  cases e
  exact hd vs d c
/-- a tuple's iterator ends while an exception is handled -/
theorem next_tuple_endH {it t : Addr} {i : Nat} {items} {Q : Option Value → Shared → Prop} (hot : HotAt A x1 s.heap)
    (hit : IsTupIter s.heap it t i) (ht : IsTup s.heap t items) (hx : items[i]? = none)
    (hQ : ∀ h', Heap.ExtBut it s.heap h' → Q none { s with heap := h' }) : wpAny (model prog w) A (pyNext (.ref it)) Q E s := by
  obtain ⟨o, ho, hc, hd⟩ := id hit
  obtain ⟨ol, hol, _, nl, hdl⟩ := ht
  have hne : x1 ≠ it := hot_ne hot ho fun vs q => by rw [hd] at q; cases q; simp
  obtain ⟨hh, o1, v1, h1, d1, c1⟩ := hot
  unfold pyNext
  refine wpAny_bind (wpAny_attempt (wpAny_callSpecial?_slot (name := Str.ofString "__next__") hit.typeIs slot_tupleiter_next
    (wpAny_call_entry slot_tupleiter_next hit.typeIs entry_tupleiter_next ?_ (args_tupleiter_next _))))
  show wpAny _ _ (field (.ref it) 0 >>= _) _ _ s
  refine wpAny_bind (wpAny_field ho hd (x := .ref t) rfl ?_)
  show wpAny _ _ (if (Value.ref t == Value.none) = true then _ else _) _ _ s
  rw [if_neg (show ¬ ((Value.ref t == Value.none) = true) from Bool.false_ne_true)]
  show wpAny _ _ (field (.ref it) 1 >>= _) _ _ s
  refine wpAny_bind (wpAny_field ho hd (x := .int i 0) rfl ?_)
  show wpAny _ _ (seqItems? (.ref t) >>= _) _ _ s
  refine wpAny_bind (wpAny_seqItems hol hdl ?_)
  simp only [Int.toNat_natCast, hx]
  refine wpAny_bind (wpAny_rule (wpAny_bind (wpAny_setField ho hd (by simp) ?_)))
  show wpAny _ _ (newExc (.type "StopIteration") [] >>= _) _ _ _
  refine wpAny_bind ?_
  simp only [newExc, newTuple]
  refine wpAny_bind (wpAny_newObj_type ?_ (by size_fits))
  refine wpAny_bind (m := firstArgMember _ _) (wpAny_of_eq (a := Value.none) (by first | rfl | (simp only [firstArgMember]; rfl)) ?_)
  refine wpAny_newObj_type ?_ (by size_fits)
  have G := Heap.get?_push_of_some { cls := .type "StopIteration", data := .fields #[] } (Heap.get?_push_of_some { cls := .type "tuple", data := .seq #[] } ((Heap.get?_update_other s.heap (Obj.mapFields (·.setIfInBounds 0 Value.none)) (Ne.symm hne)).trans h1))
  refine raiseNew_hot ⟨hh, o1, v1, Heap.get?_push_of_some _ (Heap.get?_push_of_some _ ((Heap.get?_update_other _ _ (Ne.symm hne)).trans h1)), d1, c1⟩ (Nat.ne_of_lt (Heap.lt_size (Heap.get?_push_of_some _ ((Heap.get?_update_other _ _ (Ne.symm hne)).trans h1)))) (Heap.get?_push_size _ rfl) rfl (by first | (simp; done) | (simp; omega) | (simp only [Array.size_append]; simp; omega)) ?_
  refine wpAny_bind (wpAny_isInstance (T := "StopIteration") (b := true) ⟨_, Heap.get?_update_self _ (Heap.get?_push_size _ rfl) rfl, rfl⟩ isSubtype_stop ?_)
  refine wpAny_pure (hQ _ fun b u hb e => ?_)
  have g := Heap.get?_push_of_some { cls := .type "tuple", data := .seq #[] } ((Heap.get?_update_other s.heap (Obj.mapFields (·.setIfInBounds 0 Value.none)) (Ne.symm hb)).trans e)
  rw [Heap.get?_update_other _ _ (Nat.ne_of_gt (Heap.lt_size (Heap.get?_push_of_some _ ((Heap.get?_update_other _ _ (Ne.symm hb)).trans e))))]
  exact Heap.get?_push_of_some _ (Heap.get?_push_of_some _ ((Heap.get?_update_other _ _ (Ne.symm hb)).trans e))
theorem unpackItems_tupleH {t : Addr} {items : Array Value} {Q : List Value → Shared → Prop} (hot : HotAt A x1 s.heap) (ht : IsTup s.heap t items)
    (hQ : ∀ h', Heap.ExtBut s.heap.objs.size s.heap h' → Q items.toList { s with heap := h' }) : wpAny (model prog w) A (unpackItems (.ref t) items.size none) Q E s := by
  have hlt : t ≠ s.heap.objs.size := by obtain ⟨o, ho, _⟩ := ht; exact Nat.ne_of_lt (Heap.lt_size ho)
  unfold unpackItems
  refine wpAny_bind ?_
  · unfold notIterableAtAll
    refine wpAny_bind (wpAny_specialOf ht.typeIs slot_tuple_iter.lookup ?_)
    refine wpAny_pure ?_
    simp only [Bool.false_eq_true, if_false]
    refine wpAny_bind (wpAny_holding (iter_tuple ht ?_))
    refine wpAny_bind (wpAny_holding (draw_tuple hlt items.size 0 _ _ ⟨_, Heap.get?_push_size _ rfl, rfl, rfl⟩ (ht.push _) (by omega) fun h₁ hit₁ hs₁ => ?_))
    have hall : List.take items.size (List.drop 0 items.toList) = items.toList := by
      rw [List.drop_zero]; exact List.take_of_length_le (by simp)
    rw [hall]
    rw [if_neg (by simp)]
    have ht₁ : IsTup h₁ t items := (ht.push _).extBut hs₁.extBut hlt
    have hot₁ : HotAt A x1 h₁ := hot_moves hot fun o q => hs₁.extBut x1 o (Nat.ne_of_lt (Heap.lt_size q)) (Heap.get?_push_of_some _ q)
    refine wpAny_bind (wpAny_holding (next_tuple_endH (s := { s with heap := h₁ }) hot₁ hit₁ ht₁ (by simp) fun h₂ he₂ => ?_))
    simp only [Option.isSome_none, Bool.false_eq_true, if_false]
    refine wpAny_pure (hQ h₂ fun b o hb e => he₂ b o hb (hs₁.extBut b o hb (Heap.get?_push_of_some _ e)))
theorem assign_Tuple_tupleH {env : Env} {elts : List Expr} {k} {pos : Pos} {t : Addr} {items : Array Value} {Q : Unit → Shared → Prop} (hot : HotAt A x1 s.heap) (ht : IsTup s.heap t items)
    (hn : (assignEach elts env).length = items.size) (hstar : (assignEach elts env).findIdx? (·.1) = none)
    (h : ∀ h', Heap.ExtBut s.heap.objs.size s.heap h' → wpAny (model prog w) A (assignInOrder ((assignEach elts env).map (·.2)) items.toList) Q E { s with heap := h' }) :
    wpAny (model prog w) A (assign (.Tuple elts k pos) env (.ref t)) Q E s := by
  rw [assign_Tuple]
  refine wpAny_bind (wpAny_standAt ?_)
  unfold unpack
  rw [hn, hstar]
  exact wpAny_bind (wpAny_holding (unpackItems_tupleH hot ht h))
/-- a list's iterator ends within a zip -/
theorem nextOf_list_endH {it l : Addr} {i : Nat} {items} {Q : Value → Shared → Prop} (hot : HotAt A x1 s.heap)
    (hit : s.heap.IsListIter it l i) (hl : s.heap.IsList l items) (hx : items[i]? = none)
    (hE : ∀ h' e, Heap.ExtBut it s.heap h' → (∃ o, h'.get? e = some o ∧ o.cls = .type "StopIteration") → E (.ref e) { s with heap := h' }) :
    wpAny (model prog w) A (Builtin.SmallTypes.nextOf (.ref it)) Q E s := by
  obtain ⟨o, ho, hc, hd⟩ := id hit
  obtain ⟨ol, hol, _, nl, hdl⟩ := hl
  have hne : x1 ≠ it := hot_ne hot ho fun vs q => by rw [hd] at q; cases q; simp
  obtain ⟨hh, o1, v1, h1, d1, c1⟩ := hot
  unfold Builtin.SmallTypes.nextOf
  refine wpAny_bind (wpAny_callSpecial?_slot (name := Str.ofString "__next__") hit.typeIs slot_listiter_next
    (wpAny_call_entry slot_listiter_next hit.typeIs entry_listiter_next ?_ (args_listiter_next _)))
  show wpAny _ _ (field (.ref it) 0 >>= _) _ _ s
  refine wpAny_bind (wpAny_field ho hd (x := .ref l) rfl ?_)
  show wpAny _ _ (if (Value.ref l == Value.none) = true then _ else _) _ _ s
  rw [if_neg (show ¬ ((Value.ref l == Value.none) = true) from Bool.false_ne_true)]
  show wpAny _ _ (field (.ref it) 1 >>= _) _ _ s
  refine wpAny_bind (wpAny_field ho hd (x := .int i 0) rfl ?_)
  show wpAny _ _ (seqItems? (.ref l) >>= _) _ _ s
  refine wpAny_bind (wpAny_seqItems hol hdl ?_)
  simp only [Int.toNat_natCast, hx]
  refine wpAny_bind (wpAny_rule (wpAny_bind (wpAny_setField ho hd (by simp) ?_)))
  show wpAny _ _ (newExc (.type "StopIteration") [] >>= _) _ _ _
  refine wpAny_bind ?_
  simp only [newExc, newTuple]
  refine wpAny_bind (wpAny_newObj_type ?_ (by size_fits))
  refine wpAny_bind (m := firstArgMember _ _) (wpAny_of_eq (a := Value.none) (by first | rfl | (simp only [firstArgMember]; rfl)) ?_)
  refine wpAny_newObj_type ?_ (by size_fits)
  refine raiseNew_hot ⟨hh, o1, v1, Heap.get?_push_of_some _ (Heap.get?_push_of_some _ ((Heap.get?_update_other _ _ (Ne.symm hne)).trans h1)), d1, c1⟩ (Nat.ne_of_lt (Heap.lt_size (Heap.get?_push_of_some _ ((Heap.get?_update_other _ _ (Ne.symm hne)).trans h1)))) (Heap.get?_push_size _ rfl) rfl (by first | (simp; done) | (simp; omega) | (simp only [Array.size_append]; simp; omega)) ?_
  refine hE _ _ (fun b u hb e => ?_) ⟨_, Heap.get?_update_self _ (Heap.get?_push_size _ rfl) rfl, rfl⟩
  rw [Heap.get?_update_other _ _ (Nat.ne_of_gt (Heap.lt_size (Heap.get?_push_of_some _ ((Heap.get?_update_other _ _ (Ne.symm hb)).trans e))))]
  exact Heap.get?_push_of_some _ (Heap.get?_push_of_some _ ((Heap.get?_update_other _ _ (Ne.symm hb)).trans e))
/-- a zip of two lists ends -/
theorem pyNext_zip_endH {z TI TO i1 i2 l1 l2 : Addr} {k1 k2 : Nat} {xs ys : Array Value} {a b : Value} {Q : Option Value → Shared → Prop} (hot : HotAt A x1 s.heap) (D : ZipApart z TI TO i1 i2 l1 l2)
    (hz : IsZip s.heap z TI TO .none) (hTI : IsPair s.heap TI (.ref i1) (.ref i2)) (hTO : IsPair s.heap TO a b)
    (h1 : s.heap.IsListIter i1 l1 k1) (h2 : s.heap.IsListIter i2 l2 k2) (hl1 : s.heap.IsList l1 xs) (hl2 : s.heap.IsList l2 ys) (hend : xs[k1]? = none ∨ ys[k2]? = none)
    (hQ : ∀ h', (∀ c o, c ≠ z → c ≠ TO → c ≠ i1 → c ≠ i2 → s.heap.get? c = some o → h'.get? c = some o) → Q none { s with heap := h' }) : wpAny (model prog w) A (pyNext (.ref z)) Q E s := by
  have hT : s.TypeIs (.ref z) "zip" := ⟨_, hz, rfl⟩
  have nz : x1 ≠ z := hot_ne hot hz fun vs q => by cases q; simp
  have nTO : x1 ≠ TO := hot_ne hot hTO fun vs q => by cases q
  have n1 : x1 ≠ i1 := by
    obtain ⟨o, ho, _, hd⟩ := id h1
    exact hot_ne hot ho fun vs q => by rw [hd] at q; cases q; simp
  have n2 : x1 ≠ i2 := by
    obtain ⟨o, ho, _, hd⟩ := id h2
    exact hot_ne hot ho fun vs q => by rw [hd] at q; cases q; simp
  unfold pyNext
  have core : ∀ {Q' : Fin → Shared → Prop} {E' : Value → Shared → Prop}, (∀ h' e, (∀ c o, c ≠ z → c ≠ TO → c ≠ i1 → c ≠ i2 → s.heap.get? c = some o → h'.get? c = some o) → (∃ o, h'.get? e = some o ∧ o.cls = .type "StopIteration") → E' (.ref e) { s with heap := h' }) →
      ∀ A' : Around, HotAt A' x1 s.heap → wpAny (model prog w) A' (Builtin.«zip.__next__» ⟨[.ref z], []⟩) Q' E' s := by
    intro Q' E' hE A' hot
    show wpAny _ _ (field (.ref z) 2 >>= _) _ _ _
    refine wpAny_bind (wpAny_field hz rfl (x := .bool false) rfl ?_)
    show wpAny _ _ (field (.ref z) 3 >>= _) _ _ _
    refine wpAny_bind (wpAny_field hz rfl (x := .ref TI) rfl ?_)
    refine wpAny_bind (wpAny_seqItems hTI rfl ?_)
    show wpAny _ _ (Builtin.SmallTypes.ownedTupleIsFree (.ref z) >>= _) _ _ _
    refine wpAny_bind ?_
    unfold Builtin.SmallTypes.ownedTupleIsFree
    refine wpAny_bind (wpAny_field hz rfl (x := .none) rfl (wpAny_pure ?_))
    simp only [if_true]
    refine wpAny_bind (wpAny_rule ?_)
    refine wpAny_bind (wpAny_field hz rfl (x := .ref TO) rfl ?_)
    refine wpAny_bind (wpAny_setField_rec hz (by simp) fun h₁ hz₁ hs₁ => ?_)
    replace hz₁ : IsZip h₁ z TI TO .ellipsis := hz₁
    have hot₁ : HotAt A' x1 h₁ := hot_moves hot fun o q => hs₁.extBut x1 o nz q
    refine wpAny_bind ?_
    simp only [List.zipIdx_cons, List.zipIdx_nil, List.forIn_cons, List.forIn_nil]
    refine wpAny_bind (wpAny_bind (wpAny_onRaise ?_))
    show wpAny _ _ (Builtin.SmallTypes.nextOf (.ref i1) >>= _) _ _ _
    cases hx : xs[k1]? with
    | none =>
      refine wpAny_bind (nextOf_list_endH (s := { s with heap := h₁ }) hot₁ (h1.extBut hs₁.extBut D.i1z) (hl1.extBut hs₁.extBut D.l1z) hx fun h₂ e hs₂ he => ?_)
      obtain ⟨oe, hoe, hce⟩ := he
      have hz₂ : IsZip h₂ z TI TO .ellipsis := hs₂ _ _ D.i1z.symm hz₁
      have hez : e ≠ z := fun x => by subst x; rw [hz₂] at hoe; cases hoe; simp at hce
      refine wpAny_setField_rec hz₂ (by simp) fun h₃ _ hs₃ => hE h₃ e (fun c o c1 _ c3 _ x => hs₃.extBut _ _ c1 (hs₂ _ _ c3 (hs₁.extBut _ _ c1 x))) ⟨oe, hs₃.extBut _ _ hez hoe, hce⟩
    | some x =>
      have hy : ys[k2]? = none := by rcases hend with h | h; rw [hx] at h; cases h; exact h
      refine wpAny_bind (wpAny_nextOf_list_item (h1.extBut hs₁.extBut D.i1z) (hl1.extBut hs₁.extBut D.l1z) hx fun h₂ h1₂ hs₂ => wpAny_pure ?_)
      have hTO₂ : IsPair h₂ TO a b := hs₂.extBut _ _ D.TOi1 (hs₁.extBut _ _ D.TOz hTO)
      refine wpAny_bind (wpAny_seqItems hTO₂ rfl ?_)
      refine wpAny_bind (wpAny_updateSeq_pair hTO₂ fun h₃ hTO₃ hs₃ => ?_)
      refine wpAny_bind (wpAny_letGo (wpAny_pure ?_))
      refine wpAny_bind (wpAny_bind (wpAny_onRaise ?_))
      show wpAny _ _ (Builtin.SmallTypes.nextOf (.ref i2) >>= _) _ _ _
      have hot₃ : HotAt A' x1 h₃ := hot_moves hot₁ fun o q => hs₃.extBut x1 o nTO (hs₂.extBut x1 o n1 q)
      refine wpAny_bind (nextOf_list_endH (s := { s with heap := h₃ }) hot₃ (((h2.extBut hs₁.extBut D.i2z).extBut hs₂.extBut D.i12.symm).extBut hs₃.extBut D.TOi2.symm)
        (((hl2.extBut hs₁.extBut D.l2z).extBut hs₂.extBut D.l2i1).extBut hs₃.extBut D.l2TO) hy fun h₄ e hs₄ he => ?_)
      obtain ⟨oe, hoe, hce⟩ := he
      have hz₄ : IsZip h₄ z TI TO .ellipsis := hs₄ _ _ D.i2z.symm (hs₃.extBut _ _ D.TOz.symm (hs₂.extBut _ _ D.i1z.symm hz₁))
      have hez : e ≠ z := fun x => by subst x; rw [hz₄] at hoe; cases hoe; simp at hce
      refine wpAny_setField_rec hz₄ (by simp) fun h₅ _ hs₅ => hE h₅ e (fun c o c1 c2 c3 c4 x => hs₅.extBut _ _ c1 (hs₄ _ _ c4 (hs₃.extBut _ _ c2 (hs₂.extBut _ _ c3 (hs₁.extBut _ _ c1 x))))) ⟨oe, hs₅.extBut _ _ hez hoe, hce⟩
  refine wpAny_bind (wpAny_attempt (wpAny_callSpecial?_slot (name := Str.ofString "__next__") hT F.slot_zip_next
    (wpAny_call_entry F.slot_zip_next hT F.entry_zip_next (core (fun h' e hk he => ?_) _ hot) (F.args_zip_next_1 _))))
  obtain ⟨o, ho, hc⟩ := he
  refine wpAny_bind (wpAny_isInstance (T := "StopIteration") (b := true) ⟨o, ho, hc⟩ isSubtype_stop ?_)
  exact wpAny_pure (hQ _ hk)
end
end HX

set_option Elab.async false
set_option linter.all false
set_option maxRecDepth 100000
set_option maxHeartbeats 2000000
set_option autoImplicit false
namespace HX
open PySem PySem.Spec PyProof.Rows L2 L2H HotX
/-- (a, b, ..) = a tuple, while an exception is handled -/
theorem pg_tupH {X : Cx} {es : List Expr} {k : Nat} {t : TGs} {n : Nat} {pos : Pos} (hc : HotC X) (h : PGs X es t)
    (hn : (assignEach es X.env).length = n := by rfl) (hst : (assignEach es X.env).findIdx? (·.1) = none := by rfl) : PG X (.Tuple es k pos) (gTup X.K n t) := by
  refine ⟨fun pins s σ H v u Q I r hw => ?_⟩
  obtain ⟨a, xs, e1, hq, hl, hw⟩ := hw
  subst e1
  cases r
  obtain ⟨its, rv, ht, hz⟩ := I.tuple hq
  obtain ⟨x1, hot⟩ := hc.at I
  refine assign_Tuple_tupleH hot ht (by simp [hn, ← hl, rv.length]) hst fun h' hx => ?_
  have I1 : Inv X pins σ H { s with heap := h' } := I.kept (t' := s.toks) fun b o e => hx b o (Nat.ne_of_lt (Heap.lt_size e)) e
  exact h.run pins _ σ H xs _ Q I1 (by simpa using rv) hw
/-- the pairs of two lists, each a tuple without a dict -/
def ItzF (K : PySem.W.Frag) (a b : Addr) : It :=
  ⟨fun i H => ∃ (xs ys : List V) (x y : V), SqL K H a xs ∧ SqL K H b ys ∧ xs[i]? = some x ∧ ys[i]? = some y,
    fun i H v H' => ∃ T ob x y, v = .ref T ∧ H T = none ∧ ob.cls = .type "tuple" ∧ ob.dict = none ∧ H' = upd H T (.frz ob (.tup [x, y])) ∧ (∀ xs, SqL K H a xs → xs[i]? = some x) ∧ ∀ ys, SqL K H b ys → ys[i]? = some y,
    fun i H => ∃ xs ys : List V, SqL K H a xs ∧ SqL K H b ys ∧ (xs.length ≤ i ∨ ys.length ≤ i)⟩
def iZipF (K : PySem.W.Frag) (ta : TA) : TI := fun σ H R => ta σ H fun vs H1 => ∃ a b xs ys, vs = [.ref a, .ref b] ∧ SqL K H1 a xs ∧ SqL K H1 b ys ∧ R (ItzF K a b) H1
theorem turn_zipH {P : Program} {w : World} {K : PySem.W.Frag} {elts : List Expr} {kk : Nat} {tpos : Pos} {a b z TI TO i1 i2 : Addr} (D : ZipApart z TI TO i1 i2 a b) :
    TurnH P w K (.Tuple elts kk tpos) (ItzF K a b) [z, TI, TO, i1, i2] z (fun i h => IsZip h z TI TO .none ∧ IsPair h TI (.ref i1) (.ref i2) ∧ (∃ x y, IsPair h TO x y) ∧ h.IsListIter i1 a i ∧ h.IsListIter i2 b i) where
  mem := (turn_zip (P := P) (w := w) (K := K) (elts := elts) (kk := kk) (tpos := tpos) D).mem
  obj := (turn_zip (P := P) (w := w) (K := K) (elts := elts) (kk := kk) (tpos := tpos) D).obj
  keep := (turn_zip (P := P) (w := w) (K := K) (elts := elts) (kk := kk) (tpos := tpos) D).keep
  self := (turn_zip (P := P) (w := w) (K := K) (elts := elts) (kk := kk) (tpos := tpos) D).self
  item := by
    intro X hP hw hK hc i pins s σ H E I hf st hg
    subst hP hw hK
    obtain ⟨hz, hTI, ⟨x0, y0, hTO⟩, h1, h2⟩ := st
    obtain ⟨xs, ys, x, y, hqx, hqy, hx, hy⟩ := hg
    obtain ⟨its, rv, p, _⟩ := I.list hqx
    obtain ⟨its2, rv2, p2, _⟩ := I.list hqy
    obtain ⟨u, hu, ru⟩ := rv.get hx
    obtain ⟨u2, hu2, ru2⟩ := rv2.get hy
    have hzl : z < s.heap.objs.size := Heap.lt_size hz
    refine wpAny_pyNext_zip_item D hz hTI hTO h1 h2 p.isList p2.isList (x := u) (y := u2) (by simpa using hu) (by simpa using hu2) fun h' z' TO' h1' h2' hT hsz hk => ?_
    refine ⟨_, rfl, wpAny_letOwnedTupleGo_zip (s := { s with heap := h' }) z' fun h'' z'' sb => ?_⟩
    have hT2 : h''.get? s.heap.objs.size = some { cls := .type "tuple", data := .seq #[u, u2] } := (sb.2 _ (Nat.ne_of_gt hzl)).trans hT
    have new : ObjOk X.prog X.w (upd H s.heap.objs.size (.frz { cls := .type "tuple", data := .seq #[u, u2] } (.tup [x, y]))) h'' s.heap.objs.size (.frz { cls := .type "tuple", data := .seq #[u, u2] } (.tup [x, y])) :=
      ⟨hT2, by show 2 ≤ sizeLine; decide, [u, u2], .cons ru (.cons ru2 .nil), ⟨_, hT2, rfl, _, rfl⟩⟩
    have I1 : Inv X pins σ (upd H s.heap.objs.size (.frz { cls := .type "tuple", data := .seq #[u, u2] } (.tup [x, y]))) { s with heap := h'' } :=
      I.turnedNew (t' := s.toks) (ch := [z, TI, TO, i1, i2]) (fun c o hb q => (sb.2 c (fun q' => hb (by simp [q']))).trans (hk c o (fun q' => hb (by simp [q'])) (fun q' => hb (by simp [q'])) (fun q' => hb (by simp [q'])) (fun q' => hb (by simp [q'])) q)) hf (Nat.le_refl _) new
    refine ⟨.ref s.heap.objs.size, _, I1, rfl, ⟨_, { cls := .type "tuple", data := .seq #[u, u2] }, x, y, rfl, I.hok.fresh (Nat.le_refl _), rfl, rfl, rfl, fun l hl => by rw [I.list_inj hl hqx]; exact hx, fun l hl => by rw [I.list_inj hl hqy]; exact hy⟩, ⟨z'', ?_, ⟨u, u2, ?_⟩, ?_, ?_⟩, fun c hcm => ?_⟩
    · exact (sb.2 _ D.TIz).trans (hk _ _ D.TIz D.TITO D.TIi1 D.TIi2 hTI)
    · exact (sb.2 _ D.TOz).trans TO'
    · exact h1'.at fun o q => (sb.2 _ D.i1z).trans q
    · exact h2'.at fun o q => (sb.2 _ D.i2z).trans q
    · have hlt : c < s.heap.objs.size := by
        have e' : c = z ∨ c = TI ∨ c = TO ∨ c = i1 ∨ c = i2 := by simpa using hcm
        rcases e' with q | q | q | q | q
        · rw [q]; exact hzl
        · rw [q]; exact Heap.lt_size hTI
        · rw [q]; exact Heap.lt_size hTO
        · rw [q]; obtain ⟨_, e1, _⟩ := h1; exact Heap.lt_size e1
        · rw [q]; obtain ⟨_, e2, _⟩ := h2; exact Heap.lt_size e2
      rw [upd_ne (Nat.ne_of_lt hlt)]
      exact (hf c hcm).1
  done := by
    intro X hP hw hK hc i pins s σ H E I hf st hg
    subst hP hw hK
    obtain ⟨hz, hTI, ⟨x0, y0, hTO⟩, h1, h2⟩ := st
    obtain ⟨xs, ys, hqx, hqy, hend⟩ := hg
    obtain ⟨its, rv, p, _⟩ := I.list hqx
    obtain ⟨its2, rv2, p2, _⟩ := I.list hqy
    have l1 := rv.length
    have l2 := rv2.length
    have he : its.toArray[i]? = none ∨ its2.toArray[i]? = none := by
      rcases hend with q | q
      · exact .inl (by simp; omega)
      · exact .inr (by simp; omega)
    obtain ⟨x1, hot⟩ := hc.at I
    exact pyNext_zip_endH hot D hz hTI hTO h1 h2 p.isList p2.isList he fun h' hk => ⟨rfl, I.turnedL (t' := s.toks) (ch := [z, TI, TO, i1, i2]) (fun c o hb q =>
      hk c o (fun q' => hb (by simp [q'])) (fun q' => hb (by simp [q'])) (fun q' => hb (by simp [q'])) (fun q' => hb (by simp [q'])) q) hf⟩
theorem pi_zipH {X : Cx} {e e2 : Expr} {ta : TA} {p pos tpos : Pos} {elts : List Expr} {kk : Nat} (hg : Gl X "zip") (hm : X.mg "zip" = none) (ha : PA X [e, e2] ta)
    (hs : starEach [e, e2] X.env = (false, eval e X.env) :: starEach [e2] X.env := by rfl) (hpl : (backTo pos (starEach [e2] X.env)).any (·.1) = false := by rfl) :
    PIH X (.Tuple elts kk tpos) (.Call (.Name "zip" p) [e, e2] [] pos) (iZipF X.K ta) := by
  refine ⟨fun pins s σ H R I h => ?_⟩
  refine Call_ (ld_blt I hg hm PyProof.Rows.boot_zip (PyProof.Rows.callWith_type1 (thn (ha.run pos pins s σ H _ I h) fun us s1 ⟨vs, H1, I1, r1, q1⟩ => ?_) hs hpl))
  obtain ⟨a, b, xs, ys, ex, hqx, hqy, q⟩ := q1
  subst ex
  cases r1 with
  | cons r rr =>
    cases rr with
    | cons r' rr =>
      cases rr
      cases r
      cases r'
      obtain ⟨its, rv, p1, _⟩ := I1.list hqx
      obtain ⟨its2, rv2, p2, _⟩ := I1.list hqy
      refine call_zip_2 p1.isList p2.isList fun h' hz hTI hTO h1 h2 hsz hk => wpAny_pyIter_zip hz ?_
      have I2 : Inv X pins σ H1 { s1 with heap := h' } := I1.kept (t' := s1.toks) hk
      refine ⟨s1.heap.objs.size + 4, [s1.heap.objs.size + 4, s1.heap.objs.size + 2, s1.heap.objs.size + 3, s1.heap.objs.size, s1.heap.objs.size + 1], _, _, H1, rfl, I2, turn_zipH (PySem.W.ktu_apart s1.heap.objs.size a b p1.lt p2.lt), ⟨hz, hTI, ⟨_, _, hTO⟩, h1, h2⟩, fun c hcm => ?_, q⟩
      have e' : c = s1.heap.objs.size + 4 ∨ c = s1.heap.objs.size + 2 ∨ c = s1.heap.objs.size + 3 ∨ c = s1.heap.objs.size ∨ c = s1.heap.objs.size + 1 := by simpa using hcm
      have hle : s1.heap.objs.size ≤ c := by
        rcases e' with z | z | z | z | z <;> rw [z] <;> first | exact Nat.le_add_right _ _ | exact Nat.le_refl _
      exact I1.fpOk hle (I1.hok.fresh hle)
/-! ### a comprehension's block that knows of the handled exception -/
abbrev blkH (X : Cx) (p : Addr × Obj) (s : Shared) (H : Hp) (scope : Scope) (cenv : Env) (fp : List Addr) : Cx := { X.blk s H scope cenv fp with pn := [p] }
theorem hotBlk {X : Cx} {p : Addr × Obj} (h : Hot1 X.A p) {s : Shared} {H : Hp} {scope : Scope} {cenv : Env} {fp : List Addr} : HotC (blkH X p s H scope cenv fp) := ⟨p, h, List.mem_cons_self⟩
theorem block_startH {X : Cx} {pins : List (Addr × Obj)} {σ : L2.St} {H : Hp} {s : Shared} {scope : Scope} {own : List (Str × Nat)} {fp : List Addr} {p : Addr × Obj} (I : Inv X pins σ H s) (hp : p ∈ X.pn) (ok : BlkOk X.N X.env.scope scope own) (hN : X.N.Nodup) (hfp : ∀ b ∈ fp, FpOk X pins H b ∧ b < s.heap.objs.size) :
    Inv (blkH X p s H scope (compEnvC scope (cellsFrom (s.heap.objs.size + 1) scope.names (cloFrom X.env.cells scope.names [])) s.heap.objs.size X.env) fp) [] (wipe σ (own.map (·.2))) H { s with heap := pushCells (s.heap.push { cls := .type "dict", data := .dict #[] }) scope.names } := by
  have J := block_start I ok hN hfp
  have P1 := I.pin p (List.mem_append_left _ hp)
  refine ⟨⟨J.ok.mod, J.ok.kind, J.ok.glob, J.ok.blt, J.ok.above, J.ok.inj, J.ok.has, J.ok.cab, J.ok.hd, J.ok.frames, J.ok.stk, J.ok.exf, J.ok.bs, J.ok.bsz, J.ok.noex, J.ok.exfs, J.ok.funs, J.ok.frf⟩, J.os, J.bare, J.base, J.loc, J.cell, J.free, J.freeC, fun q hq => ?_, J.hok, J.len⟩
  have eq : q = p := by simpa using (show q ∈ [p] ++ ([] : List (Addr × Obj)) from hq)
  rw [eq]
  exact ⟨pushCells_keeps _ _ _ _ (Heap.get?_push_of_some _ P1.1), P1.2.1, Nat.ne_of_lt (Heap.lt_size P1.1), fun hm => (List.mem_cons.mp (I.stkSub p.1 hm)).elim P1.2.2.1 P1.2.2.2.1, P1.2.2.2.2⟩
section
variable {X : Cx}
theorem lc_coreH {p : Addr × Obj} {pins : List (Addr × Obj)} {s : Shared} {σ : L2.St} {H : Hp} {Q : VK} {elt tg iter : Expr} {ifs : List Expr} {scope : Scope} {own : List (Str × Nat)} {pos pos' : Pos} {wi : TI} {g : TG} {tt : TT} {te : TE} {use : Option (Value → Sem Unit)} {Qf : Value → Shared → Prop}
    (h1 : Hot1 X.A p) (hp : p ∈ X.pn) (hN : X.N.Nodup) (I : Inv X pins σ H s) (hi : PIH X tg iter wi) (ok : BlkOk X.N X.env.scope scope own)
    (hg : ∀ (s : Shared) (H : Hp) (C : Addr) (cl : List (Str × Addr)) (fp : List Addr), PG (blkH X p s H scope (compEnvC scope cl C X.env) fp) tg g) (ht : ∀ (s : Shared) (H : Hp) (C : Addr) (cl : List (Str × Addr)) (fp : List Addr), PTs (blkH X p s H scope (compEnvC scope cl C X.env) fp) ifs tt)
    (he : ∀ (s : Shared) (H : Hp) (C : Addr) (cl : List (Str × Addr)) (fp : List Addr), PE (blkH X p s H scope (compEnvC scope cl C X.env) fp) elt te) (hs : ∀ x, foldedSetIterable iter X.env x = pure x)
    (h : tLc wi g tt te (own.map (·.2)) σ H Q)
    (hRR : ∀ D C s' m H', Inv X pins σ H' s' → Q (.ref D) H' → s'.heap.Ns C m → FpOk X pins H' C → compPost (model X.prog X.w) X.A X.xe use Qf (.ref D) C (.ok .next) s') :
    wpAny (model X.prog X.w) X.A (comprehension (.ListComp elt [⟨tg, iter, ifs, 0⟩] scope pos) scope X.env pos' (newList []) false (eval iter X.env) use) Qf X.xe s := by
  have hfree : ∀ y ∈ scope.names, y.2 = .free → ∃ c, X.env.cells.lookup y.1 = some c := fun y hy e => by
    rcases ok.free y hy e with k | k
    · exact I.ok.has _ (.inl k)
    · exact I.ok.has _ (.inr k)
  refine wpAny_comprehension_free (use := use) rfl hs (closure_ok hfree) ok.kind (fun y hy e => by rw [ok.uniq y hy, e])
    (thn (hi.run pins s σ H _ I h) fun xv s1 hx => thn hx fun itv s2 h2 => ?_)
  obtain ⟨it, fp, tn, J, H2, e, I2, T, st2, f2, q⟩ := h2
  subst e
  refine wpAny_newObj_type (newEnv_comp ?_) (by show 0 ≤ sizeLine; decide)
  generalize hD : s2.heap.objs.size = D
  have hDn : H2 D = none := I2.hok.fresh (Nat.le_of_eq hD)
  obtain ⟨W, ⟨m0, w0⟩, turn⟩ := q D hDn
  generalize hs3 : ({ s2 with heap := s2.heap.push { cls := .type "list", data := .seq ([] : List Value).toArray } } : Shared) = s3
  have I3 : Inv X pins σ (upd H2 D (.lst [])) s3 := by
    rw [← hs3]
    refine I2.laid (t' := s2.toks) (fun b o e => Heap.get?_push_of_some _ e) (Nat.le_of_eq hD) ⟨Nat.zero_le _, [], 0, .nil, ?_⟩
    rw [← hD]
    exact Heap.get?_push_size _ rfl
  have h3 : s3.heap = s2.heap.push { cls := .type "list", data := .seq ([] : List Value).toArray } := by rw [← hs3]
  have sz : ∀ b ∈ fp, b < s2.heap.objs.size := fun b hb => by
    obtain ⟨o, e, _⟩ := T.obj _ _ st2 b hb
    exact Heap.lt_size e
  have f3 : ∀ b ∈ fp, FpOk X pins (upd H2 D (.lst [])) b ∧ b < s3.heap.objs.size := fun b hb => by
    have hlt := sz b hb
    refine ⟨⟨?_, (f2 b hb).2⟩, by rw [h3, Heap.size_push]; exact Nat.lt_succ_of_lt hlt⟩
    rw [upd_ne (by rw [← hD]; exact Nat.ne_of_lt hlt)]
    exact (f2 b hb).1
  have st3 : tn 0 s3.heap := T.keep _ _ _ st2 fun b _ o e => by rw [h3]; exact Heap.get?_push_of_some _ e
  have I4 := block_startH I3 hp ok hN f3
  have pg := hg s3 (upd H2 D (.lst [])) s3.heap.objs.size (cellsFrom (s3.heap.objs.size + 1) scope.names (cloFrom X.env.cells scope.names [])) fp
  have pt := ht s3 (upd H2 D (.lst [])) s3.heap.objs.size (cellsFrom (s3.heap.objs.size + 1) scope.names (cloFrom X.env.cells scope.names [])) fp
  have pe := he s3 (upd H2 D (.lst [])) s3.heap.objs.size (cellsFrom (s3.heap.objs.size + 1) scope.names (cloFrom X.env.cells scope.names [])) fp
  show codeAny _ _ (.compStart (.ListComp elt [⟨tg, iter, ifs, 0⟩] scope pos) 0 (.ref it) (.ref D) (compEnvC scope (cellsFrom (s3.heap.objs.size + 1) scope.names (cloFrom X.env.cells scope.names [])) s3.heap.objs.size X.env)) (compPost (model X.prog X.w) X.A X.xe use Qf (.ref D) s3.heap.objs.size) { s3 with heap := pushCells (s3.heap.push { cls := .type "dict", data := .dict #[] }) scope.names }
  have nfp : ∀ b ∈ fp, (upd H2 D (.lst [])) b = none := fun b hb => (f3 b hb).1.1
  generalize hce : compEnvC scope (cellsFrom (s3.heap.objs.size + 1) scope.names (cloFrom X.env.cells scope.names [])) s3.heap.objs.size X.env = ce at I4 pg pt pe ⊢
  have cL : ce.locals = s3.heap.objs.size := by subst hce; rfl
  generalize hH3 : upd H2 D (.lst []) = H3 at I3 I4 pg pt pe w0 nfp f3
  generalize hs4 : ({ s3 with heap := pushCells (s3.heap.push { cls := .type "dict", data := .dict #[] }) scope.names } : Shared) = s4 at I4 ⊢
  have st4 : tn 0 s4.heap := T.keep _ _ _ st3 fun b _ o e => by rw [← hs4]; exact pushCells_keeps _ _ _ _ (Heap.get?_push_of_some _ e)
  have hcB : HotC (blkH X p s3 H3 scope ce fp) := hotBlk h1
  have stat : ∀ {σ' : L2.St} {H' : Hp} {s' : Shared}, Inv (blkH X p s3 H3 scope ce fp) [] σ' H' s' → (∀ b ∈ fp, H' b = none) → ∀ b ∈ fp, FpOk (blkH X p s3 H3 scope ce fp) [] H' b := fun {σ' H' s'} I' hn b hb =>
    ⟨hn b hb, (I'.ok.exf b hb).1, I'.ok.exfs b hb, .inl hb, fun x c e => (I'.ok.exf b hb).2 x c e, fun q hq => by
      have eq : q = p := by simpa using (show q ∈ [p] ++ ([] : List (Addr × Obj)) from hq)
      rw [eq]
      exact (f3 b hb).1.2.2.2.2.2 p (List.mem_append_left _ hp)⟩
  have loop : codeAny (model X.prog X.w) X.A (.compLoop (.ListComp elt [⟨tg, iter, ifs, 0⟩] scope pos) 0 (.ref it) (.ref D) ce) (compPost (model X.prog X.w) X.A X.xe use Qf (.ref D) s3.heap.objs.size) s4 := by
    refine compLoop_any (fun n s' => ∃ i H', Inv (blkH X p s3 H3 scope ce fp) [] (wipe σ (own.map (·.2))) H' s' ∧ tn i s'.heap ∧ (∀ b ∈ fp, H' b = none) ∧ W i n H') ?_ m0 ⟨0, H3, I4, st4, nfp, w0⟩
    rintro n s5 ⟨i, H5, I5, st5, n5, w5⟩
    rcases turn i n H5 w5 with ⟨stop, qq⟩ | ⟨go, Nx, hNx, step⟩
    · have td := T.done (blkH X p s3 H3 scope ce fp) rfl rfl rfl hcB i [] s5 _ H5 (fun _ _ => False) I5 (stat I5 n5) st5 stop
      refine thnF td fun r s6 ⟨hr, I6⟩ => ?_
      subst hr
      have I7 : Inv X pins σ H5 s6 := I3.call' (ch := fp) I6.os I6.base I6.hok I6.bare fun b hb => ⟨(f3 b hb).1.2.2.2.1, (f3 b hb).1.2.1, (f3 b hb).1.2.2.2.2.1, (f3 b hb).1.2.2.2.2.2⟩
      have nC : H5 s3.heap.objs.size = none := by
        have z : H5 ce.locals = none := I6.free
        rw [cL] at z
        exact z
      obtain ⟨m, hn, _⟩ := I6.loc
      have hn : s6.heap.Ns ce.locals m := hn
      rw [cL] at hn
      exact hRR D s3.heap.objs.size s6 m H5 I7 qq hn (I3.fpOk (Nat.le_refl _) nC)
    · have ti := T.item (blkH X p s3 H3 scope ce fp) rfl rfl rfl hcB i [] s5 _ H5 (fun _ _ => False) I5 (stat I5 n5) st5 go
      refine thnF ti fun r s6 ⟨u, hr, h6⟩ => ?_
      subst hr
      refine thnF h6 fun _ s7 ⟨x, H7, I7, r7, y7, st7, n7⟩ => ?_
      have I7' := I7.pinned (stat I7 n7) (T.obj _ _ st7)
      refine thnF (pg.run _ s7 _ H7 x u _ I7' r7 (step x H7 y7)) fun _ s8 ⟨σ8, H8, I8, hw8, q8⟩ => ?_
      refine thnF (pt.run _ s8 σ8 H8 _ I8 q8) fun b s9 ⟨H9, I9, q9⟩ => ?_
      have fin : ∀ {s' : Shared} {H' : Hp}, Inv (blkH X p s3 H3 scope ce fp) ([] ++ pinsAt fp s7.heap) σ8 H' s' → Nx H' → ∃ m, m < n ∧ ∃ i H', Inv (blkH X p s3 H3 scope ce fp) [] (wipe σ (own.map (·.2))) H' s' ∧ tn i s'.heap ∧ (∀ b ∈ fp, H' b = none) ∧ W i m H' := fun {s' H'} I' nx => by
        obtain ⟨m', hm, w'⟩ := hNx H' nx
        have pin' : ∀ b ∈ fp, ∀ o, s7.heap.get? b = some o → s'.heap.get? b = some o ∧ H' b = none := fun b hb o e =>
          let z := I'.pin (b, o) (List.mem_append_right _ (List.mem_append_right _ (mem_pinsAt hb e)))
          ⟨z.1, z.2.1⟩
        have hl : (wipe σ (own.map (·.2))).length = σ8.length := by rw [← hw8, wipe_length]
        refine ⟨m', hm, i + 1, H', (I'.unpinned (pins := [])).weak hl (fun j v e => ?_), T.keep _ _ _ st7 fun b hb o e => (pin' b hb o e).1, fun b hb => ?_, w'⟩
        · rw [← hw8] at e
          exact (wipe_some e).1
        · obtain ⟨o, e, _⟩ := T.obj _ _ st7 b hb
          exact (pin' b hb o e).2
      cases b with
      | false =>
        simp only [Bool.false_eq_true, if_false] at q9 ⊢
        exact fin I9 q9
      | true =>
        simp only [if_true] at q9 ⊢
        refine thnF (pe.run _ s9 σ8 H9 _ I9 q9) fun z s10 ⟨yv, H10, I10, r10, acc, hD10, hz10, nx⟩ => ?_
        exact app_ok (X := blkH X p s3 H3 scope ce fp) I10 hD10 hz10 r10 fun s11 I11 => fin I11 nx
  exact codeAny_compStart_list loop (T.self X.A 0 _ _ _ st4 loop)
theorem pe_lcH {p : Addr × Obj} {elt tg iter : Expr} {ifs : List Expr} {scope : Scope} {own : List (Str × Nat)} {pos : Pos} {wi : TI} {g : TG} {tt : TT} {te : TE} (h1 : Hot1 X.A p) (hp : p ∈ X.pn) (hN : X.N.Nodup) (hi : PIH X tg iter wi) (ok : BlkOk X.N X.env.scope scope own)
    (hg : ∀ (s : Shared) (H : Hp) (C : Addr) (cl : List (Str × Addr)) (fp : List Addr), PG (blkH X p s H scope (compEnvC scope cl C X.env) fp) tg g) (ht : ∀ (s : Shared) (H : Hp) (C : Addr) (cl : List (Str × Addr)) (fp : List Addr), PTs (blkH X p s H scope (compEnvC scope cl C X.env) fp) ifs tt)
    (he : ∀ (s : Shared) (H : Hp) (C : Addr) (cl : List (Str × Addr)) (fp : List Addr), PE (blkH X p s H scope (compEnvC scope cl C X.env) fp) elt te) (hs : ∀ x, foldedSetIterable iter X.env x = pure x := by intro _; rfl) :
    PE X (.ListComp elt [⟨tg, iter, ifs, 0⟩] scope pos) (tLc wi g tt te (own.map (·.2))) := by
  refine ⟨fun pins s σ H Q I h => ?_⟩
  rw [eval_ListComp]
  refine lc_coreH h1 hp hN I hi ok hg ht he hs h fun D C s' m H' I' q hn f => ⟨m, hn, fun h'' sb => ?_⟩
  obtain ⟨f0, f1, f2, f3, f4, f5⟩ := f
  exact ⟨.ref D, H', I'.turned (t' := s'.toks) (fun b o hb e => (sb.2 b hb).trans e) f0 f1 f3 f4 f5, rfl, q⟩
end
end HX

set_option Elab.async false
set_option linter.all false
set_option maxRecDepth 100000
set_option maxHeartbeats 2000000
set_option autoImplicit false
namespace HX
open PySem PySem.Spec PyProof.Rows L2 L2H HotX
/-! ### a def that is handed the handled exception -/
structure FnE (P : Program) (w : World) (K : PySem.W.Frag) (mg : Str → Option Value) (base : Heap) (CX : CXT) (k : Nat) (f : Addr) (fd : FuncData) (ps : List Str) (sp : Addr × Obj → Sp) : Prop where
  len : ∀ p vs H Q E, sp p vs H Q E → vs.length = ps.length
  run : ∀ (A : Around) (outer : List Env) (s : Shared) (H : Hp) (args : Args) (us : List Value) (vs : List V) (Q : VK) (E : XK) (p : Addr × Obj), RoomH k A → Hot1 A p → PinOk outer H s p → Env0 P w K mg base A outer s H → BindsTo s fd args (ps.zip us) → Vals vs us → sp p vs H Q E →
    codeAny (model P w) A (.call (.ref f) args) (CR CX outer P w H s Q E) s
theorem FnE.mono {P : Program} {w : World} {K : PySem.W.Frag} {mg : Str → Option Value} {base : Heap} {CX : CXT} {j k : Nat} {f : Addr} {fd : FuncData} {ps : List Str} {sp : Addr × Obj → Sp} (F : FnE P w K mg base CX j f fd ps sp) (h : j ≤ k) : FnE P w K mg base CX k f fd ps sp :=
  ⟨F.len, fun A outer s H args us vs Q E p hr => F.run A outer s H args us vs Q E p (hr.mono h)⟩
theorem fn_ofE {CX : CXT} {P : Program} {w : World} {K : PySem.W.Frag} {mg : Str → Option Value} {base : Heap} {k : Nat} {f : Addr} {x qual : Str} {st : Stmt} {fd : FuncData} {N ps : List Str} {sp : Addr × Obj → Sp} (Fu : Fun K x qual st f fd) (S : FnScope N ps (defScope st))
    (len : ∀ p vs H Q E, sp p vs H Q E → vs.length = ps.length)
    (hbody : ∀ (cdv : Value) (A : Around) (outer : List Env) (s : Shared) (H : Hp) (vs : List V) (Q : VK) (E : XK) (p : Addr × Obj), Hot1 A p → RoomH k (A.deeper (envOfC qual (defScope st) s.heap.objs.size f cdv)) → sp p vs H Q E →
      ∃ t, PSs (cxH CX P w K mg base N qual (defScope st) f cdv A outer s H E p) (defBody st) t ∧ t { nx := fun _ H' => Q .non H', rt := Q } (L2.start N vs) H) :
    FnE P w K mg base CX (k + 1) f fd ps sp := by
  obtain ⟨oc, od, kV, doc, pm, an, cdv, ct, osl, rfl, lk, hcd⟩ := Fu.ex
  refine ⟨len, fun A outer s H args us vs Q E p hr hot hpin e0 hb r hsp => ?_⟩
  have hl := len _ _ _ _ _ hsp
  have KX : K.In s.heap := e0.mod.kin.keeps fun b o e => (e0.bs b o e).1
  have lim : s.heap.NoLimit := e0.mod.nolimit.keeps fun b o e => (e0.bs b o e).1
  have hkind : ∀ y ∈ ps.zip us, (defScope st).names.lookup y.1 = some .local ∨ ((defScope st).names.lookup y.1 = some .cell ∧ ((cellsFrom (s.heap.objs.size + 1) (defScope st).names []).lookup y.1).isSome = true) := fun ⟨n, v⟩ hy => by
    rcases S.par n (List.of_mem_zip hy).1 with q | q
    · exact .inl q
    · exact .inr ⟨q, PySem.W.cellsFrom_some _ _ _ (.inl q)⟩
  refine codeAny_call_function hr.depth (KX _ _ lk) rfl S.co S.gen rfl (PySem.W.codeRec_of KX hcd) (hb _ _ _ _ ?_)
  refine wpAny_newFunctionEnv_cells S.kind hkind fun env he s1 x => ?_
  subst he
  refine ⟨lim.keeps x.toInCall.keep, codeAny_func ?_⟩
  obtain ⟨t, ht, hq⟩ := hbody cdv A outer s H vs Q E p hot (hr.deeper _) hsp
  have I : Inv (cxH CX P w K mg base N qual (defScope st) f cdv A outer s H E p) [] (L2.start N vs) H s1 := inv_startH S hpin e0 hl r x
  refine wpAny_mono (ht.run [] s1 (L2.start N vs) H _ I hq) (fun fl s' hs => ?_) fun e s' hs => hs
  have fin : ∀ {σ' : L2.St} {H' : Hp} {v : V} {u : Value}, Inv (cxH CX P w K mg base N qual (defScope st) f cdv A outer s H E p) [] σ' H' s' → RelV v u → Q v H' → CE outer P w H s Q u s' :=
    fun {σ' H' v u} J rv q => ⟨v, H', J.os, J.bare, J.base, J.hok, rv, q⟩
  cases fl with
  | ret u =>
    obtain ⟨v, σ', H', J, rv, q⟩ := hs
    exact fin J rv q
  | next =>
    obtain ⟨σ', H', J, q⟩ := hs
    exact fin (v := V.non) (u := Value.none) J rfl q
  | brk =>
    obtain ⟨_, _, _, q⟩ := hs
    exact False.elim q
  | cont =>
    obtain ⟨_, _, _, q⟩ := hs
    exact False.elim q
/-- the context bears the handled exception p -/
def HotP (X : Cx) (p : Addr × Obj) : Prop := Hot1 X.A p ∧ p ∈ X.pn
theorem HotP.c {X : Cx} {p : Addr × Obj} (h : HotP X p) : HotC X := ⟨p, h.1, h.2⟩
section
variable {X : Cx} {CX : CXT} {k : Nat} {f C : Addr} {fd : FuncData} {ps : List Str} {sp : Addr × Obj → Sp} {E : XK} {x m : Str} {q pos apos : Pos} {e o : Expr} {es : List Expr} {t : TA} {p : Addr × Obj}
theorem run_fnE {pins : List (Addr × Obj)} {σ : L2.St} {H : Hp} {s : Shared} {Q : VK} {us : List Value} {vs : List V} (F : FnE X.prog X.w X.K X.mg X.base CX k f fd ps sp) (hr : RoomH k X.A) (hc : HotP X p) (hb : Binds X.K fd ps []) (hx : PassesAt CX X σ E)
    (I : Inv X pins σ H s) (r : Vals vs us) (h : sp p vs H Q E) : wpAny (model X.prog X.w) X.A (call (.ref f) us) (EP X pins σ Q) X.xe s := by
  obtain ⟨hot, hp⟩ := hc
  have hl : us.length = ps.length := by rw [← r.length]; exact F.len _ _ _ _ _ h
  have b := hb s us I.kIn (by rw [List.append_nil]; exact hl)
  rw [List.append_nil] at b
  have P1 := I.pin p (List.mem_append_left _ hp)
  have hpin : PinOk X.stack H s p := ⟨P1.1, P1.2.1, fun hm => (List.mem_cons.mp (I.stkSub p.1 hm)).elim P1.2.2.1 P1.2.2.2.1, P1.2.2.2.2⟩
  refine wpAny_call (codeAny_mono (F.run X.A X.stack s H ⟨us, []⟩ us vs Q E p hr hot hpin I.env0 b r h) fun r s' hq => ?_)
  cases r with
  | error e => exact hx pins H s e s' I hq
  | ok fl =>
    cases fl with
    | ret u => exact I.after hq
    | next => exact False.elim hq
    | brk => exact False.elim hq
    | cont => exact False.elim hq
theorem pe_callE (F : FnE X.prog X.w X.K X.mg X.base CX k f fd ps sp) (hr : RoomH k X.A) (hc : HotP X p) (hg : Gl X x) (hm : X.mg x = some (.ref f)) (hk : PySem.W.keepIn X.K (.ref f) = true) (hb : Binds X.K fd ps []) (hx : ∀ σ, PassesAt CX X σ E)
    (ha : PA X (e :: es) t) (hdb : (x == ("__debug__" : Str)) = false := by decide) (he : starEach (e :: es) X.env = (false, eval e X.env) :: starEach es X.env := by rfl) (hpl : (backTo pos (starEach es X.env)).any (·.1) = false := by rfl) :
    PE X (.Call (.Name x q) (e :: es) [] pos) (fun σ H Q => t σ H fun vs H1 => sp p vs H1 Q E) := by
  refine ⟨fun pins s σ H Q I h => ?_⟩
  refine wpAny_Call_Name_kw (ld_glob I hg hm ?_ hdb)
  refine PySem.W.callWith_K (h₀ := X.base) I.ok.mod.kin hk (thn (ha.run pos pins s σ H _ I h) fun us s1 ⟨vs, H1, I1, r, q⟩ => ⟨I1.kIn, ?_⟩) he hpl
  exact run_fnE F hr hc hb (hx σ) I1 r q
/-- isinstance(e, c), e the handled exception -/
theorem call_isP {p : Addr × Obj} {D : Addr} (hp : p ∈ X.pn) (C : ExcC X.K D) (hz : Zc (.ref D) none p.2) (hf : ∃ vs, p.2.data = .fields vs) : CallR X (.builtin "isinstance") (rIsE X.K D p.1) := by
  intro pins s σ H xs us Q I r h
  obtain ⟨c, cv, b, rfl, hcv, e, q⟩ := h
  cases r with
  | cons rx rr =>
    cases rr with
    | cons rt rr =>
      cases rr
      cases rx
      have ec := hcv _ rt
      subst ec
      obtain ⟨hget, _⟩ := I.pin p (List.mem_append.mpr (.inl hp))
      obtain ⟨vs, hv⟩ := hf
      have J : PySem.W.InstAt s.heap p.1 p.2 D none := by
        obtain ⟨a, oc, od, oda, osl⟩ := p
        obtain ⟨h1, h2⟩ := hz
        dsimp only at h1 h2 hv hget
        subst h1 h2 hv
        exact ⟨hget, rfl, rfl, trivial⟩
      exact PySem.W.kia_one (PySem.W.handS_kitx_exc C.hg C.hk C.hs C.hd C.ha C.hn C.ht C.hm) I.kIn J e (fun z => nomatch z) fun tk => ⟨.bl b, H, I.kept (t' := tk) fun _ _ z => z, rfl, q⟩
end
end HX

set_option Elab.async false
set_option linter.all false
set_option maxRecDepth 100000
set_option maxHeartbeats 4000000
set_option autoImplicit false
namespace HL
open PySem PySem.Spec PyProof.Rows L2 L2H HX
/-! ### while an exception is handled: iterators, targets, comprehensions -/
def wIH (X : Cx) (tg iter : Expr) : TI := fun σ H R => ∀ pins s, Inv X pins σ H s → wpAny (model X.prog X.w) X.A (eval iter X.env) (fun v s1 => wpAny (model X.prog X.w) X.A (pyIter v) (PIEH X pins σ tg R) X.xe s1) X.xe s
def EvIH (X : Cx) (B : Bs) (tg iter : Expr) (es : List En) (P : List D → List En → Prop) : Prop :=
  ∀ σ F H, Ok X.K es σ F H → Bd B es σ F H → ∀ R : It → Hp → Prop, (∀ J items es' F' H', P items es' → ItOk J items F' → Ok X.K es' σ F' H' → Tr es σ F H es' F' H' → R J H') → wIH X tg iter σ H R
abbrev BlkH (X : Cx) (p : Addr × Obj) (scope : Scope) (φ : Cx → Prop) : Prop := ∀ (s : Shared) (H : Hp) (C : Addr) (cl : List (Str × Addr)) (fp : List Addr), φ (blkH X p s H scope (compEnvC scope cl C X.env) fp)
section
variable {X : Cx} {B : Bs} {es es1 es2 es3 es5 es' : List En} {σ σ2 : L2.St} {F H F1 H1 F2 H2 F5 H5 F' H' : Hp} {v : V} {r r1 r2 : Rs} {rs : List Rs} {P P' : Rs → List En → Prop} {a b c e e2 o elt : Expr} {l ifs : List Expr} {pos p p2 apos tpos spos : Pos} {tg iter : Expr} {scope : Scope} {vs : List Nat} {x1 : Addr × Obj}
theorem pih_w : PIH X tg iter (wIH X tg iter) := ⟨fun pins s _ _ _ I h => h pins s I⟩
theorem EvIH.imp {P P' : List D → List En → Prop} (h : EvIH X B tg iter es P) (w : ∀ items es', P items es' → P' items es') : EvIH X B tg iter es P' := fun σ F H o bd R k => h σ F H o bd R fun J items es' F' H' p => k J items es' F' H' (w items es' p)
theorem eg_tupH {vs : List Nat} {ds : List D} {ts : List Expr} {kk : Nat} {P : List En → Prop} (hc : HotC X) (h : EvGs X ts vs ds es P)
    (hn : (assignEach ts X.env).length = ds.length := by with_unfolding_all rfl) (hst : (assignEach ts X.env).findIdx? (·.1) = none := by with_unfolding_all rfl) : EvG X (.Tuple ts kk pos) vs (.tuple ds) es P := fun σ F H v o q Q k => by
  cases q with
  | tup h1 h2 => exact wG.of (pg_tupH hc pgs_w hn hst) ⟨_, _, rfl, (h1.mono o.sub).seq, h2.length, h σ F H _ o h2 Q k⟩
/-- the pairs of two lists -/
def zipD (ds ds' : List D) : List D := (ds.zip ds').map fun p => .tuple [p.1, p.2]
theorem zipD_get {ds ds' : List D} {i : Nat} {d : D} (h : (zipD ds ds')[i]? = some d) : ∃ x y, ds[i]? = some x ∧ ds'[i]? = some y ∧ d = .tuple [x, y] := by
  unfold zipD at h
  rw [List.getElem?_map] at h
  cases e : (ds.zip ds')[i]? with
  | none => rw [e] at h; cases h
  | some p =>
    rw [e] at h
    obtain ⟨h1, h2⟩ := List.getElem?_zip_eq_some.mp e
    exact ⟨p.1, p.2, h1, h2, (Option.some.inj h).symm⟩
theorem zipD_len {ds ds' : List D} (h : ds.length = ds'.length) : (zipD ds ds').length = ds.length := by
  unfold zipD
  rw [List.length_map, List.length_zip, h, Nat.min_self]
theorem itok_zip {K : Fg} {ap bp : Addr} {vs ws : List V} {ds zs : List D} (hl : ds.length = zs.length) (h : SqL K F ap vs) (h' : SqL K F bp ws) (ra : RpAll F vs ds) (rb : RpAll F ws zs) : ItOk (ItzF K ap bp) (zipD ds zs) F where
  go := fun i H hi s => ⟨vs, ws, vs[i]'(by rw [ra.length]; rw [zipD_len hl] at hi; exact hi), ws[i]'(by rw [rb.length, ← hl]; rw [zipD_len hl] at hi; exact hi), s.seq h, s.seq h', by simp, by simp⟩
  stop := fun H s => ⟨vs, ws, s.seq h, s.seq h', .inl (by rw [ra.length, zipD_len hl]; exact Nat.le_refl _)⟩
  yld := fun i H x H' d hd s y => by
    obtain ⟨T, ob, x', y', rfl, n, hoc, hod, rfl, h1, h2⟩ := y
    obtain ⟨dx, dy, g1, g2, rfl⟩ := zipD_get hd
    obtain ⟨w1, k1, q1⟩ := ra.getD g1
    obtain ⟨w2, k2, q2⟩ := rb.getD g2
    have z1 := h1 vs (s.seq h)
    have z2 := h2 ws (s.seq h')
    rw [k1] at z1; cases z1
    rw [k2] at z2; cases z2
    exact .inr ⟨T, ob, _, _, rfl, n, hoc, hod, rfl, rfl, .cons q1 (.cons q2 .nil)⟩
theorem ei_zipH {elts : List Expr} {kk : Nat} {P : List D → List En → Prop} (hg : Gl X "zip") (hm : X.mg "zip" = none) (h : EvA X B [e, e2] es fun rs es1 => ∃ ds zs, dats rs = some [.list ds, .list zs] ∧ ds.length = zs.length ∧ P (zipD ds zs) es1)
    (hs : starEach [e, e2] X.env = (false, eval e X.env) :: starEach [e2] X.env := by with_unfolding_all rfl) (hpl : (backTo pos (starEach [e2] X.env)).any (·.1) = false := by with_unfolding_all rfl) :
    EvIH X B (.Tuple elts kk tpos) (.Call (.Name "zip" p) [e, e2] [] pos) es P := fun σ F H o bd R k pins s I =>
  (pi_zipH hg hm pa_w hs hpl).run pins s σ H R I (h σ F H o bd _ fun vs rs es1 F1 H1 p1 q1 o1 t1 => by
    obtain ⟨ds, zs, e1, hl, p1⟩ := p1
    have ra := q1.dats e1
    cases ra with
    | cons r1 ra =>
      cases ra with
      | cons r2 ra =>
        cases ra
        cases r1 with
        | lst g1 g2 =>
          cases r2 with
          | lst g3 g4 =>
            exact ⟨_, _, _, _, rfl, SqL.of (o1.sub _ _ g1), SqL.of (o1.sub _ _ g3), k _ _ es1 F1 H1 p1 (itok_zip hl (SqL.of g1) (SqL.of g3) g2 g4) o1 t1⟩)
def gBH (X : Cx) (p : Addr × Obj) (scope : Scope) (tg : Expr) : TG := fun v σ H Q => BlkH X p scope fun X1 => wG X1 tg v σ H Q
def tBH (X : Cx) (p : Addr × Obj) (scope : Scope) (ifs : List Expr) : TT := fun σ H Q => BlkH X p scope fun X1 => wTs X1 ifs σ H Q
def eBH (X : Cx) (p : Addr × Obj) (scope : Scope) (e : Expr) : TE := fun σ H Q => BlkH X p scope fun X1 => wE X1 e σ H Q
theorem pg_BH (s : Shared) (H : Hp) (C : Addr) (cl : List (Str × Addr)) (fp : List Addr) : PG (blkH X x1 s H scope (compEnvC scope cl C X.env) fp) tg (gBH X x1 scope tg) := ⟨fun pins s' _ _ _ u _ I r h => h s H C cl fp pins s' u I r⟩
theorem pts_BH (s : Shared) (H : Hp) (C : Addr) (cl : List (Str × Addr)) (fp : List Addr) : PTs (blkH X x1 s H scope (compEnvC scope cl C X.env) fp) ifs (tBH X x1 scope ifs) := ⟨fun pins s' _ _ _ I h => h s H C cl fp pins s' I⟩
theorem pe_BH (s : Shared) (H : Hp) (C : Addr) (cl : List (Str × Addr)) (fp : List Addr) : PE (blkH X x1 s H scope (compEnvC scope cl C X.env) fp) e (eBH X x1 scope e) := ⟨fun pins s' _ _ _ I h => h s H C cl fp pins s' I⟩
def LcTurnH (X : Cx) (x1 : Addr × Obj) (B : Bs) (scope : Scope) (vs : List Nat) (tg : Expr) (ifs : List Expr) (elt : Expr) (d : D) (acc : List D) (es : List En) (Nx : List D → List En → Prop) : Prop :=
  acc.length < sizeLine ∧ BlkH X x1 scope fun X1 => EvG X1 tg vs d es fun es3 => BlkH X x1 scope fun X2 => EvTs X2 B ifs es3 fun k es4 => (k = true → BlkH X x1 scope fun X3 => EvE X3 B elt es4 fun r es5 => ∃ d', frz r = .val d' ∧ Nx (acc ++ [d']) (blank es5 vs)) ∧ (k = false → Nx acc (blank es4 vs))
theorem lc_readH
    (h : EvIH X B tg iter es fun items es1 => ∃ Iv : Nat → List D → List En → Prop, Iv 0 [] es1 ∧ (∀ i acc es2, Iv i acc es2 → Blanked es2 vs) ∧ (∀ i d acc es2, items[i]? = some d → Iv i acc es2 → LcTurnH X x1 B scope vs tg ifs elt d acc es2 (Iv (i + 1))) ∧ ∀ acc es2, Iv items.length acc es2 → P (.new acc) es2)
    (o : Ok X.K es σ F H) (bd : Bd B es σ F H) {Q : VK} (k : Kt X.K es σ F H P Q) : tLc (wIH X tg iter) (gBH X x1 scope tg) (tBH X x1 scope ifs) (eBH X x1 scope elt) vs σ H Q := by
  refine h σ F H o bd _ fun J items es1 F1 H1 p1 it o1 t1 => ?_
  obtain ⟨Iv, h0, hb, hs, hd⟩ := p1
  have bd1 := bd.tr t1
  have c1 : Clear es1 vs := (hb 0 [] es1 h0).clear
  have ow1 : Ok X.K es1 (wipe σ vs) F1 H1 := by
    have z := ok_blank (vs := vs) o1
    rw [(hb 0 [] es1 h0).eq] at z; exact z
  intro Dl nD
  refine ⟨fun i m Hi => i ≤ items.length ∧ m = items.length - i ∧ ∃ acc es2 F2, Iv i acc es2 ∧ Grow X.K es1 (wipe σ vs) F1 H1 Dl acc es2 F2 Hi, ⟨items.length, Nat.zero_le _, rfl, [], es1, F1, h0, ow1.newH nD, Tr.newH ow1 nD, nD, Same.back o1.sub nD, [], upd_same, .nil⟩, ?_⟩
  rintro i m Hi ⟨hi, rfl, acc, es2, F2, w, g⟩
  have s12 : Same F1 Hi := g.tr.exF.trans g.ok.sub
  by_cases hlt : i < items.length
  · refine .inr ⟨it.go i Hi hlt s12, fun Hn => ∃ acc es2 F2, Iv (i + 1) acc es2 ∧ Grow X.K es1 (wipe σ vs) F1 H1 Dl acc es2 F2 Hn, fun Hn ⟨acc', es', F', w', g'⟩ => ⟨items.length - (i + 1), by omega, hlt, rfl, acc', es', F', w', g'⟩, fun x Hy y => ?_⟩
    obtain ⟨d, hd'⟩ : ∃ d, items[i]? = some d := ⟨_, List.getElem?_eq_getElem hlt⟩
    obtain ⟨F3, g3, q3⟩ := g.yield ow1 it hd' y
    obtain ⟨hz, turn⟩ := hs i d acc es2 hd' w
    have c2 : Clear es2 vs := (hb i acc es2 w).clear
    intro s H C cl fp
    refine turn s H C cl fp _ F3 Hy x g3.ok q3 _ fun σ3 es3 p3 o3 a3 => ⟨?_, ?_⟩
    · rw [a3.wp]
      apply List.ext_getElem?
      intro j
      rw [wipe_get, wipe_get, wipe_length]
      split <;> rfl
    have ww : wipe σ3 vs = wipe σ vs := by
      rw [a3.wp]
      apply List.ext_getElem?
      intro j
      rw [wipe_get, wipe_get, wipe_length]
      split <;> rfl
    have bd3 : Bd B es3 σ3 F3 Hy := ((bd_wipe c1 bd1).tr g3.tr).asg a3
    intro s' H' C' cl' fp'
    refine p3 s' H' C' cl' fp' σ3 F3 Hy o3 bd3 _ fun kb es4 F4 H4 p4 o4 t4 => ?_
    cases kb with
    | true =>
      rw [if_pos rfl]
      intro s'' H'' C'' cl'' fp''
      refine (ee_fz (P := fun r es5 => ∃ d', r = .val d' ∧ Iv (i + 1) (acc ++ [d']) (blank es5 vs)) (p4.1 rfl s'' H'' C'' cl'' fp'')) σ3 F4 H4 o4 (bd3.tr t4) _ fun v5 r5 es5 F5 H5 p5 q5 o5 t5 => ?_
      obtain ⟨d', rfl, w5⟩ := p5
      have g5 := g3.skip ow1 c2 ww a3 o5 (t4.trans t5)
      obtain ⟨vacc, e1, e2, g6⟩ := g5.add (d := d') (y := v5) ow1 q5 hz
      exact ⟨vacc, e1, e2, acc ++ [d'], _, F5, w5, g6⟩
    | false =>
      rw [if_neg Bool.false_ne_true]
      exact ⟨acc, _, F4, p4.2 rfl, g3.skip ow1 c2 ww a3 o4 t4⟩
  · have e : i = items.length := by omega
    subst e
    refine .inl ⟨it.stop Hi s12, ?_⟩
    have b2 := hb _ _ _ w
    obtain ⟨vacc, h1, h2⟩ := g.hD
    have t2 : Tr es1 σ F1 H1 es2 F2 Hi := (tr_wipe c1 b2.clear).mp g.tr
    have o2 : Ok X.K es2 σ F2 Hi := by
      refine ⟨by have z := g.ok.len; rw [wipe_length] at z; exact z, fun j en he => ?_, fun j1 j2 x k1 k2 => ?_, g.ok.sub⟩
      · have z := g.ok.slot j en he
        by_cases hj : j ∈ vs
        · rw [b2 j hj (List.getElem?_eq_some_iff.mp he).1] at he
          cases he
          trivial
        · rw [wipe_out' hj] at z; exact z
      · exact g.ok.sep j1 j2 x ((at_wipe b2.clear).mpr k1) ((at_wipe b2.clear).mpr k2)
    refine k (.ref Dl) (.new acc) es2 F2 Hi (hd acc es2 w) ⟨Dl, vacc, rfl, trivial, ?_, g.fD, h1, h2⟩ o2 (t1.trans t2)
    show H Dl = none
    cases q : H Dl with
    | none => rfl
    | some ob => exact absurd nD (t1.dom Dl (by rw [q]; exact nofun))
theorem ee_filtH {own : List (Str × Nat)} (hp : HotP X x1) (hN : X.N.Nodup) (ok : BlkOk X.N X.env.scope scope own) (g : D → Bool) (f : D → D)
    (h : EvIH X B tg iter es fun items es1 => Blanked es1 (own.map (·.2)) ∧ items.length ≤ sizeLine ∧ (∀ d, d ∈ items → BlkH X x1 scope fun X1 => EvG X1 tg (own.map (·.2)) d es1 fun es3 => BlkH X x1 scope fun X2 => EvTs X2 B ifs es3 fun k es4 => k = g d ∧ blank es4 (own.map (·.2)) = es1 ∧ (k = true → BlkH X x1 scope fun X3 => EvE X3 B elt es4 fun r es5 => frz r = .val (f d) ∧ blank es5 (own.map (·.2)) = es1)) ∧ P (.new ((items.filter g).map f)) es1)
    (hs : ∀ x, foldedSetIterable iter X.env x = pure x := by with_unfolding_all (intro _; rfl)) : EvE X B (.ListComp elt [⟨tg, iter, ifs, 0⟩] scope pos) es P := fun σ F H o bd Q k =>
  wE.of (pe_lcH hp.1 hp.2 hN pih_w ok pg_BH pts_BH pe_BH hs) (lc_readH (EvIH.imp h fun items es1 hh => by
    obtain ⟨hb, hz, hE, hP⟩ := hh
    refine ⟨fun i acc es2 => es2 = es1 ∧ acc = ((items.take i).filter g).map f, ⟨rfl, rfl⟩, fun i acc es2 ⟨e, _⟩ => by rw [e]; exact hb, fun i d acc es2 hd ⟨e1, e2⟩ => ?_, fun acc es2 ⟨e1, e2⟩ => ?_⟩
    · subst e1 e2
      have hmem : d ∈ items := List.mem_of_getElem? hd
      have hi : i < items.length := (List.getElem?_eq_some_iff.mp hd).1
      refine ⟨?_, fun s H C cl fp => (hE d hmem s H C cl fp).imp fun es3 h3 s' H' C' cl' fp' => (h3 s' H' C' cl' fp').imp fun k es4 ⟨h4, h5, h6⟩ => ⟨fun hk s'' H'' C'' cl'' fp'' => (h6 hk s'' H'' C'' cl'' fp'').imp fun r es5 ⟨h7, h8⟩ => ⟨f d, h7, h8, ?_⟩, fun hk => ⟨h5, ?_⟩⟩⟩
      · rw [List.length_map]
        refine Nat.lt_of_le_of_lt (List.length_filter_le _ _) ?_
        rw [List.length_take]; omega
      · rw [take_get hd, List.filter_append, List.map_append]
        rw [show [d].filter g = [d] by rw [List.filter_cons, if_pos (by rw [← h4]; exact hk)]; rfl]
        rfl
      · rw [take_get hd, List.filter_append, List.map_append]
        rw [show [d].filter g = [] by rw [List.filter_cons, if_neg (by rw [← h4, hk]; decide)]; rfl]
        simp
    · subst e1 e2
      rw [List.take_length]
      exact hP) o bd k)
end
/-! ### defs that are handed the handled exception -/
abbrev BxE (P : Program) (w : World) (K : Fg) (mg : Str → Option Value) (base : Heap) (N : List Str) (q : Str) (st : Stmt) (f : Addr) (cdv : Value) (A : Around) (outer : List Env) (s : Shared) (H : Hp) (E : XK) (p : Addr × Obj) : Cx :=
  cxH CX0 P w K mg base N q (defScope st) f cdv A outer s H E p
def CalE (P : Program) (w : World) (K : Fg) (mg : Str → Option Value) (base : Heap) (k : Nat) (x : Str) (ps : List Str) (S : Addr × Obj → FS) : Prop :=
  ∃ f fd, FnE P w K mg base CX0 k f fd ps (fun p => spOf K (S p)) ∧ mg x = some (.ref f) ∧ PySem.W.keepIn K (.ref f) = true ∧ Binds K fd ps []
theorem def_okE {P : Program} {w : World} {K : Fg} {mg : Str → Option Value} {base : Heap} {x : Str} {st : Stmt} {N ps : List Str} {k : Nat} {S : Addr × Obj → FS} (d : Def K mg x st ps) (Sc : FnScope N ps (defScope st)) (hn : ∀ p, (S p).n = ps.length)
    (body : ∀ (f : Addr) (cdv : Value) (A : Around) (outer : List Env) (s : Shared) (H : Hp) (E : XK) (B : Bs) (es0 : List En) (p : Addr × Obj), RoomH k (BxE P w K mg base N x st f cdv A outer s H E p).A → HotP (BxE P w K mg base N x st f cdv A outer s H E p) p → (S p).pre es0 → (∀ i a, B.par i a → i < (S p).n) →
      EvSs (BxE P w K mg base N x st f cdv A outer s H E p) B (defBody st) (es0 ++ List.replicate (N.length - (S p).n) .no) (fnD (S p) es0)) : CalE P w K mg base (k + 1) x ps S := by
  obtain ⟨f, fd, h1, h2, h3⟩ := d
  refine ⟨f, fd, fn_ofE h1 Sc (fun p vs H Q E h => by rw [h.1, hn]) fun cdv A outer s H vs Q E p hot hr h => ?_, h2, h1.kp, h3⟩
  obtain ⟨hl, F, es0, o, pre, kq, kx⟩ := h
  have hlen : es0.length = (S p).n := by rw [o.len]; show (vs.map some).length = _; rw [List.length_map, hl]
  obtain ⟨o0, b0⟩ := ground_ok (n := N.length - (S p).n) (σ' := List.replicate (N.length - (S p).n) none) o (by simp)
  refine ⟨_, pss_w, ?_⟩
  rw [start_eq, hl]
  exact body f cdv A outer s H E (ground es0 (sg vs) F H) es0 p hr ⟨⟨hot.1, hot.2⟩, List.mem_cons_self⟩ pre (fun i a ⟨_, _, _, h1, _⟩ => by rw [← hlen]; exact (List.getElem?_eq_some_iff.mp h1).1) _ F H o0 b0 _ (fn_end o kq)
section
variable {X : Cx} {B : Bs} {es : List En} {P : Rs → List En → Prop} {e : Expr} {l : List Expr} {pos p2 : Pos} {p : Addr × Obj}
theorem ee_calE {j k : Nat} {ps : List Str} {S : Addr × Obj → FS} {x : Str} (c : CalE X.prog X.w X.K X.mg X.base j x ps S) (hr : RoomH k X.A) (hjk : j ≤ k) (hc : HotP X p) (hg : Gl X x)
    (h : EvA X B (e :: l) es fun rs es1 => rs.length = (S p).n ∧ ∃ es0, argsEn es1 rs = some es0 ∧ headOwn es0 = true ∧ (S p).pre es0 ∧ (∀ C es', ¬ (S p).exc es0 C es') ∧ ∀ r es', (S p).post es0 r es' → P r (back es1 rs es'))
    (hdb : (x == ("__debug__" : Str)) = false := by decide) (he : starEach (e :: l) X.env = (false, eval e X.env) :: starEach l X.env := by with_unfolding_all rfl) (hpl : (backTo pos (starEach l X.env)).any (·.1) = false := by with_unfolding_all rfl) :
    EvE X B (.Call (.Name x p2) (e :: l) [] pos) es P := fun σ F H ok bd Q kk => by
  obtain ⟨f, fd, h1, hm, hk, hb⟩ := c
  refine wE.of (pe_callE (E := E0) (h1.mono hjk) hr hc hg hm hk hb (fun _ _ _ _ _ _ _ z => z.elim) pa_w hdb he hpl) (h σ F H ok bd _ fun vs rs es1 F1 H1 p1 q1 o1 t1 => ?_)
  obtain ⟨hn, es0, ha, ho, pre, nx, hp⟩ := p1
  refine ⟨(rsAll_len q1).trans hn, F1, es0, (call_in o1 q1 ha ho).1, pre, fun v r es' F' H' p ns q o' t => ?_, fun C es' F' H' p _ _ => nx C es' p⟩
  obtain ⟨o2, t2⟩ := call_out o1 q1 ha ho o' t
  refine kk v r _ F' H' (hp r es' p) ?_ o2 (t1.trans t2)
  have q2 : RsOk (Nw H1) F' H' σ v r := by
    cases r with
    | sl i => cases ns
    | val d => exact q
    | new ds => exact q
    | newT C x l ds => exact q
    | fl i l => cases ns
    | raw w => exact q
  exact q2.back t1
theorem c_isP {C D : Addr} {k : Bool} (hc : HotP X p) (T : ExcC X.K D) (hz : Zc (.ref D) none p.2) (hf : ∃ vs, p.2.data = .fields vs) (hk : PySem.W.kitOne X.K (.ref D) (.ref C) = some k) (q : P (.val (.bool k)) es) : RdC X (cW X (.builtin "isinstance")) [.raw (.ref p.1), .raw (.ref C)] es P :=
  RdC.of (call_isP hc.2 T hz hf) fun σ F H vs o ra Q kk => by
    obtain ⟨v, w, rfl, a, b⟩ := rs2 ra
    have e1 : v = .ref p.1 := a
    have e2 : w = .ref C := b
    subst e1 e2
    exact ⟨.ref C, .ref C, k, rfl, fun u z => z, hk, k_val kk o q (.bl k)⟩
theorem c_isPty {D : Addr} {T' : String} {k : Bool} (hc : HotP X p) (T : ExcC X.K D) (hz : Zc (.ref D) none p.2) (hf : ∃ vs, p.2.data = .fields vs) (hk : PySem.W.kitOne X.K (.ref D) (.type T') = some k) (q : P (.val (.bool k)) es) : RdC X (cW X (.builtin "isinstance")) [.raw (.ref p.1), .raw (.ty T')] es P :=
  RdC.of (call_isP hc.2 T hz hf) fun σ F H vs o ra Q kk => by
    obtain ⟨v, w, rfl, a, b⟩ := rs2 ra
    have e1 : v = .ref p.1 := a
    have e2 : w = .ty T' := b
    subst e1 e2
    exact ⟨.ty T', .type T', k, rfl, fun u z => z, hk, k_val kk o q (.bl k)⟩
end
end HL

set_option Elab.async false
set_option linter.all false
set_option maxRecDepth 100000
set_option maxHeartbeats 4000000
set_option autoImplicit false
namespace HL
open PySem PySem.Spec PyProof.Rows L2 L2H HX
/-- what an exception in the air must bring; nothing was handled where it was made -/
def ExcN (X : Cx) (B : Bs) (ex : Addr → List En → Prop) : Prop := L2N.Takes X fun cls d σ H => ∃ C es F, cls = .ref C ∧ d = none ∧ Ok X.K es σ F H ∧ Bd B es σ F H ∧ ex C es
section
variable {P : Program} {w : World} {K : Fg} {mg : Str → Option Value} {base : Heap}
theorem def_okN {x : Str} {st : Stmt} {N ps : List Str} {k : Nat} {S : FS} (d : Def K mg x st ps) (Sc : FnScope N ps (defScope st)) (hn : S.n = ps.length)
    (body : ∀ (f : Addr) (cdv : Value) (A : Around) (outer : List Env) (s : Shared) (H : Hp) (E : XK) (B : Bs) (es0 : List En), Room k (Bx (L2N.CX P w) P w K mg base N x st f cdv A outer s H E).A → S.pre es0 → (∀ i a, B.par i a → i < S.n) →
      ExcN (Bx (L2N.CX P w) P w K mg base N x st f cdv A outer s H E) B (fun C es1 => S.exc es0 C (mrg es0 es1)) →
      EvSs (Bx (L2N.CX P w) P w K mg base N x st f cdv A outer s H E) B (defBody st) (es0 ++ List.replicate (N.length - S.n) .no) (fnD S es0)) : Cal P w K mg base (L2N.CX P w) (k + 1) x ps S := by
  obtain ⟨f, fd, Fu, h2, h3⟩ := d
  refine ⟨f, fd, ?_, h2, Fu.kp, h3⟩
  obtain ⟨oc, od, kV, doc, pm, an, cdv, ct, osl, rfl, lk, hcd⟩ := Fu.ex
  refine fn_of (CX := L2N.CX P w) lk hcd Sc (fun vs H Q E h => by rw [h.1, hn]) fun A outer s H vs Q E hr h => ?_
  obtain ⟨hl, F, es0, o, pre, kq, kx⟩ := h
  have hlen : es0.length = S.n := by rw [o.len]; show (vs.map some).length = _; rw [List.length_map, hl]
  obtain ⟨o0, b0⟩ := ground_ok (n := N.length - S.n) (σ' := List.replicate (N.length - S.n) none) o (by simp)
  refine ⟨_, pss_w, ?_⟩
  rw [start_eq, hl]
  refine body f cdv A outer s H E (ground es0 (sg vs) F H) es0 hr pre (fun i a ⟨_, _, _, h1, _⟩ => by rw [← hlen]; exact (List.getElem?_eq_some_iff.mp h1).1) ?_ _ F H o0 b0 _ (fn_end o kq)
  refine (L2N.takes_of rfl rfl rfl rfl).imp fun cls d σ1 H1 hh => ?_
  obtain ⟨C, es1, F1, rfl, rfl, o1, b1, ex⟩ := hh
  obtain ⟨o2, t2⟩ := ground_out o o1 b1
  exact kx C _ F1 H1 ex o2 t2
theorem def_okNG {x : Str} {st : Stmt} {N ps : List Str} {k n : Nat} {pre : List D → Prop} {f : List D → Except Addr Rs} (d : Def K mg x st ps) (Sc : FnScope N ps (defScope st)) (hn : n = ps.length) (hp : ∀ ds, pre ds → ds.length = n)
    (body : ∀ (fa : Addr) (cdv : Value) (A : Around) (outer : List Env) (s : Shared) (H : Hp) (E : XK) (B : Bs) (ds : List D), Room k (Bx (L2N.CX P w) P w K mg base N x st fa cdv A outer s H E).A → pre ds → (∀ i a, B.par i a → i < 0) →
      ExcN (Bx (L2N.CX P w) P w K mg base N x st fa cdv A outer s H E) B (fun C _ => f ds = .error C) →
      EvSs (Bx (L2N.CX P w) P w K mg base N x st fa cdv A outer s H E) B (defBody st) (ds.map En.val ++ List.replicate (N.length - n) .no) (pD f n ds)) : Cal P w K mg base (L2N.CX P w) (k + 1) x ps (pureG n pre f) := by
  refine def_okN d Sc hn fun fa cdv A outer s H E B es0 hr pr hB hX => ?_
  obtain ⟨ds, rfl, pr⟩ := pr
  intro σ F Hh o bd E' k'
  have hB' : ∀ i a, B.par i a → i < 0 := fun i a h => by
    obtain ⟨t, d1, _, h1, _⟩ := bd.par i a h
    have hi := hB i a h
    rw [List.getElem?_append_left (by rw [List.length_map, hp ds pr]; exact hi), List.getElem?_map] at h1
    cases q : ds[i]? with
    | none => rw [q] at h1; cases h1
    | some y => rw [q] at h1; exact absurd h1 (not_mk rfl)
  have hX' : ExcN (Bx (L2N.CX P w) P w K mg base N x st fa cdv A outer s H E) B (fun C _ => f ds = .error C) := L2N.Takes.imp hX fun c dd σ1 H1 ⟨C, es, F, h1, h2, h3, h4, h5⟩ => ⟨C, es, F, h1, h2, h3, h4, ds, rfl, h5, mrg_val⟩
  exact (body fa cdv A outer s H E B ds hr pr hB' hX').imp (pD_fn (hp ds pr)).1 (pD_fn (hp ds pr)).2 (fun _ h => h) (fun _ h => h) σ F Hh o bd E' k'
end
section
variable {X : Cx} {B : Bs} {es : List En} {P : Rs → List En → Prop} {e : Expr} {l : List Expr} {pos p p2 : Pos} {ex : Addr → List En → Prop}
theorem passN {X : Cx} : Passes (L2N.CX X.prog X.w) X E0 := fun _ _ _ _ _ _ _ h => by
  obtain ⟨_, _, _, _, _, _, _, _, _, _, _, _, z⟩ := h
  exact z.elim
theorem es_raiseN {x m : Str} {C : Addr} {j : Nat} {pos' : Pos} {Dd : Dn} (hc : X.calm = true) (hx : ExcN X B ex) (T : ExT X.K X.mg x C) (hg : Gl X x) (q : ex C es) (hdb : (x == ("__debug__" : Str)) = false := by decide) :
    EvS X B (.Raise (some (.Call (.Name x p) [.Constant (.str m) j p2] [] pos)) none pos') es Dd := fun σ F H o bd E k =>
  wS.of (L2N.ps_raise hc hx (L2N.pmk_own PySem.F.excBase_ValueError T.e T.g T.k (raises_own T.b T.t) hg hdb)) ⟨C, es, F, rfl, rfl, o, bd, q⟩
/-- f(e, ..) that may raise -/
theorem ee_calN {j k n : Nat} {ps : List Str} {pre : List D → Prop} {f : List D → Except Addr Rs} {x : Str} (hr : Room k X.A) (c : Cal X.prog X.w X.K X.mg X.base (L2N.CX X.prog X.w) j x ps (pureG n pre f)) (hjk : j ≤ k) (hg : Gl X x) (hx : ExcN X B ex)
    (h : EvA X B (e :: l) es fun rs es1 => ∃ ds, dats rs = some ds ∧ ds.length = n ∧ pre ds ∧ (∀ r, f ds = .ok r → P r es1) ∧ ∀ C, f ds = .error C → ex C es1)
    (hdb : (x == ("__debug__" : Str)) = false := by decide) (he : starEach (e :: l) X.env = (false, eval e X.env) :: starEach l X.env := by with_unfolding_all rfl) (hpl : (backTo pos (starEach l X.env)).any (·.1) = false := by with_unfolding_all rfl) :
    EvE X B (.Call (.Name x p) (e :: l) [] pos) es P := fun σ F H ok bd Q kk => by
  obtain ⟨fa, fd, h1, hm, hk, hb⟩ := c
  refine wE.of (pe_callS (h1.mono hjk) hr hg hm hk hb (fun σ => L2N.passAt hx σ) pa_w hdb he hpl) (h σ F H ok bd _ fun vs rs es1 F1 H1 p1 q1 o1 t1 => ?_)
  obtain ⟨ds, hd, hn, pr, ok1, er1⟩ := p1
  obtain ⟨a1, a2⟩ := argsEn_dats (es := es1) hd
  have ho : headOwn (ds.map En.val) = true := by
    cases ds with
    | nil => rfl
    | cons d ds => exact noOwn_val ds
  refine ⟨(rsAll_len q1).trans (a2.trans hn), F1, _, (call_in o1 q1 a1 ho).1, ⟨ds, rfl, pr⟩, fun v r es' F' H' pp ns q o' t => ?_, fun C es' F' H' pp o' t => ?_⟩
  · obtain ⟨o2, t2⟩ := call_out o1 q1 a1 ho o' t
    obtain ⟨ds', e3, e4, _⟩ := pp
    have e5 := map_val_inj e3
    subst e5
    rw [back_val hd] at o2 t2
    refine kk v r _ F' H' (ok1 r e4) ?_ o2 (t1.trans t2)
    have q2 : RsOk (Nw H1) F' H' σ v r := by
      cases r with
      | sl i => cases ns
      | val d => exact q
      | new ds => exact q
      | newT C x l ds => exact q
      | fl i l => cases ns
      | raw w => exact q
    exact q2.back t1
  · obtain ⟨o2, t2⟩ := call_out o1 q1 a1 ho o' t
    obtain ⟨ds', e3, e4, _⟩ := pp
    have e5 := map_val_inj e3
    subst e5
    rw [back_val hd] at o2 t2
    exact ⟨C, es1, F', rfl, rfl, o2, bd.tr (t1.trans t2), er1 C e4⟩
end
/-! ### try: body, except X as e: return f(e) -/
section
variable {X : Cx} {B : Bs} {es : List En} {D : Dn} {body : List Stmt} {x n rf : Str} {np nq q cpos rpos pos pos' : Pos} {ex : Addr → List En → Prop}
theorem hot_suite {a : Addr} {oe : Obj} {pn : List (Addr × Obj)} {cls : Value} {d : Option Addr} (hz : L2N.Zn cls d oe) (hf : ∃ vs, oe.data = .fields vs) : HotP (X.suite a ((a, oe) :: pn)) (a, oe) := by
  obtain ⟨vs, hv⟩ := hf
  exact ⟨⟨rfl, vs, hv, hz.2.2 vs hv⟩, List.mem_cons_self⟩
theorem es_try {i j k : Nat} {Ce : Addr} {ps : List Str} {S : Addr × Obj → FS} (hs : X.stack = X.env :: X.outer) (hf : X.env.frame = some X.env.locals) (hN : X.N.Nodup) (hi : X.N[i]? = some n) (hln : X.env.kindOf n = some .local) (hc : Names X x (.ref Ce))
    (c : CalE X.prog X.w X.K X.mg X.base j rf ps S) (hr : RoomH k X.A) (hjk : j ≤ k) (hg : Gl X rf) (hn : ∀ p, (S p).n = 1) (hvis : Vis X.env.scope n)
    (hex : ∀ C es1, ex C es1 → PySem.W.exmOne X.K (.ref C) (.ref Ce) = some true ∧ ∀ p : Addr × Obj, Zc (.ref C) none p.2 → (∃ vs, p.2.data = .fields vs) → (S p).pre [.raw (.ref p.1)] ∧ (∀ C' es', ¬ (S p).exc [.raw (.ref p.1)] C' es') ∧ ∀ r es', (S p).post [.raw (.ref p.1)] r es' → D.rt r es1)
    (h : ∀ pn xe, ExcN (X.tr pn xe) B ex → PassesOwn (model X.prog X.w) X.A X.env xe → EvSs (X.tr pn xe) B body es D)
    (hdb : (rf == ("__debug__" : Str)) = false := by decide) (hd1 : (n == ("__debug__" : Str)) = false := by decide) (hd2 : (n == ("__classdict__" : Str)) = false := by decide)
    (he : starEach [Expr.Name n nq] X.env = (false, eval (Expr.Name n nq) X.env) :: starEach [] X.env := by with_unfolding_all rfl) (hpl : (backTo cpos (starEach [] X.env)).any (·.1) = false := by with_unfolding_all rfl) :
    EvS X B (.Try body [.ExceptHandler (some (.Name x np)) (some n) [.Return (some (.Call (.Name rf q) [.Name n nq] [] cpos)) rpos] pos'] [] [] pos) es D := fun σ F H ok bd E kk => by
  obtain ⟨fa, fd, h1, hm, hk, hb⟩ := c
  refine wS.of (L2N.ps_try_as (Wout := fun _ _ _ _ => False) (tb := fun W D σ H => ∀ pn xe, L2N.Takes (X.tr pn xe) W → PassesOwn (model X.prog X.w) X.A X.env xe → wSs (X.tr pn xe) body D σ H)
    (ts := fun a cls d D σ H => ∀ oe pn, L2N.Zn cls d oe → (∃ vs, oe.data = .fields vs) → wSs (X.suite a ((a, oe) :: pn)) [.Return (some (.Call (.Name rf q) [.Name n nq] [] cpos)) rpos] D σ H)
    hs hf hN hi hln hc (fun _ _ z => ?_) (fun W pn xe tk po => ⟨fun pins s σ H D I h => h pn xe tk po pins s I⟩) (fun a oe cls d pn hz hf => ⟨fun pins s σ H D I h => h oe pn hz hf pins s I⟩)) ?_
  · obtain ⟨_, _, _, _, _, _, _, _, _, _, _, _, _, _, _, _, z⟩ := z
    exact z.elim
  intro pn xe tk po
  refine h pn xe ?_ po σ F H ok bd E kk
  refine L2N.Takes.imp tk fun cls d σ1 H1 hh => ?_
  obtain ⟨C, es1, F1, rfl, rfl, o1, b1, hx⟩ := hh
  obtain ⟨exm, hS⟩ := hex C es1 hx
  refine ⟨true, exm, fun _ a na => ?_, nofun⟩
  intro oe pn2 hz hfs pins s I
  have hot : HotP (X.suite a ((a, oe) :: pn2)) (a, oe) := hot_suite hz hfs
  obtain ⟨pre, nx, post⟩ := hS (a, oe) hz.zc hfs
  have hil : i < (σ1.set i (some (V.ref a))).length := by
    rw [I.len]
    exact (List.getElem?_eq_some_iff.mp hi).1
  refine (pss_one (ps_ret (pe_callE (X := X.suite a ((a, oe) :: pn2)) (E := E0) (h1.mono hjk) (show RoomH k (X.suite a ((a, oe) :: pn2)).A from ⟨hr.dp, hr.un⟩) hot hg hm hk hb (fun _ _ _ _ _ _ _ z => z.elim) (pa_cons (pe_var hi hvis hd1 hd2) pa_nil he) hdb he hpl))).run pins s _ _ _ I ?_
  refine ⟨.ref a, by rw [List.getElem?_set_self (by rw [List.length_set] at hil; exact hil)], ?_⟩
  have q1 : RsAll NT F1 H1 σ1 [V.ref a] [.raw (.ref a)] := ⟨rfl, trivial⟩
  refine ⟨(hn _).symm, F1, [.raw (.ref a)], (call_in o1 q1 rfl rfl).1, pre, fun v r es' F' H' p ns qq o' t => ?_, fun C' es' F' H' p _ _ => nx C' es' p⟩
  obtain ⟨o2, t2⟩ := call_out o1 q1 rfl rfl o' t
  have q2 : RsOk (Nw H1) F' H' σ1 v r := by
    cases r with
    | sl i => cases ns
    | val d => exact qq
    | new ds => exact qq
    | newT C x l ds => exact qq
    | fl i l => cases ns
    | raw w => exact qq
  exact kk.rt v r es1 σ1 F' H' (post r es' p) (q2.ground b1) o2 (b1.tr t2)
end
end HL

set_option Elab.async false
set_option linter.all false
set_option maxRecDepth 100000
set_option maxHeartbeats 4000000
set_option autoImplicit false
namespace HL
open PySem PySem.Spec PyProof.Rows L2 L2H HX
section
variable {X : Cx} {B : Bs} {es : List En} {o e : Expr} {pos apos : Pos} {P : Rs → List En → Prop}
theorem RpAll.strs {H : Hp} : ∀ (ns : List Str), RpAll H (ns.map V.str) (ns.map PyData.str)
  | [] => .nil
  | n :: ns => .cons (.str n) (RpAll.strs ns)
/-- x.split(sep) -/
theorem ee_split (h : EvE X B o es fun r0 es1 => ∃ a, r0 = .val (.str a) ∧ EvE X B e es1 fun r es2 => ∃ b, r = .val (.str b) ∧ (b.length == 0) = false ∧ a.length + 2 ≤ sizeLine ∧ P (.new ((Txt.split a b).map .str)) es2)
    (hbase : attributeBase o "split" X.env (eval o X.env) = eval o X.env := by with_unfolding_all rfl)
    (hfew : ((backTo pos (starEach [e] X.env)).all (fun x => !x.1) && (backToKw pos (keywordEach [] X.env)).all (fun x => x.1.isSome)
      && decide ([e].length + ([] : List Keyword).length + (if ([] : List Keyword).isEmpty then 0 else 1) < 30)) = true := by with_unfolding_all rfl)
    (hline : (apos.endLine == pos.line) = true := by with_unfolding_all rfl) (hs : starEach [e] X.env = (false, eval e X.env) :: starEach [] X.env := by with_unfolding_all rfl) (hplain : (backTo pos (starEach [] X.env)).any (·.1) = false := by with_unfolding_all rfl) :
    EvE X B (.Call (.Attribute o "split" apos) [e] [] pos) es P := fun σ F H ok bd Q k =>
  wE.of (pe_bm PySem.F.plainAttrs_str PySem.F.slot_str_split PySem.F.type_str_split mt_split pe_w (pa_cons pe_w pa_nil hs) hbase hfew hline hs hplain) (h σ F H ok bd _ fun v r0 es1 F1 H1 p1 q1 o1 t1 => by
    obtain ⟨a, rfl, p1⟩ := p1
    cases q1
    refine ⟨rfl, ?_⟩
    refine p1 σ F1 H1 o1 (bd.tr t1) _ fun v2 r2 es2 F2 H2 p2 q2 o2 t2 => ?_
    obtain ⟨b, rfl, hb, hz, p⟩ := p2
    cases q2
    refine ⟨a, b, rfl, rfl, hb, hz, fun l n => ?_⟩
    exact k_lst (P := P) (fun v r es' F' H' p q o t => k v r es' F' H' p (q.back (t1.trans t2)) o ((t1.trans t2).trans t)) o2 p (RpAll.strs _) n)
theorem mem_zipD {ds ds' : List D} {d : D} (h : d ∈ zipD ds ds') : ∃ x y, x ∈ ds ∧ y ∈ ds' ∧ d = .tuple [x, y] := by
  unfold zipD at h
  obtain ⟨p, hp, rfl⟩ := List.mem_map.mp h
  obtain ⟨x, y⟩ := p
  exact ⟨x, y, (List.of_mem_zip hp).1, (List.of_mem_zip hp).2, rfl⟩
end
theorem units65H {k : Nat} {A : Around} (r : RoomH k A) : A.units + 65 < cLine := by have := r.un; omega
/-! ### the errors of a text -/
theorem b_ValueError : bootBuiltins "ValueError" = some (.type "ValueError") := by decide +kernel
structure ErrsOk (K : Fg) (mg : Str → Option Value) (e : Nat → Addr) (m : Addr) : Prop where
  n0 : mg "NoLot" = some (.ref (e 0))
  n1 : mg "NoHeap" = some (.ref (e 1))
  n2 : mg "NoOwn" = some (.ref (e 2))
  n3 : mg "NoWeight" = some (.ref (e 3))
  n4 : mg "NotThere" = some (.ref (e 4))
  n5 : mg "Full" = some (.ref (e 5))
  n6 : mg "Right" = some (.ref (e 6))
  n7 : mg "NothingLeft" = some (.ref (e 7))
  nm : mg "HeapError" = some (.ref m)
  nv : mg "ValueError" = none
  ec : ∀ i, i < 8 → ExcC K (e i)
  kit : ∀ i, i < 8 → ∀ j, j < 8 → PySem.W.kitOne K (.ref (e i)) (.ref (e j)) = some (decide (i = j))
  km : ∀ i, i < 8 → PySem.W.kitOne K (.ref (e i)) (.ref m) = some true
  kv : ∀ i, i < 8 → PySem.W.kitOne K (.ref (e i)) (.type "ValueError") = some true
  ex : ∀ i, i < 8 → PySem.W.exmOne K (.ref (e i)) (.ref m) = some true
theorem ErrsOk.inj {K : Fg} {mg : Str → Option Value} {e : Nat → Addr} {m : Addr} (eo : ErrsOk K mg e m) {i j : Nat} (hi : i < 8) (hj : j < 8) (h : e i = e j) : i = j := by
  have h1 := eo.kit i hi j hj
  have h2 := eo.kit i hi i hi
  rw [← h, h2] at h1
  have h3 := Option.some.inj h1
  rw [decide_eq_true rfl] at h3
  exact of_decide_eq_true h3.symm
def wrd (i : Nat) : Str := ([PySem.Str.ofString "lot", "heap", "own", "weight", "gone", "full", "right", "left"] : List Str).getD i ""
/-- p is one of the errors, as it was made -/
def IsErr (e : Nat → Addr) (p : Addr × Obj) : Prop := ∃ i, i < 8 ∧ Zc (.ref (e i)) none p.2 ∧ ∃ vs, p.2.data = .fields vs
def S_kinds (e : Nat → Addr) (p : Addr × Obj) : FS where
  n := 1
  pre := fun es => es = [.raw (.ref p.1)] ∧ IsErr e p
  post := fun es r es' => es' = es ∧ ∃ i, i < 8 ∧ p.2.cls = .ref (e i) ∧ r = .new [.str (wrd i), .str "mine", .str "value"]
def S_refusal (e : Nat → Addr) (p : Addr × Obj) : FS where
  n := 1
  pre := fun es => es = [.raw (.ref p.1)] ∧ IsErr e p
  post := fun es r es' => es' = es ∧ ∃ i, i < 8 ∧ p.2.cls = .ref (e i) ∧ r = .val (.str (wrd i))
def goodD : D → Bool
  | .tuple [_, .bool b] => b
  | _ => false
def wordD : D → D
  | .tuple (x :: _) => x
  | d => d
abbrev wordsL : List Str := ["lot", "heap", "own", "weight", "gone", "full", "right", "left", "mine", "value"]
theorem split_words : Txt.split "lot heap own weight gone full right left mine value" " " = wordsL := by decide +kernel
def goods (i : Nat) : List Bool := ((List.range 8).map fun j => decide (i = j)) ++ [true, true]
theorem kinds_of {i : Nat} (hi : i < 8) : (((zipD (wordsL.map .str) ((goods i).map .bool)).filter goodD).map wordD) = [.str (wrd i), .str "mine", .str "value"] := by
  match i, hi with
  | 0, _ => rfl
  | 1, _ => rfl
  | 2, _ => rfl
  | 3, _ => rfl
  | 4, _ => rfl
  | 5, _ => rfl
  | 6, _ => rfl
  | 7, _ => rfl
end HL

set_option Elab.async false
set_option linter.all false
set_option maxRecDepth 100000
set_option maxHeartbeats 4000000
set_option autoImplicit false
namespace HL
open PySem PySem.Spec PyProof.Rows L2 L2H HX
section
variable {X : Cx} {o e : Expr} {es : List Expr} {to : TE} {t : TA} {name : Str} {apos cpos : Pos} {id : String} {r : V → List V → Hp → VK → Prop}
/-- t.m(..), t a tuple without a dict -/
theorem pe_bmT (slot : Slot "tuple" name id) (hty : typeOf (.builtin id) = pure (.type "method_descriptor")) (hm : MtR X id r) (ho : PE X o to) (ha : PA X (e :: es) t)
    (hbase : attributeBase o name X.env (eval o X.env) = eval o X.env := by rfl)
    (hfew : ((backTo cpos (starEach (e :: es) X.env)).all (fun x => !x.1) && (backToKw cpos (keywordEach [] X.env)).all (fun x => x.1.isSome)
      && decide ((e :: es).length + ([] : List Keyword).length + (if ([] : List Keyword).isEmpty then 0 else 1) < 30)) = true := by rfl)
    (hline : (apos.endLine == cpos.line) = true := by rfl) (hs : starEach (e :: es) X.env = (false, eval e X.env) :: starEach es X.env := by rfl) (hplain : (backTo cpos (starEach es X.env)).any (·.1) = false := by rfl) :
    PE X (.Call (.Attribute o name apos) (e :: es) [] cpos) (fun σ H Q => to σ H fun x H1 => (∃ a xs, x = .ref a ∧ TupM H1 a xs) ∧ t σ H1 fun xs H2 => r x xs H2 Q) := by
  refine ⟨fun pins s σ H Q I h => ?_⟩
  refine wpAny_Call_method_late hbase hfew hline rfl (thn (ho.run pins s σ H _ I h) fun v s1 ⟨x, H1, I1, r1, ty, q1⟩ => ?_)
  obtain ⟨a, xs, rfl, ob, hob, hcl, hdi⟩ := ty
  cases r1
  have hget : s1.heap.get? a = some ob := (I1.hok a _ hob).1
  refine ⟨"tuple", id, PySem.F.plainAttrs_tuple, slot, hty, ⟨ob, hget, hcl⟩, fun b e2 => by cases e2; exact ⟨ob, hget, hdi⟩, ?_⟩
  have hA := ha.run cpos pins s1 σ H1 _ I1 q1
  rw [hs] at hA ⊢
  refine Calls.callWith_builtin (by show (false || (backTo cpos (starEach es X.env)).any (·.1)) = false; rw [hplain] <;> rfl) (Calls.evalArgs_plain ?_)
  exact thn hA fun us s2 ⟨vs, H2, I2, r2, q2⟩ => hm pins s2 σ H2 (.ref a) vs (.ref a) us Q I2 rfl r2 q2
theorem mt_tindex : MtR X "tuple.index" (fun x xs H Q => ∃ (a : Addr) (ns : List Int) (k : Int), x = .ref a ∧ xs = [.int k] ∧ SqT X.K H a (ns.map V.int) ∧ k ∈ ns ∧ Q (.int (ns.idxOf k : Nat)) H) := by
  intro pins s σ H x xs v us Q I rx rs h
  obtain ⟨a, ns, k, rfl, rfl, hq, hk, q⟩ := h
  cases rx
  cases rs with
  | cons r1 rs =>
    cases rs
    obtain ⟨t, rfl⟩ := r1
    obtain ⟨its, rv, p, _⟩ := I.tuple hq
    exact PySem.SeqAt.tuple_index_ints (show s.heap.IsTuple a its.toArray from p) (intsAre_of rv) hk ⟨.int _, H, I.tok _, ⟨_, rfl⟩, q⟩
theorem mt_tcount (hu : X.A.units + 1 + PySem.W.Datum.depth Int < cLine) : MtR X "tuple.count" (fun x xs H Q => ∃ (a : Addr) (ns : List Int) (k : Int), x = .ref a ∧ xs = [.int k] ∧ SqT X.K H a (ns.map V.int) ∧ Q (.int (ns.count k : Nat)) H) := by
  intro pins s σ H x xs v us Q I rx rs h
  obtain ⟨a, ns, k, rfl, rfl, hq, q⟩ := h
  cases rx
  cases rs with
  | cons r1 rs =>
    cases rs
    obtain ⟨t, rfl⟩ := r1
    obtain ⟨its, rv, p, _⟩ := I.tuple hq
    have hc : (ns.countP fun y => decide (y = k)) = ns.count k := by
      rw [List.count_eq_countP]
      exact List.countP_congr fun y _ => by simp
    refine PySem.W.count_tuple_datum (xs := ns) (x := k) (show s.heap.IsTuple a its.toArray from p) (PySem.W.HoldAll.of_ints (intsAre_of (by simpa using rv))) (PySem.W.holds_int k t) hu ?_
    rw [hc]
    exact ⟨.int _, H, I.tok _, ⟨_, rfl⟩, q⟩
end
section
variable {X : Cx} {B : Bs} {es : List En} {o e : Expr} {pos apos : Pos} {P : Rs → List En → Prop}
theorem ee_tindex (h : EvE X B o es fun r0 es1 => ∃ ns : List Int, r0 = .val (.tuple (ns.map .int)) ∧ EvE X B e es1 fun r es2 => ∃ k : Int, r = .val (.int k) ∧ k ∈ ns ∧ P (.val (.int (ns.idxOf k : Nat))) es2)
    (hbase : attributeBase o "index" X.env (eval o X.env) = eval o X.env := by with_unfolding_all rfl)
    (hfew : ((backTo pos (starEach [e] X.env)).all (fun x => !x.1) && (backToKw pos (keywordEach [] X.env)).all (fun x => x.1.isSome)
      && decide ([e].length + ([] : List Keyword).length + (if ([] : List Keyword).isEmpty then 0 else 1) < 30)) = true := by with_unfolding_all rfl)
    (hline : (apos.endLine == pos.line) = true := by with_unfolding_all rfl) (hs : starEach [e] X.env = (false, eval e X.env) :: starEach [] X.env := by with_unfolding_all rfl) (hplain : (backTo pos (starEach [] X.env)).any (·.1) = false := by with_unfolding_all rfl) :
    EvE X B (.Call (.Attribute o "index" apos) [e] [] pos) es P := fun σ F H ok bd Q k =>
  wE.of (pe_bmT PySem.F.slot_tuple_index PySem.F.type_tuple_index mt_tindex pe_w (pa_cons pe_w pa_nil hs) hbase hfew hline hs hplain) (h σ F H ok bd _ fun v r0 es1 F1 H1 p1 q1 o1 t1 => by
    obtain ⟨ns, rfl, p1⟩ := p1
    cases q1 with
    | tup g1 g2 =>
      rw [g2.toInts] at g1
      refine ⟨⟨_, _, rfl, g1.mono o1.sub⟩, ?_⟩
      refine p1 σ F1 H1 o1 (bd.tr t1) _ fun v2 r2 es2 F2 H2 p2 q2 o2 t2 => ?_
      obtain ⟨i, rfl, hk, p⟩ := p2
      cases q2
      exact ⟨_, ns, i, rfl, rfl, (g1.mono (t2.exF.trans o2.sub)).seq, hk, k _ _ es2 F2 H2 p (.int _) o2 (t1.trans t2)⟩)
theorem ee_tcount (hu : X.A.units + 65 < cLine) (h : EvE X B o es fun r0 es1 => ∃ ns : List Int, r0 = .val (.tuple (ns.map .int)) ∧ EvE X B e es1 fun r es2 => ∃ k : Int, r = .val (.int k) ∧ P (.val (.int (ns.count k : Nat))) es2)
    (hbase : attributeBase o "count" X.env (eval o X.env) = eval o X.env := by with_unfolding_all rfl)
    (hfew : ((backTo pos (starEach [e] X.env)).all (fun x => !x.1) && (backToKw pos (keywordEach [] X.env)).all (fun x => x.1.isSome)
      && decide ([e].length + ([] : List Keyword).length + (if ([] : List Keyword).isEmpty then 0 else 1) < 30)) = true := by with_unfolding_all rfl)
    (hline : (apos.endLine == pos.line) = true := by with_unfolding_all rfl) (hs : starEach [e] X.env = (false, eval e X.env) :: starEach [] X.env := by with_unfolding_all rfl) (hplain : (backTo pos (starEach [] X.env)).any (·.1) = false := by with_unfolding_all rfl) :
    EvE X B (.Call (.Attribute o "count" apos) [e] [] pos) es P := fun σ F H ok bd Q k =>
  wE.of (pe_bmT PySem.F.slot_tuple_count PySem.F.type_tuple_count (mt_tcount (by show X.A.units + 1 + 0 < cLine; omega)) pe_w (pa_cons pe_w pa_nil hs) hbase hfew hline hs hplain) (h σ F H ok bd _ fun v r0 es1 F1 H1 p1 q1 o1 t1 => by
    obtain ⟨ns, rfl, p1⟩ := p1
    cases q1 with
    | tup g1 g2 =>
      rw [g2.toInts] at g1
      refine ⟨⟨_, _, rfl, g1.mono o1.sub⟩, ?_⟩
      refine p1 σ F1 H1 o1 (bd.tr t1) _ fun v2 r2 es2 F2 H2 p2 q2 o2 t2 => ?_
      obtain ⟨i, rfl, p⟩ := p2
      cases q2
      exact ⟨_, ns, i, rfl, rfl, (g1.mono (t2.exF.trans o2.sub)).seq, k _ _ es2 F2 H2 p (.int _) o2 (t1.trans t2)⟩)
end
/-! ### a list of ours that is only read from now on -/
section
variable {X : Cx} {B : Bs} {es : List En} {sts : List Stmt} {D : Dn}
theorem ess_freeze {np : Nat} (i : Nat) {ds : List HL.D} (hB : ∀ j a, B.par j a → j < np) (hi : es[i]? = some (.own ds)) (h : EvSs X B sts (es.set i (.val (.list ds))) D) (hn : np ≤ i := by decide) : EvSs X B sts es D := fun σ F H ok bd E k => by
  obtain ⟨v, lp, ws, e1, pt, _, f1, hh, ra⟩ := ok.slO (t := none) hi
  have pt : v = .ref lp := pt
  subst pt
  have oat : OwAt es σ i lp := ⟨none, ds, _, hi, e1, rfl⟩
  have oi : Ow es σ lp := ⟨i, oat⟩
  have nO : ¬ B.O lp := fun z => by
    obtain ⟨j, hj⟩ := bd.opar lp z
    have e := ok.sep i j lp oat (bd.par j lp hj)
    have := hB j lp hj
    omega
  have nB : B.H lp = none := (bd.ow lp oi).resolve_left nO
  have hil : i < es.length := (List.getElem?_eq_some_iff.mp hi).1
  have sm : Same F (upd F lp (.lst ws)) := same_new f1
  have own : ∀ {j : Nat} {t : Tg} {d : List HL.D}, (es.set i (.val (.list ds)))[j]? = some (mkO t d) → j ≠ i ∧ es[j]? = some (mkO t d) := fun {j t d} z => by
    rcases get_set z with ⟨rfl, z2, _⟩ | ⟨ne, z2⟩
    · exact absurd (congrArg some z2) (not_mk rfl).symm
    · exact ⟨ne, z2⟩
  have owa : ∀ {j a}, OwAt (es.set i (.val (.list ds))) σ j a → j ≠ i ∧ OwAt es σ j a := fun {j a} ⟨t, d, v, z1, z2, z3⟩ => by
    obtain ⟨ne, z4⟩ := own z1
    exact ⟨ne, t, d, v, z4, z2, z3⟩
  have ow : ∀ a, Ow (es.set i (.val (.list ds))) σ a → Ow es σ a ∧ a ≠ lp := fun a ⟨j, z⟩ => by
    obtain ⟨ne, z3⟩ := owa z
    refine ⟨⟨j, z3⟩, fun e => ?_⟩
    rw [e] at z3
    exact ne (ok.sep j i lp z3 oat)
  have ok' : Ok X.K (es.set i (.val (.list ds))) σ (upd F lp (.lst ws)) H := by
    refine ⟨by rw [List.length_set]; exact ok.len, fun j en z => ?_, fun j1 j2 a z1 z2 => ok.sep j1 j2 a (owa z1).2 (owa z2).2, fun a x z => ?_⟩
    · rcases get_set z with ⟨rfl, rfl, _⟩ | ⟨ne, z2⟩
      · exact ⟨_, e1, .lst upd_same (Rp.monoAll sm ds ws ra)⟩
      · have y := ok.slot j en z2
        have key : ∀ {t d2}, es[j]? = some (mkO t d2) → SlO F H σ[j]? t d2 → SlO (upd F lp (.lst ws)) H σ[j]? t d2 := fun {t d2} z2 y => by
          obtain ⟨v2, p2, w2, y1, pp, ii, y2, y3, y4⟩ := y
          have np2 : p2 ≠ lp := fun e => ne (ok.sep j i lp ⟨t, d2, v2, z2, y1, by rw [← e]; exact pp⟩ oat)
          exact ⟨v2, p2, w2, y1, pp, ii.mono sm, by rw [upd_ne np2]; exact y2, y3, Rp.monoAll sm d2 w2 y4⟩
        cases en with
        | own d2 => exact key (t := none) z2 y
        | tab C x l d2 => exact key (t := some (C, x, l)) z2 y
        | val d2 => exact y.keepV rfl sm
        | no => trivial
        | scr ns => exact y.keepV rfl sm
        | raw v => exact y
    · by_cases e : a = lp
      · subst e
        rw [upd_same] at z
        cases z
        exact hh
      · rw [upd_ne e] at z
        exact ok.sub a x z
  have bd' : Bd B (es.set i (.val (.list ds))) σ (upd F lp (.lst ws)) H := by
    refine ⟨bd.exF.trans sm, fun a z1 z2 => ?_, bd.fr, bd.dom, fun a z => bd.ow a (ow a z).1, fun j a z => ?_, bd.opar, bd.tp, fun j a t v z => ?_⟩
    · have ne : a ≠ lp := fun e => by rw [e] at z2; exact z2 nB
      rw [upd_ne ne]
      exact bd.new a z1 z2
    · obtain ⟨t, d2, v2, z1, z2, z3⟩ := bd.par j a z
      have ne : i ≠ j := fun e => by have := hB j a z; omega
      exact ⟨t, d2, v2, by rw [List.getElem?_set_ne ne]; exact z1, z2, z3⟩
    · obtain ⟨d2, z1, z2⟩ := bd.tg j a t v z
      have ne : i ≠ j := fun e => by have := hB j a (bd.tp j a t v z); omega
      exact ⟨d2, by rw [List.getElem?_set_ne ne]; exact z1, z2⟩
  exact h σ _ H ok' bd' E (k.later sm)
end
end HL

set_option Elab.async false
set_option linter.all false
set_option maxRecDepth 100000
set_option maxHeartbeats 4000000
set_option autoImplicit false
namespace HL
open PySem PySem.Spec PyProof.Rows L2 L2H HX
/-- what the text's eight errors must be, looked up at once -/
def errOne (K : Fg) (cs : List Addr) (m : Addr) (i : Nat) (C : Addr) : Bool :=
  ((((((((PySem.W.findIn K (.ref C) "__getattribute__" == some (some (.builtin "BaseException.__getattribute__"))) && (PySem.W.findIn K (.ref C) "__getattr__" == some none))
    && (PySem.W.subIn K (.ref C) (.type "BaseException") == some true)) && PySem.W.hasDictIn K C) && (PySem.W.findIn K (.ref C) "__class__" == some (some (.builtin "object.__class__"))))
    && (PySem.W.specialIn K (.builtin "object.__class__") "__get__" == some (some (.builtin "getset_descriptor.__get__")))) && (PySem.W.takesIn K (.builtin "object.__class__") == some true)) && (PySem.W.mroIn K C (.type "object") == some true))
    && ((((((List.range 8).all fun j => PySem.W.kitOne K (.ref C) (.ref (cs.getD j 0)) == some (decide (i = j))) && (PySem.W.kitOne K (.ref C) (.ref m) == some true)) && (PySem.W.kitOne K (.ref C) (.type "ValueError") == some true)) && (PySem.W.exmOne K (.ref C) (.ref m) == some true))
    && ((PySem.W.excIn K C [.type "ValueError", .type "Exception", .type "BaseException", .type "object"] "ValueError.__new__" && PySem.W.keepIn K (.ref C)) && (PySem.W.typeIn K (.ref C) == some (.type "type"))))
def errChk (K : Fg) (cs : List Addr) (m : Addr) : Bool := (List.range 8).all fun i => errOne K cs m i (cs.getD i 0)
theorem errs_of {K : Fg} {mg : Str → Option Value} {cs : List Addr} {m : Addr} (h : errChk K cs m = true) (n0 : mg "NoLot" = some (.ref (cs.getD 0 0))) (n1 : mg "NoHeap" = some (.ref (cs.getD 1 0))) (n2 : mg "NoOwn" = some (.ref (cs.getD 2 0))) (n3 : mg "NoWeight" = some (.ref (cs.getD 3 0)))
    (n4 : mg "NotThere" = some (.ref (cs.getD 4 0))) (n5 : mg "Full" = some (.ref (cs.getD 5 0))) (n6 : mg "Right" = some (.ref (cs.getD 6 0))) (n7 : mg "NothingLeft" = some (.ref (cs.getD 7 0))) (nm : mg "HeapError" = some (.ref m)) (nv : mg "ValueError" = none) :
    ErrsOk K mg (fun i => cs.getD i 0) m ∧ ∀ (i : Nat) (x : Str), i < 8 → mg x = some (.ref (cs.getD i 0)) → ExT K mg x (cs.getD i 0) := by
  have one : ∀ i, i < 8 → errOne K cs m i (cs.getD i 0) = true := fun i hi => List.all_eq_true.mp h i (List.mem_range.mpr hi)
  have all : ∀ i, i < 8 → (ExcC K (cs.getD i 0)) ∧ (∀ j, j < 8 → PySem.W.kitOne K (.ref (cs.getD i 0)) (.ref (cs.getD j 0)) = some (decide (i = j))) ∧ PySem.W.kitOne K (.ref (cs.getD i 0)) (.ref m) = some true ∧ PySem.W.kitOne K (.ref (cs.getD i 0)) (.type "ValueError") = some true ∧ PySem.W.exmOne K (.ref (cs.getD i 0)) (.ref m) = some true ∧
      PySem.W.excIn K (cs.getD i 0) [.type "ValueError", .type "Exception", .type "BaseException", .type "object"] "ValueError.__new__" = true ∧ PySem.W.keepIn K (.ref (cs.getD i 0)) = true ∧ PySem.W.typeIn K (.ref (cs.getD i 0)) = some (.type "type") := fun i hi => by
    have z := one i hi
    unfold errOne at z
    simp only [Bool.and_eq_true, List.all_eq_true, List.mem_range, beq_iff_eq] at z
    obtain ⟨⟨⟨⟨⟨⟨⟨⟨a1, a2⟩, a3⟩, a4⟩, a5⟩, a6⟩, a7⟩, a8⟩, ⟨⟨⟨b1, b2⟩, b3⟩, b4⟩, ⟨c1, c2⟩, c3⟩ := z
    exact ⟨⟨a1, a2, a3, a4, a5, a6, a7, a8⟩, b1, b2, b3, b4, c1, c2, c3⟩
  refine ⟨⟨n0, n1, n2, n3, n4, n5, n6, n7, nm, nv, fun i hi => (all i hi).1, fun i hi => (all i hi).2.1, fun i hi => (all i hi).2.2.1, fun i hi => (all i hi).2.2.2.1, fun i hi => (all i hi).2.2.2.2.1⟩, fun i x hi hx => ?_⟩
  obtain ⟨h1, _, _, _, _, h6, h7, h8⟩ := all i hi
  exact ⟨h6, hx, h7, h1.hs, h8⟩
end HL

set_option Elab.async false
set_option linter.all false
set_option maxRecDepth 100000
set_option maxHeartbeats 4000000
set_option autoImplicit false
namespace HL
open PySem PySem.Spec PyProof.Rows L2
/-! ### sorted(..) of rows: a place and a lot -/
abbrev rowD (p : Int × List Int) : D := .tuple [.int p.1, tupL p.2]
def rowC (p : Int × List Int) : List Int := p.1 :: p.2
theorem rowC_inj {a b : Int × List Int} (h : rowC a = rowC b) : a = b := by
  unfold rowC at h
  injection h with h1 h2
  exact Prod.ext h1 h2
theorem dataLe_row {α : Type} (x : α → Int × List Int) : PySem.W.dataLe false (fun b => rowD (x b)) = fun p q => decide (rowC (x p) ≤ rowC (x q)) := by
  funext p q
  show (!PySem.W.dataLt (rowD (x q)) (rowD (x p))) = _
  have ha : PySem.W.alike (tupL (x q).2) (tupL (x p).2) = true := by rw [PySem.W.alike]; exact PySem.W.alike_ints _ _
  rw [PySem.W.dataLt_pair (by rfl) ha, PySem.W.dataLt_int]
  have e2 : PySem.W.dataLt (tupL (x q).2) (tupL (x p).2) = decide ((x q).2 < (x p).2) := by
    rw [PySem.W.dataLt_tuple]
    exact PySem.W.dataLt_ints _ _
  rw [e2]
  have e3 : PyData.eqv (.int (x q).1) (.int (x p).1) = decide ((x q).1 = (x p).1) := by
    rw [Bool.eq_iff_iff]; simp [PyData.eqv]
  rw [e3]
  have key : (rowC (x p) ≤ rowC (x q)) ↔ ¬ ((x q).1 < (x p).1 ∨ ((x q).1 = (x p).1 ∧ (x q).2 < (x p).2)) := by
    unfold rowC
    rw [← List.not_lt, List.cons_lt_cons_iff]
  by_cases h1 : (x q).1 = (x p).1
  · rw [if_pos (decide_eq_true h1)]
    by_cases h2 : (x q).2 < (x p).2
    · have h3 : ¬ rowC (x p) ≤ rowC (x q) := fun z => key.mp z (.inr ⟨h1, h2⟩)
      have h4 : PyData.eqv (tupL (x q).2) (tupL (x p).2) = false := by
        rw [Bool.eq_false_iff]
        intro z
        have := (PySem.W.toks_eqv _ _ ha).1 z
        have e4 : PySem.W.dataLt (tupL (x q).2) (tupL (x p).2) = false := by
          unfold PySem.W.dataLt
          rw [this]
          exact lex_irrefl _
        rw [e2, decide_eq_true h2] at e4
        cases e4
      rw [h4, if_neg (by decide), decide_eq_true h2, decide_eq_false h3]
      rfl
    · have h3 : rowC (x p) ≤ rowC (x q) := key.mpr fun z => z.elim (fun z => by omega) (fun z => h2 z.2)
      rw [decide_eq_true h3, decide_eq_false h2]
      split <;> rfl
  · rw [if_neg (by rw [decide_eq_false h1]; decide)]
    by_cases h2 : (x q).1 < (x p).1
    · have h3 : ¬ rowC (x p) ≤ rowC (x q) := fun z => key.mp z (.inl h2)
      rw [decide_eq_true h2, decide_eq_false h3]
      rfl
    · have h3 : rowC (x p) ≤ rowC (x q) := key.mpr fun z => z.elim h2 (fun z => h1 z.1)
      rw [decide_eq_false h2, decide_eq_true h3]
      rfl
def rSortedR (K : Fg) : List V → Hp → VK → Prop := fun xs H Q => ∃ (a : Addr) (ps : List (V × (Int × List Int))), xs = [.ref a] ∧ SqL K H a (ps.map (·.1)) ∧ (∀ b ∈ ps, Dp K H b.1 (rowD b.2)) ∧
  ∀ ps' : List (V × (Int × List Int)), ps'.Perm ps → ps'.Pairwise (fun b c => rowC b.2 ≤ rowC c.2) → ∀ p, H p = none → Q (.ref p) (upd H p (.lst (ps'.map (·.1))))
theorem each_ofR {ps : List (V × (Int × List Int))} : ∀ {its : List Value}, Vals (ps.map (·.1)) its → PySem.W.EachIs (fun v b => RelV b.1 v) its ps := by
  induction ps with
  | nil => intro its h; cases h; exact .nil
  | cons b ps ih =>
    intro its h
    cases h with
    | cons h1 h2 => exact .cons h1 (ih h2)
theorem of_eachR {ps : List (V × (Int × List Int))} : ∀ {its : List Value}, PySem.W.EachIs (fun v b => RelV b.1 v) its ps → Vals (ps.map (·.1)) its := by
  induction ps with
  | nil => intro its h; cases h; exact .nil
  | cons b ps ih =>
    intro its h
    cases h with
    | cons h1 h2 => exact .cons h1 (ih h2)
theorem each_readsR {X : Cx} {pins : List (Addr × Obj)} {σ : L2.St} {H : Hp} {s : Shared} (I : L2.Inv X pins σ H s) {ps : List (V × (Int × List Int))} : ∀ {its : List Value}, PySem.W.EachIs (fun v b => RelV b.1 v) its ps → (∀ b ∈ ps, Dp X.K H b.1 (rowD b.2)) →
    PySem.W.EachIs (fun v b => ∃ as, Reads s.heap v (rowD b.2) as) its ps := by
  induction ps with
  | nil => intro its h _; cases h; exact .nil
  | cons b ps ih =>
    intro its h hd
    cases h with
    | cons h1 h2 => exact .cons (Dp.reads I _ _ _ (hd b List.mem_cons_self) h1) (ih h2 fun c hc => hd c (List.mem_cons_of_mem _ hc))
theorem cr_sortedR {X : Cx} (hu : X.A.units + 65 < cLine) : CallR X (.builtin "sorted") (rSortedR X.K) := by
  intro pins s σ H vs us Q I r h
  obtain ⟨a, ps, rfl, hs, hd, q⟩ := h
  obtain ⟨its, rv, hl, hz⟩ := I.list hs
  rw [Vals.ref1 r]
  have e := each_ofR rv
  rw [List.length_map] at hz
  refine PySem.W.sorted_data (enc := fun b : V × (Int × List Int) => rowD b.2) hl.isList e (each_readsR I e hd) (PySem.W.AllAlike.of fun b b' => ?_) (PySem.W.Sortable.tuples fun b => ⟨_, _, rfl⟩) hz (fun b _ => ?_) fun out ho hr => ?_
  · show PySem.W.alikeAll [.int b.2.1, tupL b.2.2] [.int b'.2.1, tupL b'.2.2] = true
    show (PySem.W.alike (.int b.2.1) (.int b'.2.1) && (PySem.W.alike (tupL b.2.2) (tupL b'.2.2) && true)) = true
    have : PySem.W.alike (tupL b.2.2) (tupL b'.2.2) = true := by rw [PySem.W.alike]; exact PySem.W.alike_ints _ _
    rw [this]; rfl
  · have h1 : (tupL b.2.2).depth = 1 := by show PyData.depth (.tuple _) = 1; rw [PyData.depth, PySem.W.depth_ints]
    have : (rowD b.2).depth = 2 := by
      show PyData.depth (.tuple [.int b.2.1, tupL b.2.2]) = 2
      rw [PyData.depth, PyData.depthAll, PyData.depthAll, PyData.depthAll, h1]
      rfl
    rw [this]; omega
  · rw [dataLe_row Prod.snd] at hr
    have pm : (ps.mergeSort fun p q => decide (rowC p.2 ≤ rowC q.2)).Perm ps := List.mergeSort_perm ps _
    have pw : (ps.mergeSort fun p q => decide (rowC p.2 ≤ rowC q.2)).Pairwise fun b c => rowC b.2 ≤ rowC c.2 := by
      have h := List.pairwise_mergeSort (le := fun p q : V × (Int × List Int) => decide (rowC p.2 ≤ rowC q.2)) (by intro a b c; simp only [decide_eq_true_eq]; exact List.le_trans) (by intro a b; simp only [Bool.or_eq_true, decide_eq_true_eq]; exact List.le_total _ _) ps
      exact h.imp fun h => of_decide_eq_true h
    obtain ⟨ep, he'⟩ := PyProof.Rows.sortedAll_at s.heap its out.toArray
    have hlen : ((ps.mergeSort fun p q => decide (rowC p.2 ≤ rowC q.2)).map (·.1)).length ≤ sizeLine := by
      rw [List.length_map, pm.length_eq]
      exact hz
    exact ⟨.ref _, upd H (s.heap.objs.size + 1) (.lst ((ps.mergeSort fun p q => decide (rowC p.2 ≤ rowC q.2)).map (·.1))), I.laid (t' := s.toks) (fun _ _ => PyProof.Rows.sortedAll_old) (Nat.le_succ _) ⟨hlen, out, ep, of_eachR hr, he'⟩, rfl, q _ pm pw _ (I.hok.fresh (Nat.le_succ _))⟩
section
variable {X : Cx} {es : List En} {P : Rs → List En → Prop} {r : Rs}
theorem zip_dpR {K : Fg} {F H : Hp} (s : Same F H) : ∀ {ls : List (Int × List Int)} {vs : List V}, RpAll F vs (ls.map rowD) → ∃ ps : List (V × (Int × List Int)), vs = ps.map (·.1) ∧ ls = ps.map (·.2) ∧ (∀ b ∈ ps, Dp K H b.1 (rowD b.2)) ∧ ∀ b ∈ ps, Rp F b.1 (rowD b.2)
  | [], vs, ra => by cases ra; exact ⟨[], rfl, rfl, nofun, nofun⟩
  | l :: ls, vs, ra => by
    cases ra with
    | cons h1 h2 =>
      obtain ⟨ps, e1, e2, h3, h4⟩ := zip_dpR (K := K) s h2
      rename_i v vs'
      refine ⟨(v, l) :: ps, by rw [e1]; rfl, by rw [e2]; rfl, fun b hb => ?_, fun b hb => ?_⟩
      · rcases List.mem_cons.mp hb with rfl | hb
        · exact Rp.dp s _ _ h1
        · exact h3 b hb
      · rcases List.mem_cons.mp hb with rfl | hb
        · exact h1
        · exact h4 b hb
theorem rp_zipR {F : Hp} : ∀ {ps : List (V × (Int × List Int))}, (∀ b ∈ ps, Rp F b.1 (rowD b.2)) → RpAll F (ps.map (·.1)) ((ps.map (·.2)).map rowD)
  | [], _ => .nil
  | b :: ps, h => .cons (h b List.mem_cons_self) (rp_zipR fun c hc => h c (List.mem_cons_of_mem _ hc))
/-- sorted(..) of a list of rows -/
theorem c_sortedR (hu : X.A.units + 65 < cLine) {ls : List (Int × List Int)} (h : den es r = some (.list (ls.map rowD))) (p : ∀ ls' : List (Int × List Int), ls'.Perm ls → ls'.Pairwise (fun a b => rowC a ≤ rowC b) → P (.new (ls'.map rowD)) es) : RdC X (cW X (.builtin "sorted")) [r] es P :=
  RdC.of (cr_sortedR hu) fun σ F H vs o q Q k => by
    obtain ⟨v, rfl, q1⟩ := rs1 q
    obtain ⟨a, ws, rfl, e, ra⟩ := q1.seqL o h
    obtain ⟨ps, rfl, rfl, h1, h2⟩ := zip_dpR (K := X.K) o.sub ra
    refine ⟨a, ps, rfl, e, h1, fun ps' pm pw pp hp => ?_⟩
    refine k_lst k o (p (ps'.map (·.2)) (pm.map _) ?_) (rp_zipR fun b hb => h2 b (pm.mem_iff.mp hb)) hp
    exact List.pairwise_map.mpr pw
end
end HL

set_option Elab.async false
set_option linter.all false
set_option maxRecDepth 100000
set_option maxHeartbeats 2000000
set_option autoImplicit false
namespace HL
open PySem PySem.Spec PyProof.Rows L2
section
variable {X : Cx} {es : List En} {P : Rs → List En → Prop} {r : Rs}
/-- max(..) of a list of ints -/
theorem c_maxL (hc : X.calm = true) {ns : List Int} (h : den es r = some (.list (ns.map .int))) (hn : 0 < ns.length) (p : ∀ m, m ∈ ns → (∀ y, y ∈ ns → y ≤ m) → P (.val (.int m)) es) : RdC X (cW X (.builtin "max")) [r] es P :=
  RdC.of (cr_max hc) fun σ F H vs o q Q k => by
    obtain ⟨v, rfl, q1⟩ := rs1 q
    obtain ⟨a, ws, rfl, e, ra⟩ := q1.seqL o h
    rw [ra.toInts] at e
    exact ⟨a, ns, rfl, e, hn, fun m h1 h2 => k_val k o (p m h1 h2) (.int _)⟩
end
end HL

set_option Elab.async false
set_option linter.all false
set_option maxRecDepth 100000
set_option maxHeartbeats 4000000
set_option autoImplicit false
/-! a tuple turned round; a piece of a list of ours stored; list(range(..)); a def picked from a list of defs -/
namespace HL
open PySem PySem.Spec PyProof.Rows L2 HT
section
variable {prog : Program} {w : World} {A : Around} {E : Value → Shared → Prop} {s : Shared}
theorem rev_adjust (n : Nat) : Builtin.Slice.sliceAdjust none none (-1) (n : Int) = ((n : Int) - 1, -1) := by
  unfold Builtin.Slice.sliceAdjust
  rfl
theorem rev_places (n : Nat) : Builtin.Slice.slicePlaces ((n : Int) - 1) (-1) (-1) = n := by
  unfold Builtin.Slice.slicePlaces
  rw [if_neg (by decide)]
  by_cases h : (n : Int) - 1 > -1
  · rw [if_pos h]
    have e : -(-1 : Int) = 1 := rfl
    rw [e, Int.ediv_one]
    omega
  · rw [if_neg h]
    omega
theorem rev_applied {sl : Addr} {vl vu vs : Value} {n : Nat} {Q : Int × Int × Nat → Shared → Prop} (hs : s.heap.IsSliceOf sl vl vu vs) (pl : IsPart vl none) (pu : IsPart vu none) (ps : IsPart vs (some (-1)))
    (h : Q ((n : Int) - 1, -1, n) s) : wpAny (model prog w) A (Builtin.Slice.sliceApplied (.ref sl) (pure (n : Int))) Q E s := by
  obtain ⟨os, hos, hcs, hds⟩ := id hs
  unfold Builtin.Slice.sliceApplied Builtin.Slice.sliceFields
  refine wpAny_bind (wpAny_bind (wpAny_field hos hds (x := vl) rfl (wpAny_bind (wpAny_field hos hds (x := vu) rfl (wpAny_bind (wpAny_field hos hds (x := vs) rfl (wpAny_pure ?_)))))))
  refine wpAny_bind (slicePart_ ps ?_)
  show wpAny _ _ (if ((-1 : Int) == 0) = true then _ else _) _ _ s
  rw [if_neg (by decide)]
  refine wpAny_bind (slicePart_ pl (wpAny_bind (slicePart_ pu (wpAny_bind (wpAny_pure ?_)))))
  show wpAny _ _ (match Builtin.Slice.sliceAdjust none none (-1) (n : Int) with | (lo, hi) => pure (lo, (-1 : Int), Builtin.Slice.slicePlaces lo hi (-1))) _ _ s
  rw [rev_adjust]
  show wpAny _ _ (pure ((n : Int) - 1, (-1 : Int), Builtin.Slice.slicePlaces ((n : Int) - 1) (-1) (-1))) _ _ s
  rw [rev_places]
  exact wpAny_pure h
theorem rev_pick (xs : List Value) : ∀ n : Nat, n ≤ xs.length → (List.range n).filterMap (fun m : Nat => xs.toArray[((n : Int) - 1 + (m : Int) * -1).toNat]?) = (xs.take n).reverse := by
  intro n
  induction n with
  | zero => intro _; rfl
  | succ n ih =>
    intro h
    have h1 : n < xs.length := h
    rw [List.range_succ_eq_map, List.filterMap_cons, List.filterMap_map]
    have e0 : (((n + 1 : Nat) : Int) - 1 + ((0 : Nat) : Int) * -1).toNat = n := by omega
    rw [e0]
    have e1 : xs.toArray[n]? = some xs[n] := by simp [h1]
    rw [e1]
    have e2 : ((fun m : Nat => xs.toArray[(((n + 1 : Nat) : Int) - 1 + (m : Int) * -1).toNat]?) ∘ Nat.succ) = fun m : Nat => xs.toArray[((n : Int) - 1 + (m : Int) * -1).toNat]? := by
      funext m
      show xs.toArray[(((n + 1 : Nat) : Int) - 1 + ((m + 1 : Nat) : Int) * -1).toNat]? = _
      have : (((n + 1 : Nat) : Int) - 1 + ((m + 1 : Nat) : Int) * -1).toNat = ((n : Int) - 1 + (m : Int) * -1).toNat := by omega
      rw [this]
    rw [e2, ih (by omega), List.take_succ_eq_append_getElem h1, List.reverse_append]
    rfl
theorem getItem_tuple_rev {t sl : Addr} {its : List Value} {vl vu vs : Value} {Q : Value → Shared → Prop} (ht : IsTup s.heap t its.toArray) (hs : s.heap.IsSliceOf sl vl vu vs) (pl : IsPart vl none) (pu : IsPart vu none) (ps : IsPart vs (some (-1)))
    (h : Q (.ref s.heap.objs.size) { s with heap := s.heap.push { cls := .type "tuple", data := .seq its.reverse.toArray } }) (hz : its.length ≤ sizeLine) : wpAny (model prog w) A (getItem (.ref t) (.ref sl)) Q E s := by
  have hn : its.toArray.size = its.length := List.size_toArray
  have hzz : sizeOk (.seq its.reverse.toArray) := by
    show its.reverse.toArray.size ≤ sizeLine
    rw [List.size_toArray, List.length_reverse]; exact hz
  obtain ⟨os, hos, hcs, hds⟩ := id hs
  have hT : s.TypeIs (.ref sl) "slice" := ⟨os, hos, hcs⟩
  unfold getItem
  try with_reducible refine wpAny_holding ?_
  first | refine wpAny_bind (wpAny_pure ?_) | skip
  refine wpAny_bind (wpAny_sequenceKey ht.typeIs (by decide) (wpAny_bind (wpAny_callSpecial?_slot (name := Str.ofString "__getitem__") ht.typeIs PyProof.Rows.slot_tuple_getitem (wpAny_call_entry PyProof.Rows.slot_tuple_getitem ht.typeIs entry_tuple_getitem ?_ (args_tuple_getitem _ _)))))
  show wpAny _ _ (Builtin.Tuple.tupleItemsOf (.ref t) >>= _) _ _ s
  refine wpAny_bind (tupleItemsOf_ ht (wpAny_bind (wpAny_typeOf hT ?_)))
  rw [if_pos (by decide)]
  refine wpAny_bind (rev_applied (n := its.toArray.size) hs pl pu ps ?_)
  have hno : ¬ ((((its.toArray.size : Nat) : Int) - 1 == 0 && (-1 : Int) == 1 && its.toArray.size == its.toArray.size) = true) := by
    intro q
    rw [Bool.and_eq_true, Bool.and_eq_true] at q
    exact absurd q.1.2 (by decide)
  have hp : ((List.range its.toArray.size).filterMap fun m : Nat => its.toArray[(((its.toArray.size : Nat) : Int) - 1 + (m : Int) * -1).toNat]?).toArray = its.reverse.toArray := by
    rw [hn, rev_pick its its.length (Nat.le_refl _), List.take_length]
  show wpAny _ _ (if (((its.toArray.size : Nat) : Int) - 1 == 0 && (-1 : Int) == 1 && its.toArray.size == its.toArray.size) = true then _ else _) _ _ s
  rw [if_neg hno, hp]
  first
    | exact wpAny_bind (m := Builtin.Tuple.tupleExact _) (wpAny_newObj_type (wpAny_pure ⟨_, rfl, wpAny_pure h⟩) hzz)
    | exact wpAny_bind (m := Builtin.Tuple.tupleExact _) (wpAny_newObj_type (wpAny_bind (wpAny_pure (wpAny_pure ⟨_, rfl, wpAny_pure h⟩))) hzz)
    | exact wpAny_bind (wpAny_bind (m := Builtin.Tuple.tupleExact _) (wpAny_newObj_type (wpAny_pure (wpAny_pure ⟨_, rfl, wpAny_pure h⟩)) hzz))
    | exact wpAny_bind (wpAny_bind (m := Builtin.Tuple.tupleExact _) (wpAny_newObj_type (wpAny_pure ⟨_, rfl, wpAny_pure h⟩) hzz))
end
section
variable {X : Cx}
def tRevT (K : Fg) (te : TE) : TE := fun σ H Q => te σ H fun x H1 => ∃ a xs, x = .ref a ∧ SqT K H1 a xs ∧ xs.length ≤ sizeLine ∧ Tnew xs.reverse H1 Q
theorem pe_revT {e : Expr} {te : TE} {k : Nat} {p1 p2 p3 pos : Pos} (he : PE X e te) : PE X (.Subscript e (.Slice none none (some (.UnaryOp .USub (.Constant (.int 1) k p1) p2)) p3) pos) (tRevT X.K te) := by
  refine ⟨fun pins s σ H Q I h => Subscript_ (thn (he.run pins s σ H _ I h) fun v s1 ⟨x, H1, I1, r1, q1⟩ => ?_)⟩
  obtain ⟨a, xs, ex, hx, hlz, q⟩ := q1
  subst ex
  cases r1
  have st : PO X (some (.UnaryOp .USub (.Constant (.int 1) k p1) p2)) (tPart (tUn (rU fun i => .int (-i)) (tC (.int 1)))) := po_some (pe_un un_neg pe_int)
  refine wpAny_Slice (thn (po_none.run pins s1 σ H1 (fun o H2 => o = none ∧ H2 = H1) I1 ⟨rfl, rfl⟩) fun vl s2 ⟨l, H2, I2, pl, el, e2⟩ => ?_)
  subst el
  subst e2
  refine thn (po_none.run pins s2 σ H2 (fun o H3 => o = none ∧ H3 = H2) I2 ⟨rfl, rfl⟩) fun vu s3 ⟨u, H3, I3, pu, eu, e3⟩ => ?_
  subst eu
  subst e3
  refine thn (st.run pins s3 σ H3 (fun o H4 => o = some (-1) ∧ H4 = H3) I3 ⟨1, rfl, -1, rfl, rfl, rfl⟩) fun vs s4 ⟨o, H4, I4, ps, eo, e4⟩ => ?_
  subst eo
  subst e4
  have I5 : Inv X pins σ H4 { s4 with heap := s4.heap.push { cls := .type "slice", data := .fields #[vl, vu, vs] } } := I4.kept (t' := s4.toks) fun b ob g => Heap.get?_push_of_some _ g
  obtain ⟨its, r, ht, hz⟩ := I5.tuple hx
  refine tail_any (ops := [.ref a, .ref s4.heap.objs.size]) ht.typeIs PyProof.Rows.slot_tuple_getitem.lookup ?_ (by with_unfolding_all rfl)
  refine getItem_tuple_rev ht (Heap.IsSliceOf.new _ vl vu vs) pl pu ps ?_ (by rw [← r.length]; exact hlz)
  exact laid_tup (s := { s4 with heap := s4.heap.push { cls := .type "slice", data := .fields #[vl, vu, vs] } }) (n := 0) I5 rfl r.reverse (by rw [List.length_reverse]; exact hlz) q
end
section
variable {X : Cx} {B : Bs} {es : List En} {e : Expr} {P : Rs → List En → Prop} {k : Nat} {p1 p2 p3 pos : Pos}
theorem RpAll.rev {H : Hp} {vs : List V} {ds : List D} (h : RpAll H vs ds) : RpAll H vs.reverse ds.reverse := h.reverse
/-- e[::-1], a list -/
theorem ee_revL (h : EvE X B e es fun r es1 => ∃ ds, den es1 r = some (.list ds) ∧ P (.new ds.reverse) es1) : EvE X B (.Subscript e (.Slice none none (some (.UnaryOp .USub (.Constant (.int 1) k p1) p2)) p3) pos) es P := fun σ F H o bd Q kk =>
  wE.of (pe_revL pe_w) (h σ F H o bd _ fun v1 r1 es1 F1 H1 q1 w1 o1 t1 => by
    obtain ⟨ds, hd, q⟩ := q1
    obtain ⟨a, vs, rfl, hs, ra⟩ := w1.seqL o1 hd
    exact ⟨a, vs, rfl, hs, fun p n => k_lst (kk.after t1) o1 q ra.reverse n⟩)
/-- e[::-1], a tuple -/
theorem ee_revT (h : EvE X B e es fun r es1 => ∃ ds, den es1 r = some (.tuple ds) ∧ ds.length ≤ 100000 ∧ P (.val (.tuple ds.reverse)) es1) : EvE X B (.Subscript e (.Slice none none (some (.UnaryOp .USub (.Constant (.int 1) k p1) p2)) p3) pos) es P := fun σ F H o bd Q kk =>
  wE.of (pe_revT pe_w) (h σ F H o bd _ fun v1 r1 es1 F1 H1 q1 w1 o1 t1 => by
    obtain ⟨ds, hd, hz, q⟩ := q1
    obtain ⟨a, vs, rfl, f1, hs, ra⟩ := w1.seqT o1 hd
    exact ⟨a, vs, rfl, hs.seq, szl (by rw [ra.length]; exact hz), fun p ob n hc hdd => k_tup (kk.after t1) o1 q ra.reverse n hc hdd⟩)
theorem rgV_rp {F : Hp} (a b : Int) : RpAll F (rgV a b) (rgD a (b - a).toNat) := by
  unfold rgV rgD
  have : ∀ l : List Nat, RpAll F (l.map fun i : Nat => V.int (a + (i : Int))) (l.map fun i : Nat => PyData.int (a + (i : Int))) := by
    intro l
    induction l with
    | nil => exact .nil
    | cons i l ih => exact .cons (.int _) ih
  exact this _
/-- list(range(a, b)) -/
theorem ee_listRg {a b : Expr} {pp pr ps : Pos} (hc : X.calm = true) (hg : Gl X "list") (hm : X.mg "list" = none) (hg2 : Gl X "range") (hm2 : X.mg "range" = none)
    (h : EvE X B a es fun r es1 => EvE X B b es1 fun r' es2 => ∃ i j, r = .val (.int i) ∧ r' = .val (.int j) ∧ RgOk i j ∧ P (.new (rgD i (j - i).toNat)) es2)
    (na : starEach [a, b] X.env = (false, eval a X.env) :: starEach [b] X.env := by with_unfolding_all rfl) (nb : starEach [b] X.env = (false, eval b X.env) :: starEach [] X.env := by with_unfolding_all rfl)
    (hp : (backTo pr (starEach [b] X.env)).any (·.1) = false := by with_unfolding_all rfl)
    (nc : starEach [.Call (.Name "range" ps) [a, b] [] pr] X.env = (false, eval (.Call (.Name "range" ps) [a, b] [] pr) X.env) :: starEach [] X.env := by with_unfolding_all rfl) :
    EvE X B (.Call (.Name "list" pp) [.Call (.Name "range" ps) [a, b] [] pr] [] pos) es P := fun σ F H o bd Q kk =>
  wE.of (pe_listRg hc hg hm (prg_2 hg2 hm2 pe_w pe_w na nb hp) nc) (h σ F H o bd _ fun v1 r1 es1 F1 H1 q1 w1 o1 t1 => q1 σ F1 H1 o1 (bd.tr t1) _ fun v2 r2 es2 F2 H2 q2 w2 o2 t2 => by
    obtain ⟨i, j, rfl, rfl, hr, q⟩ := q2
    have w1 := RsOk.keep o t1 w1 t2
    cases w1
    cases w2
    exact ⟨i, j, rfl, rfl, hr, fun p n => k_lst (kk.after (t1.trans t2)) o2 q (rgV_rp i j) n⟩)
end
end HL

set_option Elab.async false
set_option linter.all false
set_option maxRecDepth 100000
set_option maxHeartbeats 4000000
set_option autoImplicit false
/-! a piece of a list of ours stored; a def picked from a list of defs, called -/
namespace HL
open PySem PySem.Spec PyProof.Rows L2 HT
section
variable {prog : Program} {w : World} {A : Around} {E : Value → Shared → Prop} {s : Shared}
theorem wide_bounds {a c n : Nat} (hac : a ≤ c) (ha : a ≤ n) : sliceBounds (some (a : Int)) (some (c : Int)) none n = ((a : Int), ((min c n : Nat) : Int), 1) := by
  simp only [sliceBounds, Option.getD_none]
  rw [if_pos (by decide : (1 : Int) > 0), if_pos (by decide : (1 : Int) > 0), if_neg (show ¬ ((a : Int) < 0) by omega), if_neg (show ¬ ((c : Int) < 0) by omega)]
  refine Prod.ext ?_ (Prod.ext ?_ rfl)
  · dsimp only
    omega
  · dsimp only
    omega
theorem put_piece {l b sl : Addr} {items new : Array Value} {n n2 : Nat} {vl vu : Value} {a c : Nat} {Q : Unit → Shared → Prop}
    (e : s.heap.get? l = some { cls := .type "list", data := .seq items n }) (e2 : s.heap.get? b = some { cls := .type "list", data := .seq new n2 }) (hne : l ≠ b)
    (hs : s.heap.IsSliceOf sl vl vu .none) (pl : IsPart vl (some (a : Int))) (pu : IsPart vu (some (c : Int))) (hac : a ≤ c) (ha : a ≤ items.size)
    (hz : items.size + new.size ≤ sizeLine) (h : Q () { s with heap := s.heap.update l (Obj.mapSeq fun xs => xs.extract 0 a ++ new ++ xs.extract (min c items.size) xs.size) }) :
    wpAny (model prog w) A (setItem (.ref l) (.ref sl) (.ref b)) Q E s := by
  have tl : s.heap.IsList l items := PySem.IsL.isList e
  have tb : s.heap.IsList b new := PySem.IsL.isList e2
  obtain ⟨os, hos, hcs, hds⟩ := id hs
  have tS : s.TypeIs (.ref sl) "slice" := ⟨os, hos, hcs⟩
  have h0 : ¬ ((rawPart none == rawInt 0) = true) := Bool.false_ne_true
  have unlike : Builtin.List.listSameRef (.ref l) (.ref b) = false := beq_eq_false_iff_ne.mpr hne
  have mx : (max (a : Int) ((min c items.size : Nat) : Int)).toNat = min c items.size := by omega
  have zz : ((fun xs : Array Value => xs.extract 0 a ++ new ++ xs.extract (min c items.size) xs.size) items).size ≤ sizeLine + 1 := by
    simp only [Array.size_append, Array.size_extract] <;> omega
  unfold setItem
  try with_reducible refine wpAny_holding ?_
  first | refine wpAny_bind (wpAny_pure ?_) | skip
  refine wpAny_bind (wpAny_sequenceKey tl.typeIs (by decide) (wpAny_bind (wpAny_callSpecial?_slot (name := Str.ofString "__setitem__") tl.typeIs slot_list_setitem (wpAny_call_entry slot_list_setitem tl.typeIs entry_list_setitem ?_ (args_list_setitem _ _ _)))))
  show wpAny _ _ (Builtin.List.listSubscript? (.ref sl) >>= _) _ _ s
  refine wpAny_bind ?_
  unfold Builtin.List.listSubscript?
  refine wpAny_bind (wpAny_specialOf tS slice_no_index ?_)
  simp only [Option.isNone_none, if_true]
  refine wpAny_pure ?_
  show wpAny _ _ (typeOf (.ref sl) >>= _) _ _ s
  refine wpAny_bind (wpAny_typeOf tS ?_)
  first | rw [if_neg (by decide)] | refine PySem.W.KFB.if_not (by decide) ?_
  rw [listSliceParts_eq]
  refine wpAny_bind (wpAny_bind (wpAny_field hos hds (x := .none) rfl (wpAny_bind (wpAny_listPart .none ?_))))
  rw [if_neg h0]
  refine wpAny_bind (wpAny_field hos hds (x := vl) rfl (wpAny_bind (wpAny_listPart pl (wpAny_bind (wpAny_field hos hds (x := vu) rfl (wpAny_bind (wpAny_listPart pu (wpAny_pure ?_))))))))
  first
    | simp only [unlike, Bool.false_eq_true, if_false]
    | refine PySem.W.KFB.if_not unlike ?_
    | (dsimp only; rw [if_neg (by rw [unlike]; exact Bool.false_ne_true)])
  refine wpAny_bind (m := Builtin.List.listAllItems (.ref b) "must assign iterable to extended slice") ?_
  unfold Builtin.List.listAllItems
  refine wpAny_bind (wpAny_typeOf tb.typeIs ?_)
  first | refine PySem.W.KFB.if_so (by decide) ?_ | rw [if_pos (by decide)] | simp only [beq_self_eq_true, Bool.true_or, if_true]
  unfold Builtin.List.listItems
  refine wpAny_bind (wpAny_seqItems e2 rfl (wpAny_pure (wpAny_bind (wpAny_bind (wpAny_seqItems e rfl (wpAny_pure ?_))))))
  refine wpAny_bind (wpAny_of_eq ((sliceIndices_raw (some (a : Int)) (some (c : Int)) none items.size (by simp)).trans (congrArg (pure : Int × Int × Int → Sem (Int × Int × Int)) (wide_bounds hac ha))) ?_)
  show wpAny _ _ (if ((1 : Int) == 1) = true then _ else _) _ _ s
  rw [if_pos (by decide)]
  refine wpAny_bind (wpAny_rule ?_)
  first | simp only [notLongL hz, Bool.false_eq_true, if_false] | refine PySem.W.KFB.if_not (notLongL hz) ?_
  first | refine wpAny_bind (wpAny_pure ?_) | skip
  show wpAny _ _ (updateSeq l (fun xs => xs.extract 0 ((a : Int)).toNat ++ new ++ xs.extract (max (a : Int) ((min c items.size : Nat) : Int)).toNat xs.size) >>= _) _ _ s
  rw [mx, Int.toNat_natCast]
  refine wpAny_bind (wpAny_updateSeq (hz := Nat.le_trans (Nat.le_add_right _ _) hz) (_hz' := zz) e rfl (wpAny_bind (wpAny_letGo ?_)))
  first | exact wpAny_bind (wpAny_pure (wpAny_pure ⟨.none, rfl, wpAny_pure h⟩)) | exact wpAny_pure ⟨.none, rfl, wpAny_pure h⟩
end
section
variable {X : Cx}
theorem set_piece {pins : List (Addr × Obj)} {s : Shared} {σ : L2.St} {H : Hp} {l b sl : Addr} {xs ys : List V} {a c : Nat} {vl vu : Value} {Q : Unit → Shared → Prop} (I : Inv X pins σ H s)
    (hH : H l = some (.lst xs)) (hB : H b = some (.lst ys)) (hne : l ≠ b) (hs : s.heap.IsSliceOf sl vl vu .none) (pl : IsPart vl (some (a : Int))) (pu : IsPart vu (some (c : Int))) (hac : a ≤ c) (ha : a ≤ xs.length)
    (hz : xs.length + ys.length ≤ sizeLine) (h : ∀ s', Inv X pins σ (upd H l (.lst (xs.take a ++ ys ++ xs.drop c))) s' → Q () s') :
    wpAny (model X.prog X.w) X.A (setItem (.ref l) (.ref sl) (.ref b)) Q X.xe s := by
  obtain ⟨z, its, n, r, hl, e⟩ := I.lstM hH
  obtain ⟨z2, its2, n2, r2, hl2, e2⟩ := I.lstM hB
  have h1 : its.length = xs.length := r.length.symm
  have h2 : its2.length = ys.length := r2.length.symm
  have hm : xs.drop (min c xs.length) = xs.drop c := by
    rcases Nat.le_total c xs.length with g | g
    · rw [Nat.min_eq_left g]
    · rw [Nat.min_eq_right g, List.drop_length, List.drop_of_length_le g]
  refine put_piece (a := a) (c := c) e e2 hne hs pl pu hac (by rw [List.size_toArray, h1]; exact ha) (by rw [List.size_toArray, List.size_toArray, h1, h2]; exact hz) (h _ ?_)
  rw [← hm]
  refine I.lset (its' := its.take a ++ its2 ++ its.drop (min c xs.length)) (t' := s.toks) hH e ?_ (Vals.append (Vals.append (r.take _) r2) (r.drop _)) ?_
  · have g := splice_eq its its2 a (min c xs.length)
    rw [List.size_toArray, h1] at g ⊢
    exact g
  · rw [List.length_append, List.length_append, List.length_take, List.length_drop]
    omega
end
section
variable {X : Cx} {B : Bs} {es : List En} {o e a b : Expr} {p p2 pos : Pos} {D : Dn}
def gPiece (X : Cx) (o a b : Expr) : TG := fun v σ H Q => wE X o σ H fun x H1 => wE X a σ H1 fun y H2 => wE X b σ H2 fun z H3 => ∃ (l r : Addr) (xs ys : List V) (i j : Nat), x = .ref l ∧ v = .ref r ∧ y = .int (i : Int) ∧ z = .int (j : Int) ∧ H3 l = some (.lst xs) ∧ H3 r = some (.lst ys) ∧ l ≠ r ∧ i ≤ j ∧ i ≤ xs.length ∧ xs.length + ys.length ≤ sizeLine ∧ Q σ (upd H3 l (.lst (xs.take i ++ ys ++ xs.drop j)))
theorem pg_piece (ha : ∀ v, assign (.Subscript o (.Slice (some a) (some b) none p2) p) X.env v = (do
      let ov ← holding [v] (eval o X.env)
      let iv ← holding [v, ov] (eval (.Slice (some a) (some b) none p2) X.env)
      standAt p
      holding [v, ov, iv] (setItem ov iv v)
      release [iv, v, ov] [])) : PG X (.Subscript o (.Slice (some a) (some b) none p2) p) (gPiece X o a b) := by
  refine ⟨fun pins s σ H v u Q I r h => ?_⟩
  rw [ha]
  refine wpAny_bind (wpAny_holding (thn (h pins s I) fun ov s1 ⟨x, H1, I1, r1, q1⟩ => wpAny_bind (wpAny_holding (wpAny_Slice ?_))))
  refine thn (q1 pins s1 I1) fun lv s2 ⟨y, H2, I2, r2, q2⟩ => thn (q2 pins s2 I2) fun uv s3 ⟨z, H3, I3, r3, q3⟩ => ?_
  obtain ⟨l, q, xs, ys, i, j, rfl, rfl, rfl, rfl, hl, hq, hne, hij, hi, hz, fin⟩ := q3
  cases r1
  cases r
  obtain ⟨t1, rfl⟩ := r2
  obtain ⟨t2, rfl⟩ := r3
  rw [evalPart_none]
  refine wpAny_pure ?_
  have I4 : Inv X pins σ H3 { s3 with heap := s3.heap.push { cls := .type "slice", data := .fields #[.int (i : Int) t1, .int (j : Int) t2, .none] } } := I3.kept (t' := s3.toks) fun b' ob g => Heap.get?_push_of_some _ g
  refine wpAny_bind (wpAny_standAt (wpAny_bind (wpAny_holding ?_)))
  refine set_piece I4 hl hq hne (Heap.IsSliceOf.new _ _ _ _) (.int _ _) (.int _ _) hij hi hz fun s5 I5 => ?_
  exact wpAny_release ⟨σ, _, I5, fin⟩
/-- x[i:j] = e in a list of ours -/
theorem es_putSl {sl : Nat} (h : EvE X B e es (fun r es1 => ∃ zs, frz r = .val (.list zs) ∧ EvE X B o es1 (fun r0 es2 => r0 = .sl sl ∧ EvE X B a es2 (fun r1 es3 => EvE X B b es3 (fun r2 es4 => ∃ (ds : List HL.D) (i j : Nat), r1 = .val (.int (i : Int)) ∧ r2 = .val (.int (j : Int)) ∧ es4[sl]? = some (.own ds) ∧ i ≤ j ∧ i ≤ ds.length ∧ ds.length + zs.length ≤ 100000 ∧ D.nx (es4.set sl (.own (ds.take i ++ zs ++ ds.drop j))))))))
    (ha : ∀ v, assign (.Subscript o (.Slice (some a) (some b) none p2) p) X.env v = (do
      let ov ← holding [v] (eval o X.env)
      let iv ← holding [v, ov] (eval (.Slice (some a) (some b) none p2) X.env)
      standAt p
      holding [v, ov, iv] (setItem ov iv v)
      release [iv, v, ov] []) := by with_unfolding_all (intro _; rfl))
    (hs : swapsWithSole [.Subscript o (.Slice (some a) (some b) none p2) p] e pos.line X.env = pure false := by with_unfolding_all rfl) (hw : swappedStores [.Subscript o (.Slice (some a) (some b) none p2) p] e X.env = pure none := by with_unfolding_all rfl)
    (h1 : (assignEach [.Subscript o (.Slice (some a) (some b) none p2) p] X.env).map (·.2) = [assign (.Subscript o (.Slice (some a) (some b) none p2) p) X.env] := by with_unfolding_all rfl) : EvS X B (.Assign [.Subscript o (.Slice (some a) (some b) none p2) p] e pos) es D := fun σ F H ok bd E k =>
  wS.of (ps_asg pe_w (pg_piece ha) hs hw h1) ((ee_fz (P := fun r es1 => ∃ zs, r = .val (.list zs) ∧ EvE X B o es1 (fun r0 es2 => r0 = .sl sl ∧ EvE X B a es2 (fun r1 es3 => EvE X B b es3 (fun r2 es4 => ∃ (ds : List HL.D) (i j : Nat), r1 = .val (.int (i : Int)) ∧ r2 = .val (.int (j : Int)) ∧ es4[sl]? = some (.own ds) ∧ i ≤ j ∧ i ≤ ds.length ∧ ds.length + zs.length ≤ 100000 ∧ D.nx (es4.set sl (.own (ds.take i ++ zs ++ ds.drop j))))))) h) σ F H ok bd _ fun v r es1 F1 H1 p1 q1 o1 t1 => by
    obtain ⟨zs, rfl, p1⟩ := p1
    refine p1 σ F1 H1 o1 (bd.tr t1) _ fun v0 r0 es2 F2 H2 p2 q2 o2 t2 => ?_
    obtain ⟨rfl, p2⟩ := p2
    refine p2 σ F2 H2 o2 (bd.tr (t1.trans t2)) _ fun v1 r1 es3 F3 H3 p3 q3 o3 t3 => ?_
    refine p3 σ F3 H3 o3 (bd.tr (t1.trans (t2.trans t3))) _ fun v2 r2 es4 F4 H4 p4 q4 o4 t4 => ?_
    obtain ⟨ds, i, j, rfl, rfl, hi, hij, hil, hz, p⟩ := p4
    have q3 : Rp F3 v1 (.int (i : Int)) := q3
    cases q3
    cases q4
    have q0 : σ[sl]? = some (some v0) := q2
    obtain ⟨lp, ws, rfl, hl, hh, ra⟩ := own_at (N := NT) o4 hi (show RsOk NT F4 H4 σ v0 (.sl sl) from q0)
    have qv : Rp F4 v (.list zs) := RsOk.keep ok t1 q1 (t2.trans (t3.trans t4))
    cases qv with
    | lst hv rz =>
      rename_i q vs
      have hne : lp ≠ q := fun z => by
        subst z
        have f1 : F4 lp = none := (o4.owned ⟨sl, none, ds, _, hi, hl, rfl⟩).1
        rw [f1] at hv
        cases hv
      have tt := t1.trans (t2.trans (t3.trans t4))
      refine ⟨lp, q, ws, vs, i, j, rfl, rfl, rfl, rfl, hh, o4.sub _ _ hv, hne, hij, by rw [ra.length]; exact hil, szl (by rw [ra.length, rz.length]; exact hz), ?_⟩
      exact k.nx _ σ F4 _ p (o4.mut hi hl (((ra.take i).append rz).append (ra.drop j))) ((bd.tr tt).tr (Tr.mut o4 hi hl)) tt.exF)
end
/-! ### a def from a list of defs -/
/-- the def at f, ready to be called, at most at the level k -/
def CalF (X : Cx) (CX : CXT) (k : Nat) (f : Addr) (S : FS) : Prop := ∃ fd ps, FnOk X.prog X.w X.K X.mg X.base CX k f fd ps (spOf X.K S) ∧ PySem.W.keepIn X.K (.ref f) = true ∧ Binds X.K fd ps []
section
variable {X : Cx} {B : Bs} {es : List En} {fe e b : Expr} {l : List Expr} {pos pl p : Pos} {P : Rs → List En → Prop} {ex : Addr → List En → Prop}
def tCallX (sp : V → Sp) (E : L2.St → XK) (tf : TE) (t : TA) : TE := fun σ H Q => tf σ H fun v H1 => t σ H1 fun vs H2 => sp v vs H2 Q (E σ)
/-- fe(e, ..) that may raise, fe any expression -/
theorem ee_callRN {k n : Nat} (hr : Room k X.A) (hx : ExcN X B ex)
    (h : EvE X B fe es fun r0 es0 => ∃ f pre g, r0 = .raw (.ref f) ∧ CalF X (L2N.CX X.prog X.w) k f (pureG n pre g) ∧ EvA X B (e :: l) es0 fun rs es1 => ∃ ds, dats rs = some ds ∧ ds.length = n ∧ pre ds ∧ (∀ r, g ds = .ok r → P r es1) ∧ ∀ C, g ds = .error C → ex C es1)
    (hc : eval (.Call fe (e :: l) [] pos) X.env = (do callWith pos (← eval fe X.env) [] (backTo pos (starEach (e :: l) X.env)) (backToKw pos (keywordEach [] X.env))) := by with_unfolding_all rfl)
    (he : starEach (e :: l) X.env = (false, eval e X.env) :: starEach l X.env := by with_unfolding_all rfl) (hpl : (backTo pos (starEach l X.env)).any (·.1) = false := by with_unfolding_all rfl) :
    EvE X B (.Call fe (e :: l) [] pos) es P := fun σ F H ok bd Q kk pins s I => by
  refine Call_ (thn (h σ F H ok bd (fun v H1 => ∃ f pre g F1 es0, v = .ref f ∧ CalF X (L2N.CX X.prog X.w) k f (pureG n pre g) ∧ Ok X.K es0 σ F1 H1 ∧ Tr es σ F H es0 F1 H1 ∧ EvA X B (e :: l) es0 fun rs es1 => ∃ ds, dats rs = some ds ∧ ds.length = n ∧ pre ds ∧ (∀ r, g ds = .ok r → P r es1) ∧ ∀ C, g ds = .error C → ex C es1) (fun v r es0 F1 H1 p0 q0 o0 t0 => ?_) pins s I) fun u s1 ⟨v, H1, I1, r1, q1⟩ => ?_) hc
  · obtain ⟨f, pre, g, rfl, c, a⟩ := p0
    exact ⟨f, pre, g, F1, es0, q0, c, o0, t0, a⟩
  obtain ⟨f, pre, g, F1, es0, rfl, ⟨fd, ps, Fn, hk, hb⟩, o0, t0, a⟩ := q1
  cases r1
  refine PySem.W.callWith_K (h₀ := X.base) I1.ok.mod.kin hk (thn ((pa_w (X := X) (l := e :: l)).run pos pins s1 σ H1 (fun vs H2 => spOf X.K (pureG n pre g) (vs ++ []) H2 Q (fun cls d H' => ∃ C es F', cls = .ref C ∧ d = none ∧ Ok X.K es σ F' H' ∧ Bd B es σ F' H' ∧ ex C es)) I1 ?_) fun us s2 ⟨vs, H2, I2, r2, q2⟩ => ⟨I2.kIn, ?_⟩) he hpl
  · refine a σ F1 H1 o0 (bd.tr t0) _ fun vs rs es1 F2 H2 p1 q1 o1 t1 => ?_
    obtain ⟨ds, hd, hn, pr, ok1, er1⟩ := p1
    obtain ⟨a1, a2⟩ := argsEn_dats (es := es1) hd
    have ho : headOwn (ds.map En.val) = true := by
      cases ds with
      | nil => rfl
      | cons d ds => exact noOwn_val ds
    rw [List.append_nil]
    refine ⟨(rsAll_len q1).trans (a2.trans hn), F2, _, (call_in o1 q1 a1 ho).1, ⟨ds, rfl, pr⟩, fun v r es' F' H' pp ns q o' t => ?_, fun C es' F' H' pp o' t => ?_⟩
    · obtain ⟨o2, t2⟩ := call_out o1 q1 a1 ho o' t
      obtain ⟨ds', e3, e4, _⟩ := pp
      have e5 := map_val_inj e3
      subst e5
      rw [back_val hd] at o2 t2
      refine kk v r _ F' H' (ok1 r e4) ?_ o2 (t0.trans (t1.trans t2))
      have q2 : RsOk (Nw H2) F' H' σ v r := by
        cases r with
        | sl i => cases ns
        | val d => exact q
        | new ds => exact q
        | newT C x l ds => exact q
        | fl i l => cases ns
        | raw w => exact q
      exact q2.back (t0.trans t1)
    · obtain ⟨o2, t2⟩ := call_out o1 q1 a1 ho o' t
      obtain ⟨ds', e3, e4, _⟩ := pp
      have e5 := map_val_inj e3
      subst e5
      rw [back_val hd] at o2 t2
      exact ⟨C, es1, F', rfl, rfl, o2, bd.tr (t0.trans (t1.trans t2)), er1 C e4⟩
  · exact run_fnSD (E := fun σ cls d H' => ∃ C es F', cls = .ref C ∧ d = none ∧ Ok X.K es σ F' H' ∧ Bd B es σ F' H' ∧ ex C es) Fn hr hb .nil (L2N.passAt hx σ) I2 r2 q2
/-- [f0, f1, f2, f3][b] -/
theorem ee_pick4 {x0 x1 x2 x3 : Str} {a0 a1 a2 a3 : Addr} {q0 q1 q2 q3 : Pos} (g0 : Gl X x0) (g1 : Gl X x1) (g2 : Gl X x2) (g3 : Gl X x3) (m0 : X.mg x0 = some (.ref a0)) (m1 : X.mg x1 = some (.ref a1)) (m2 : X.mg x2 = some (.ref a2)) (m3 : X.mg x3 = some (.ref a3))
    (h : EvE X B b es fun r es1 => ∃ i : Nat, r = .val (.int (i : Int)) ∧ ∃ a, ([a0, a1, a2, a3] : List Addr)[i]? = some a ∧ P (.raw (.ref a)) es1)
    (hs : PlainIx b := by with_unfolding_all exact fun _ _ => rfl) (d0 : (x0 == ("__debug__" : Str)) = false := by decide) (d1 : (x1 == ("__debug__" : Str)) = false := by decide) (d2 : (x2 == ("__debug__" : Str)) = false := by decide) (d3 : (x3 == ("__debug__" : Str)) = false := by decide)
    (k0 : starEach [.Name x0 q0, .Name x1 q1, .Name x2 q2, .Name x3 q3] X.env = (false, eval (.Name x0 q0) X.env) :: starEach [.Name x1 q1, .Name x2 q2, .Name x3 q3] X.env := by with_unfolding_all rfl) (k1 : starEach [.Name x1 q1, .Name x2 q2, .Name x3 q3] X.env = (false, eval (.Name x1 q1) X.env) :: starEach [.Name x2 q2, .Name x3 q3] X.env := by with_unfolding_all rfl)
    (k2 : starEach [.Name x2 q2, .Name x3 q3] X.env = (false, eval (.Name x2 q2) X.env) :: starEach [.Name x3 q3] X.env := by with_unfolding_all rfl) (k3 : starEach [.Name x3 q3] X.env = (false, eval (.Name x3 q3) X.env) :: starEach [] X.env := by with_unfolding_all rfl) :
    EvE X B (.Subscript (.List [.Name x0 q0, .Name x1 q1, .Name x2 q2, .Name x3 q3] pl) b p) es P := fun σ F H o bd Q kk =>
  wE.of (pe_ix ix_list (pe_lst (pa_cons (pe_glob (v := .ref a0) g0 m0 rfl d0) (pa_cons (pe_glob (v := .ref a1) g1 m1 rfl d1) (pa_cons (pe_glob (v := .ref a2) g2 m2 rfl d2) (pa_cons (pe_glob (v := .ref a3) g3 m3 rfl d3) pa_nil k3) k2) k1) k0)) pe_w hs)
    (show (4 ≤ sizeLine) ∧ _ from ⟨szl (by decide), fun q n => h σ F (upd H q (.lst [.ref a0, .ref a1, .ref a2, .ref a3])) (o.newH n) (bd.tr (Tr.newH o n)) _ fun v r es1 F1 H1 p1 w1 o1 t1 => by
      obtain ⟨i, rfl, a, ha, pp⟩ := p1
      cases w1
      have hq : H1 q = some (.lst [.ref a0, .ref a1, .ref a2, .ref a3]) := t1.fr q _ upd_same fun z => by
        obtain ⟨_, vs, hv⟩ := o.owned z
        rw [n] at hv
        cases hv
      refine ⟨q, _, _, .ref a, rfl, rfl, SqL.of hq, atI_nat ?_, kk _ _ es1 F1 H1 pp rfl o1 ((Tr.newH o n).trans t1)⟩
      have e : ([V.ref a0, V.ref a1, V.ref a2, V.ref a3] : List V) = ([a0, a1, a2, a3] : List Addr).map V.ref := rfl
      rw [e, List.getElem?_map, ha]
      rfl⟩)
end
end HL

set_option Elab.async false
set_option linter.all false
set_option maxRecDepth 100000
set_option maxHeartbeats 4000000
set_option autoImplicit false
namespace HL
open PySem PySem.Spec PyProof.Rows L2
/-! ### a class whose instances hold one list -/
structure TabK (K : Fg) (C : Addr) : Prop where
  ins : C8.InsC K C
  rows : NoAttr K C "rows"
  tup : PySem.W.kitOne K (.type "tuple") (.ref C) = some false
  nf : PySem.W.notFirst K C (.ref C) = true
  nft : PySem.W.notFirst K C (.type "tuple") = true
/-- a method of it, ready to be called -/
def MCal (P : Program) (w : World) (K : Fg) (mg : Str → Option Value) (base : Heap) (CX : CXT) (k : Nat) (C : Addr) (m : Str) (ps : List Str) (S : FS) : Prop :=
  ∃ f fd, FnOk P w K mg base CX k f fd ps (spOf K S) ∧ Meth K C m f ∧ Binds K fd ps []
section
variable {X : Cx} {B : Bs} {es es1 : List En} {σ : L2.St} {F H F1 H1 : Hp} {v : V} {o e : Expr} {l : List Expr} {pos apos p : Pos} {P : Rs → List En → Prop} {C x ll : Addr} {i : Nat} {ds : List D} {d : D}
theorem tab_at {K : Fg} (ok : Ok K es σ F H) (hi : es[i]? = some (.tab C x ll ds)) : ∃ vs dx, σ[i]? = some (some (.ref x)) ∧ OwAt es σ i ll ∧ H ll = some (.lst vs) ∧ RpAll F vs ds ∧ F x = some (.ins C dx [("rows", .ref ll)]) ∧ F dx = some (.own x) ∧ F ll = none := by
  obtain ⟨v', l', vs, e1, ⟨rfl, rfl⟩, ⟨dx, i1, i2⟩, f, hh, ra⟩ := ok.slO (t := some (C, x, ll)) hi
  exact ⟨vs, dx, e1, ⟨some (C, x, l'), ds, _, hi, e1, rfl, rfl⟩, hh, ra, i1, i2, f⟩
/-- o.rows -/
theorem ee_rows (h : EvE X B o es fun r es1 => ∃ i C x l ds, r = .sl i ∧ es1[i]? = some (.tab C x l ds) ∧ TabK X.K C ∧ P (.fl i l) es1) (hb : attributeBase o "rows" X.env (eval o X.env) = eval o X.env := by with_unfolding_all rfl) :
    EvE X B (.Attribute o "rows" pos) es P := fun σ F H ok bd Q k =>
  wE.of (pe_fld pe_w hb) (h σ F H ok bd _ fun v r es1 F1 H1 p1 q1 o1 t1 => by
    obtain ⟨i, C, x, l, ds, rfl, hi, T, p⟩ := p1
    obtain ⟨vs, dx, e1, _, hh, ra, f1, f2, f3⟩ := tab_at o1 hi
    have q : σ[i]? = some (some v) := q1
    rw [q] at e1
    cases e1
    exact ⟨x, C, dx, [("rows", .ref l)], .ref l, rfl, o1.sub _ _ f1, T.ins.cl, T.rows, rfl, k _ _ es1 F1 H1 p rfl o1 t1⟩)
theorem m_appendF (hi : es[i]? = some (.tab C x ll ds)) (hz : ds.length < sizeLine) (p : P (.val .none) (es.set i (.tab C x ll (ds ++ [d])))) : RdM X (mW X "list.append") (.fl i ll) [.val d] es P :=
  RdM.of mt_append fun σ F H v vs o a b Q k => by
    obtain ⟨w, rfl, b1⟩ := rs1 b
    have a : v = .ref ll := a
    subst a
    obtain ⟨ws, dx, e1, oa, hh, ra, _⟩ := tab_at o hi
    have ra' := ra.append (.cons b1 .nil)
    exact ⟨ll, ws, w, rfl, rfl, hh, by rw [ra.length]; exact hz, k .non (.val .none) _ F _ p .non (Ok.mutG (t := some (C, x, ll)) o hi oa ra') (Tr.mutG (t := some (C, x, ll)) o hi oa)⟩
theorem m_popF (hi : es[i]? = some (.tab C x ll ds)) (h4 : ds[ds.length - 1]? = some d) (p : P (.val d) (es.set i (.tab C x ll ds.dropLast))) : RdM X (mW X "list.pop") (.fl i ll) [] es P :=
  RdM.of mt_pop fun σ F H v vs o a b Q k => by
    cases vs with
    | cons _ _ => exact b.elim
    | nil =>
      have a : v = .ref ll := a
      subst a
      obtain ⟨ws, dx, e1, oa, hh, ra, _⟩ := tab_at o hi
      obtain ⟨y, e1, e2⟩ := ra.getD h4
      have ra' : RpAll F ws.dropLast ds.dropLast := by
        rw [List.dropLast_eq_take, List.dropLast_eq_take, ra.length]
        exact ra.take _
      exact ⟨ll, ws, y, rfl, rfl, hh, by rw [ra.length]; exact e1, k y (.val d) _ F _ p e2 (Ok.mutG (t := some (C, x, ll)) o hi oa ra') (Tr.mutG (t := some (C, x, ll)) o hi oa)⟩
/-! ### o.m(e, ..) -/
def tMethZ (C : Addr) (m : Str) (sp : Sp) (E : L2.St → XK) (ta : TE) (t : TA) : TE := fun σ H Q => ta σ H fun x H1 => ∃ a dx fs, x = .ref a ∧ H1 a = some (.ins C dx fs) ∧ fs.lookup m = none ∧ t σ H1 fun vs H2 => sp (x :: vs) H2 Q (E σ)
theorem pe_methZ {CX : CXT} {k : Nat} {f : Addr} {fd : FuncData} {ps : List Str} {m : Str} {sp : Sp} {E : L2.St → XK} {ta : TE} {t : TA} {pl : Sem Bool} (he : PE X o ta) (c : Cls X.K C) (hm : Meth X.K C m f) (Fn : FnOk X.prog X.w X.K X.mg X.base CX k f fd ps sp) (hr : Room k X.A) (hb : Binds X.K fd ps []) (hx : ∀ σ, PassesAt CX X σ (E σ)) (ha : PA X (e :: l) t)
    (hst : starEach (e :: l) X.env = (false, eval e X.env) :: starEach l X.env := by rfl) (hpl : (backTo pos (starEach l X.env)).any (·.1) = false := by rfl)
    (ht : eval (.Call (.Attribute o m apos) (e :: l) [] pos) X.env = (do
      let ov ← eval o X.env
      standAt apos.atName
      let (f, first) ← holding [ov] (getMethod ov m pl)
      callWith pos f first (backTo pos (starEach (e :: l) X.env)) (backToKw pos (keywordEach [] X.env))) := by rfl) :
    PE X (.Call (.Attribute o m apos) (e :: l) [] pos) (tMethZ C m sp E ta t) := by
  refine ⟨fun pins s σ H Q I h => ?_⟩
  refine PySem.W.methodCall_KW (pl := pl) (thn (he.run pins s σ H _ I h) fun u s1 ⟨x, H1, I1, rx, a, dx, fs, ex, ea, l, q⟩ => ?_) ht
  subst ex
  obtain rfl : u = Value.ref a := rx
  refine getmeth_ok I1 ea c hm l ?_
  refine PySem.W.callWith_K (first := [.ref a]) (h₀ := X.base) I.ok.mod.kin hm.kp (thn (ha.run pos pins s1 σ H1 _ I1 q) fun us s2 ⟨vs, H2, I2, r, q2⟩ => ⟨I2.kIn, ?_⟩) hst hpl
  exact run_fnSD (us := .ref a :: us) (vs := .ref a :: vs) Fn hr hb .nil (hx σ) I2 (.cons rfl r) (by rw [List.append_nil]; exact q2)
theorem pe_methZ0 {CX : CXT} {k : Nat} {f : Addr} {fd : FuncData} {ps : List Str} {m : Str} {sp : Sp} {E : L2.St → XK} {ta : TE} {pl : Sem Bool} (he : PE X o ta) (c : Cls X.K C) (hm : Meth X.K C m f) (Fn : FnOk X.prog X.w X.K X.mg X.base CX k f fd ps sp) (hr : Room k X.A) (hb : Binds X.K fd ps []) (hx : ∀ σ, PassesAt CX X σ (E σ))
    (ht : eval (.Call (.Attribute o m apos) [] [] pos) X.env = (do
      let ov ← eval o X.env
      standAt apos.atName
      let (f, first) ← holding [ov] (getMethod ov m pl)
      callWith pos f first (backTo pos (starEach [] X.env)) (backToKw pos (keywordEach [] X.env))) := by rfl) :
    PE X (.Call (.Attribute o m apos) [] [] pos) (tMethZ C m sp E ta tNil) := by
  refine ⟨fun pins s σ H Q I h => ?_⟩
  refine PySem.W.methodCall_KW (pl := pl) (thn (he.run pins s σ H _ I h) fun u s1 ⟨x, H1, I1, rx, a, dx, fs, ex, ea, l, q⟩ => ?_) ht
  subst ex
  obtain rfl : u = Value.ref a := rx
  refine getmeth_ok I1 ea c hm l ?_
  exact PySem.W.callWith_K0 (first := [.ref a]) I1.kIn hm.kp (run_fnSD (us := [.ref a]) (vs := [.ref a]) Fn hr hb .nil (hx σ) I1 (.cons rfl .nil) q)
def EvTA (X : Cx) (B : Bs) (ta : TA) (es : List En) (P : List Rs → List En → Prop) : Prop :=
  ∀ σ F H, Ok X.K es σ F H → Bd B es σ F H → ∀ Q : List V → Hp → Prop, (∀ vs rs es' F' H', P rs es' → RsAll NT F' H' σ vs rs → Ok X.K es' σ F' H' → Tr es σ F H es' F' H' → Q vs H') → ta σ H Q
/-- what a method's call does, whatever it raises -/
theorem ee_methG {m : Str} {S : FS} {ce : Expr} {E : L2.St → XK} {ex : Addr → List En → Prop} {ta : TA} (hp : PE X ce (tMethZ C m (spOf X.K S) E (wE X o) ta)) (hm : ([("rows", V.ref 0)] : List (Str × V)).lookup m = none)
    (hE : ∀ σ C' es' F' H', ex C' es' → Ok X.K es' σ F' H' → Bd B es' σ F' H' → E σ (.ref C') none H')
    (h : EvE X B o es fun r0 es0 => ∃ i x l ds, r0 = .sl i ∧ es0[i]? = some (.tab C x l ds) ∧ EvTA X B ta es0 fun rs es1 => ∃ ea ds1, argsEn es1 rs = some ea ∧ noOwn ea = true ∧ es1[i]? = some (.tab C x l ds1) ∧ rs.length + 1 = S.n ∧ S.pre (.tab C x l ds1 :: ea) ∧
      (∀ r es', S.post (.tab C x l ds1 :: ea) r es' → P r (back es1 (.sl i :: rs) es')) ∧ ∀ C' es', S.exc (.tab C x l ds1 :: ea) C' es' → ex C' (back es1 (.sl i :: rs) es')) :
    EvE X B ce es P := fun σ F H ok bd Q kk =>
  wE.of hp (h σ F H ok bd _ fun v r es1 F1 H1 p1 q1 o1 t1 => by
    obtain ⟨i, x, l, ds, rfl, hi, p1⟩ := p1
    obtain ⟨vs, dx, e1, _, hh, ra, f1, f2, f3⟩ := tab_at o1 hi
    have q : σ[i]? = some (some v) := q1
    rw [q] at e1
    cases e1
    refine ⟨x, dx, [("rows", .ref l)], rfl, o1.sub _ _ f1, ?_, p1 σ F1 H1 o1 (bd.tr t1) _ fun ws rs es2 F2 H2 p2 q2 o2 t2 => ?_⟩
    · have e : ∀ y : V, ([("rows", y)] : List (Str × V)).lookup m = none := fun y => by
        rw [List.lookup_cons] at hm ⊢
        split at hm
        · cases hm
        · rfl
      exact e _
    obtain ⟨ea, ds1, ha, no, hi2, hn, pre, po, exx⟩ := p2
    have q3 : RsAll NT F2 H2 σ (.ref x :: ws) (.sl i :: rs) := ⟨q, q2⟩
    have ha3 : argsEn es2 (.sl i :: rs) = some (.tab C x l ds1 :: ea) := by
      unfold argsEn
      have : argEn es2 (.sl i) = some (.tab C x l ds1) := hi2
      rw [this, ha]
    have ho : headOwn (.tab C x l ds1 :: ea) = true := no
    refine ⟨(rsAll_len q3).trans hn, F2, _, (call_in o2 q3 ha3 ho).1, pre, fun v r es' F' H' pp ns q o' t => ?_, fun C' es' F' H' pp o' t => ?_⟩
    · obtain ⟨o4, t4⟩ := call_out o2 q3 ha3 ho o' t
      refine kk v r _ F' H' (po r es' pp) ?_ o4 ((t1.trans t2).trans t4)
      have q2 : RsOk (Nw H2) F' H' σ v r := by
        cases r with
        | sl i => cases ns
        | val d => exact q
        | new ds => exact q
        | newT C x l ds => exact q
        | fl i l => cases ns
        | raw w => exact q
      exact q2.back (t1.trans t2)
    · obtain ⟨o4, t4⟩ := call_out o2 q3 ha3 ho o' t
      exact hE σ C' _ F' H' (exx C' es' pp) o4 ((bd.tr (t1.trans t2)).tr t4))
end
end HL

set_option Elab.async false
set_option linter.all false
set_option maxRecDepth 100000
set_option maxHeartbeats 4000000
set_option autoImplicit false
namespace HL
open PySem PySem.Spec PyProof.Rows L2
section
variable {X : Cx} {B : Bs} {es es1 : List En} {σ : L2.St} {F H F1 H1 : Hp} {v : V} {o e : Expr} {l : List Expr} {pos apos p : Pos} {P : Rs → List En → Prop} {C x ll : Addr} {i j k : Nat} {ds : List D} {d : D} {m : Str} {ps : List Str} {S : FS} {ex : Addr → List En → Prop} {CXt : CXT}
def MArgs (B : Bs) (P : Rs → List En → Prop) (ex : Addr → List En → Prop) (S : FS) (X : Cx) (C x l : Addr) (i : Nat) (args : List Expr) (es0 : List En) : Prop :=
  EvA X B args es0 fun rs es1 => ∃ ea ds1, argsEn es1 rs = some ea ∧ noOwn ea = true ∧ es1[i]? = some (.tab C x l ds1) ∧ rs.length + 1 = S.n ∧ S.pre (.tab C x l ds1 :: ea) ∧
      (∀ r es', S.post (.tab C x l ds1 :: ea) r es' → P r (back es1 (.sl i :: rs) es')) ∧ ∀ C' es', S.exc (.tab C x l ds1 :: ea) C' es' → ex C' (back es1 (.sl i :: rs) es')
/-- o.m(e, ..) that may raise -/
theorem ee_methN {pl : Sem Bool} (hr : Room k X.A) (hx : ExcN X B ex) (c : MCal X.prog X.w X.K X.mg X.base (L2N.CX X.prog X.w) j C m ps S) (hjk : j ≤ k) (T : TabK X.K C)
    (h : EvE X B o es fun r0 es0 => ∃ i x l' ds, r0 = .sl i ∧ es0[i]? = some (.tab C x l' ds) ∧ MArgs B P ex S X C x l' i (e :: l) es0)
    (hm : ([("rows", V.ref 0)] : List (Str × V)).lookup m = none := by decide)
    (hst : starEach (e :: l) X.env = (false, eval e X.env) :: starEach l X.env := by with_unfolding_all rfl) (hpl : (backTo pos (starEach l X.env)).any (·.1) = false := by with_unfolding_all rfl)
    (ht : eval (.Call (.Attribute o m apos) (e :: l) [] pos) X.env = (do
      let ov ← eval o X.env
      standAt apos.atName
      let (f, first) ← holding [ov] (getMethod ov m pl)
      callWith pos f first (backTo pos (starEach (e :: l) X.env)) (backToKw pos (keywordEach [] X.env))) := by with_unfolding_all rfl) :
    EvE X B (.Call (.Attribute o m apos) (e :: l) [] pos) es P := by
  obtain ⟨f, fd, Fn, hM, hb⟩ := c
  exact ee_methG (E := fun σ cls d H' => ∃ C es F', cls = .ref C ∧ d = none ∧ Ok X.K es σ F' H' ∧ Bd B es σ F' H' ∧ ex C es) (pe_methZ (E := fun σ cls d H' => ∃ C es F', cls = .ref C ∧ d = none ∧ Ok X.K es σ F' H' ∧ Bd B es σ F' H' ∧ ex C es) pe_w T.ins.cl hM (Fn.mono hjk) hr hb (fun σ => L2N.passAt hx σ) pa_w hst hpl ht) hm
    (fun σ C' es' F' H' a b c => ⟨C', es', F', rfl, rfl, b, c, a⟩) h
theorem ee_methN0 {pl : Sem Bool} (hr : Room k X.A) (hx : ExcN X B ex) (c : MCal X.prog X.w X.K X.mg X.base (L2N.CX X.prog X.w) j C m ps S) (hjk : j ≤ k) (T : TabK X.K C)
    (h : EvE X B o es fun r0 es0 => ∃ i x l' ds, r0 = .sl i ∧ es0[i]? = some (.tab C x l' ds) ∧ S.n = 1 ∧ S.pre [.tab C x l' ds] ∧ (∀ r es', S.post [.tab C x l' ds] r es' → P r (back es0 [.sl i] es')) ∧ ∀ C' es', S.exc [.tab C x l' ds] C' es' → ex C' (back es0 [.sl i] es'))
    (hm : ([("rows", V.ref 0)] : List (Str × V)).lookup m = none := by decide)
    (ht : eval (.Call (.Attribute o m apos) [] [] pos) X.env = (do
      let ov ← eval o X.env
      standAt apos.atName
      let (f, first) ← holding [ov] (getMethod ov m pl)
      callWith pos f first (backTo pos (starEach [] X.env)) (backToKw pos (keywordEach [] X.env))) := by with_unfolding_all rfl) :
    EvE X B (.Call (.Attribute o m apos) [] [] pos) es P := by
  obtain ⟨f, fd, Fn, hM, hb⟩ := c
  refine ee_methG (E := fun σ cls d H' => ∃ C es F', cls = .ref C ∧ d = none ∧ Ok X.K es σ F' H' ∧ Bd B es σ F' H' ∧ ex C es) (pe_methZ0 (E := fun σ cls d H' => ∃ C es F', cls = .ref C ∧ d = none ∧ Ok X.K es σ F' H' ∧ Bd B es σ F' H' ∧ ex C es) pe_w T.ins.cl hM (Fn.mono hjk) hr hb (fun σ => L2N.passAt hx σ) ht) hm
    (fun σ C' es' F' H' a b c => ⟨C', es', F', rfl, rfl, b, c, a⟩) (h.imp fun r es0 ⟨i, x, l', ds, e1, e2, e3, e4, e5, e6⟩ => ⟨i, x, l', ds, e1, e2, fun σ F H o bd Q k => k [] [] es0 F H ⟨[], ds, rfl, rfl, e2, e3.symm, e4, e5, e6⟩ trivial o Tr.refl⟩)
/-- o.m(e, ..); nothing is raised -/
theorem ee_methC {pl : Sem Bool} (hr : Room k X.A) (hx : Passes CXt X E0) (c : MCal X.prog X.w X.K X.mg X.base CXt j C m ps S) (hjk : j ≤ k) (T : TabK X.K C)
    (h : EvE X B o es fun r0 es0 => ∃ i x l' ds, r0 = .sl i ∧ es0[i]? = some (.tab C x l' ds) ∧ MArgs B P (fun _ _ => False) S X C x l' i (e :: l) es0)
    (hm : ([("rows", V.ref 0)] : List (Str × V)).lookup m = none := by decide)
    (hst : starEach (e :: l) X.env = (false, eval e X.env) :: starEach l X.env := by with_unfolding_all rfl) (hpl : (backTo pos (starEach l X.env)).any (·.1) = false := by with_unfolding_all rfl)
    (ht : eval (.Call (.Attribute o m apos) (e :: l) [] pos) X.env = (do
      let ov ← eval o X.env
      standAt apos.atName
      let (f, first) ← holding [ov] (getMethod ov m pl)
      callWith pos f first (backTo pos (starEach (e :: l) X.env)) (backToKw pos (keywordEach [] X.env))) := by with_unfolding_all rfl) :
    EvE X B (.Call (.Attribute o m apos) (e :: l) [] pos) es P := by
  obtain ⟨f, fd, Fn, hM, hb⟩ := c
  exact ee_methG (ex := fun _ _ => False) (E := fun _ => E0) (pe_methZ (E := fun _ => E0) pe_w T.ins.cl hM (Fn.mono hjk) hr hb (fun σ pins H s e s' I c => hx pins σ H s e s' I c) pa_w hst hpl ht) hm
    (fun σ C' es' F' H' a b c => a) h
theorem ee_methC0 {pl : Sem Bool} (hr : Room k X.A) (hx : Passes CXt X E0) (c : MCal X.prog X.w X.K X.mg X.base CXt j C m ps S) (hjk : j ≤ k) (T : TabK X.K C)
    (h : EvE X B o es fun r0 es0 => ∃ i x l' ds, r0 = .sl i ∧ es0[i]? = some (.tab C x l' ds) ∧ S.n = 1 ∧ S.pre [.tab C x l' ds] ∧ (∀ r es', S.post [.tab C x l' ds] r es' → P r (back es0 [.sl i] es')) ∧ ∀ C' es', ¬ S.exc [.tab C x l' ds] C' es')
    (hm : ([("rows", V.ref 0)] : List (Str × V)).lookup m = none := by decide)
    (ht : eval (.Call (.Attribute o m apos) [] [] pos) X.env = (do
      let ov ← eval o X.env
      standAt apos.atName
      let (f, first) ← holding [ov] (getMethod ov m pl)
      callWith pos f first (backTo pos (starEach [] X.env)) (backToKw pos (keywordEach [] X.env))) := by with_unfolding_all rfl) :
    EvE X B (.Call (.Attribute o m apos) [] [] pos) es P := by
  obtain ⟨f, fd, Fn, hM, hb⟩ := c
  exact ee_methG (ex := fun _ _ => False) (E := fun _ => E0) (pe_methZ0 (E := fun _ => E0) pe_w T.ins.cl hM (Fn.mono hjk) hr hb (fun σ pins H s e s' I c => hx pins σ H s e s' I c) ht) hm
    (fun σ C' es' F' H' a b c => a) (h.imp fun r es0 ⟨i, x, l', ds, e1, e2, e3, e4, e5, e6⟩ => ⟨i, x, l', ds, e1, e2, fun σ F H o bd Q k => k [] [] es0 F H ⟨[], ds, rfl, rfl, e2, e3.symm, e4, e5, e6⟩ trivial o Tr.refl⟩)
/-! ### Table() -/
/-- what __init__ does -/
def spInit (C : Addr) : Sp := fun vs H Q _ => ∃ x dx, vs = [.ref x] ∧ H x = some (.ins C dx []) ∧ ∀ p ob l, H p = none → ob.cls = .type "tuple" → ob.dict = none → H l = none → l ≠ p → Q .non (upd (upd (upd H p (.frz ob (.tup []))) l (.lst [.ref p])) x (.ins C dx [("rows", .ref l)]))
/-- Table() -/
theorem ee_make {f : Addr} {fd : FuncData} {x : Str} (M : Mk X.K C f) (Fn : FnOk X.prog X.w X.K X.mg X.base CXt k f fd ps (spInit C)) (hr : Room (k + 1) X.A) (hg : Gl X x) (hm : X.mg x = some (.ref C)) (hb : Binds X.K fd ps []) (hx : Passes CXt X E0)
    (h : ∀ x l, P (.newT C x l [.tuple []]) es) (hdb : (x == ("__debug__" : Str)) = false := by decide) : EvE X B (.Call (.Name x p) [] [] pos) es P := fun σ F H ok bd Q kk =>
  wE.of (pe_make0 M Fn hr hg hm hb .nil hx hdb) fun x dx nx ndx hne => by
    refine ⟨x, dx, rfl, upd_same, fun p ob l np hc hd nl hlp => ⟨rfl, ?_⟩⟩
    have hpx : p ≠ x := fun z => by rw [z, upd_same] at np; cases np
    have np1 : (upd H dx (.own x)) p = none := by rw [upd_ne hpx] at np; exact np
    have hpd : p ≠ dx := fun z => by rw [z, upd_same] at np1; cases np1
    have np2 : H p = none := by rw [upd_ne hpd] at np1; exact np1
    have hlx : l ≠ x := fun z => by rw [z, upd_same] at nl; cases nl
    have nl1 : (upd H dx (.own x)) l = none := by rw [upd_ne hlx] at nl; exact nl
    have hld : l ≠ dx := fun z => by rw [z, upd_same] at nl1; cases nl1
    have nl2 : H l = none := by rw [upd_ne hld] at nl1; exact nl1
    have eH : upd (upd (upd (upd (upd H dx (.own x)) x (.ins C dx [])) p (.frz ob (.tup []))) l (.lst [.ref p])) x (.ins C dx [("rows", .ref l)]) =
        upd (upd (upd (upd H dx (.own x)) x (.ins C dx [("rows", .ref l)])) p (.frz ob (.tup []))) l (.lst [.ref p]) := by
      funext a
      by_cases h1 : a = x
      · subst h1; rw [upd_same, upd_ne (Ne.symm hlx), upd_ne (Ne.symm hpx), upd_same]
      · rw [upd_ne h1]
        by_cases h2 : a = l
        · subst h2; rw [upd_same, upd_same]
        · rw [upd_ne h2, upd_ne h2]
          by_cases h3 : a = p
          · subst h3; rw [upd_same, upd_same]
          · rw [upd_ne h3, upd_ne h3, upd_ne h1, upd_ne h1]
    rw [eH]
    have o1 := ok.newF (ob := .own x) ndx
    have t1 := Tr.newF (ob := .own x) ok ndx
    have nx1 : upd H dx (.own x) x = none := by rw [upd_ne (Ne.symm hne)]; exact nx
    have o2 := o1.newF (ob := .ins C dx [("rows", .ref l)]) nx1
    have t2 := t1.trans (Tr.newF (ob := .ins C dx [("rows", .ref l)]) o1 nx1)
    have np3 : upd (upd H dx (.own x)) x (.ins C dx [("rows", .ref l)]) p = none := by rw [upd_ne hpx]; exact np1
    have o3 := o2.newF (ob := .frz ob (.tup [])) np3
    have t3 := t2.trans (Tr.newF (ob := .frz ob (.tup [])) o2 np3)
    have nl3 : upd (upd (upd H dx (.own x)) x (.ins C dx [("rows", .ref l)])) p (.frz ob (.tup [])) l = none := by rw [upd_ne hlp, upd_ne hlx]; exact nl1
    have o4 := o3.newH (ob := .lst [.ref p]) nl3
    have t4 := t3.trans (Tr.newH (ob := .lst [.ref p]) o3 nl3)
    refine kk (.ref x) _ es _ _ (h x l) ⟨l, [.ref p], ⟨rfl, rfl⟩, ⟨dx, ?_, ?_⟩, nl2, Same.back o3.sub nl3, upd_same, .cons (.tup ⟨ob, upd_same, hc, hd⟩ .nil) .nil⟩ o4 t4
    · rw [upd_ne (Ne.symm hpx), upd_same]
    · rw [upd_ne (Ne.symm hpd), upd_ne hne, upd_same]
end
end HL

set_option Elab.async false
set_option linter.all false
set_option maxRecDepth 100000
set_option maxHeartbeats 4000000
set_option autoImplicit false
namespace HL
open PySem PySem.Spec PyProof.Rows L2
/-! ### a method that only reads -/
def spRd (n : Nat) (g : List V → Hp → D → Prop) : Sp := fun vs H Q _ => vs.length = n ∧ ∃ d, g vs H d ∧ ∀ v H', Same H H' → Rp H' v d → Q v H'
def rdD (d : D) : Dn where
  nx := fun _ => False
  rt := fun r _ => r = .val d
section
variable {P : Program} {w : World} {K : Fg} {mg : Str → Option Value} {base : Heap}
theorem fn_okR {x q : Str} {st : Stmt} {f : Addr} {fd : FuncData} {N ps : List Str} {k n : Nat} {g : List V → Hp → D → Prop} (Fu : Fun K x q st f fd) (Sc : FnScope N ps (defScope st)) (hn : n = ps.length)
    (body : ∀ (cdv : Value) (A : Around) (outer : List Env) (s : Shared) (H : Hp) (E : XK) (B : Bs) (vs : List V) (d : D), Room k (A.deeper (envOfC q (defScope st) s.heap.objs.size f cdv)) → g vs H d → vs.length = n → B.F = H →
      EvSs (Bx CX0 P w K mg base N q st f cdv A outer s H E).nox B (defBody st) (vs.map En.raw ++ List.replicate (N.length - n) .no) (rdD d)) : FnOk P w K mg base CX0 (k + 1) f fd ps (spRd n g) := by
  refine Fu.ok Sc (fun vs H Q E h => by rw [h.1, hn]) fun cdv A outer s H vs Q E hr h => ?_
  obtain ⟨hl, d, hg, kq⟩ := h
  have no : ∀ {i t ds}, (vs.map En.raw)[i]? = some (mkO t ds) → False := fun {i t ds} z => by
    rw [List.getElem?_map] at z
    cases q : vs[i]? with
    | none => rw [q] at z; cases z
    | some v => rw [q] at z; exact not_mk rfl z
  have o : Ok K (vs.map En.raw) (sg vs) H H := by
    refine ⟨by unfold sg; simp, fun i e he => ?_, fun i j a ⟨t, ds, v, h1, _⟩ _ => (no h1).elim, Same.refl H⟩
    rw [List.getElem?_map] at he
    cases q : vs[i]? with
    | none => rw [q] at he; cases he
    | some v => rw [q] at he; cases he; exact sg_get q
  obtain ⟨o0, b0⟩ := ground_ok (n := N.length - n) (σ' := List.replicate (N.length - n) none) o (by simp)
  refine ⟨_, pss_w, ?_⟩
  rw [start_eq, hl]
  refine body cdv A outer s H E (ground (vs.map En.raw) (sg vs) H H) vs d hr hg hl rfl _ H H o0 b0 _ ?_
  exact { nx := fun _ _ _ _ p => p.elim, rt := fun v r es1 σ1 F1 H1 p q o1 b1 => by
            have p : r = .val d := p
            subst p
            exact kq v H1 (b1.exF.trans o1.sub) (Rp.mono o1.sub d v q), bk := fun _ _ _ _ p => p.elim, ct := fun _ _ _ _ p => p.elim }
end
section
variable {X : Cx} {B : Bs} {es es1 : List En} {σ : L2.St} {F H F1 H1 : Hp} {v : V} {o e a b : Expr} {l : List Expr} {pos apos p p2 : Pos} {P : Rs → List En → Prop} {C x ll f : Addr} {fd : FuncData} {i j k n : Nat} {ds : List D} {d : D} {m : Str} {ps : List Str} {g : List V → Hp → D → Prop} {CXt : CXT}
/-- only more is known -/
theorem Ok.grow {K : Fg} {H' : Hp} (o : Ok K es σ F H) (s : Same H H') : Ok K es σ F H' :=
  ⟨o.len, fun i e he => (o.slot i e he).keep (Same.refl F) fun a vs f hh => ⟨f, s _ _ hh⟩, o.sep, o.sub.trans s⟩
theorem Tr.grow {H' : Hp} (s : Same H H') : Tr es σ F H es F H' where
  exF := Same.refl F
  new := fun _ f _ => f
  fr := fun a ob h _ => s a ob h
  dom := fun a h z => h (Same.free s z)
  ow := fun _ h => h
  own := fun _ _ ds h => ⟨ds, h⟩
theorem run_rd {pins : List (Addr × Obj)} {s : Shared} {A' : Around} {vs : List V} {us : List Value} (hfr : A'.frames = X.A.frames) (hr : Room k A') (Fn : FnOk X.prog X.w X.K X.mg X.base CXt k f fd ps (spRd n g)) (hb : Binds X.K fd ps []) (hx : Passes CXt X E0) (I : Inv X pins σ H s) (r : Vals vs us) (hl : vs.length = n) (hg : g vs H d) :
    wpAny (model X.prog X.w) A' (call (.ref f) us) (fun u s' => ∃ v H', Inv X pins σ H' s' ∧ RelV v u ∧ Same H H' ∧ Rp H' v d) X.xe s := by
  have hsp : spRd n g vs H (fun v H' => Same H H' ∧ Rp H' v d) E0 := ⟨hl, d, hg, fun v H' s q => ⟨s, q⟩⟩
  have e0 : Env0 X.prog X.w X.K X.mg X.base A' X.stack s H := by
    have e := I.env0
    exact ⟨by rw [hfr]; exact e.frames, e.mod, e.bs, e.bsz, e.funs, e.frf, e.hok, e.bare⟩
  have hl2 : (us ++ []).length = ps.length := by rw [List.append_nil, ← r.length]; exact Fn.len _ _ _ _ hsp
  refine wpAny_call (codeAny_mono (Fn.run A' X.stack s H ⟨us, []⟩ us vs _ E0 hr e0 (by
    have := hb s us I.kIn hl2
    rwa [List.append_nil] at this) r hsp) fun r s' hq => ?_)
  cases r with
  | error e => exact hx pins σ H s e s' I hq
  | ok fl =>
    cases fl with
    | ret u => 
      obtain ⟨z, H', I', rz, s1, q1⟩ := I.after hq
      exact ⟨z, H', I', rz, s1, q1⟩
    | next => exact False.elim hq
    | brk => exact False.elim hq
    | cont => exact False.elim hq
/-! ### len(o) by its own __len__ -/
def lenG (C : Addr) : List V → Hp → D → Prop := fun vs H d => ∃ x dx l ds zs, vs = [.ref x] ∧ H x = some (.ins C dx [("rows", .ref l)]) ∧ Rp H (.ref l) (.list ds) ∧ ds.getLast? = some (.tuple zs) ∧ zs.length < 2 ^ 62 ∧ d = .int zs.length
theorem c_lenT {zs : List D} (hr : Room (k + 1) X.A) (Fn : FnOk X.prog X.w X.K X.mg X.base CXt k f fd ps (spRd 1 (lenG C))) (hs : PySem.W.findIn X.K (.ref C) "__len__" = some (some (.ref f))) (hf : PySem.W.isFn X.K (.ref f) = true) (hb : Binds X.K fd ps []) (hx : Passes CXt X E0)
    (hi : es[i]? = some (.tab C x ll ds)) (hl : ds.getLast? = some (.tuple zs)) (hz : zs.length < 2 ^ 62) (p : P (.val (.int zs.length)) es) : RdC X (cW X (.builtin "len")) [.sl i] es P := fun σ F H vs o q Q k pins s σ' us I r => by
  obtain ⟨v, rfl, q0⟩ := rs1 q
  obtain ⟨ws, dx, e1, oa, hh, ra, f1, f2, f3⟩ := tab_at o hi
  have q0 : σ[i]? = some (some v) := q0
  rw [q0] at e1
  cases e1
  obtain ⟨u, rfl, ru⟩ := vals1 r
  cases ru
  have hx1 := o.sub _ _ f1
  obtain ⟨mA, J, _⟩ := ins_get I.hok hx1
  obtain ⟨od, J, _⟩ := J.look
  obtain ⟨m, hF⟩ := I.fr
  refine PySem.W.len_K hF I.ok.mod.kin J hs hf (wpAny_mono (run_rd (A' := X.A.in1) (d := .int zs.length) rfl hr.in1 Fn hb hx I r rfl ⟨x, dx, ll, ds, zs, rfl, hx1, .lst hh (Rp.monoAll o.sub ds ws ra), hl, hz, rfl⟩) (fun u s' ⟨w, H', I', rw', sm, rp⟩ => ?_) fun _ _ z => z)
  cases rp
  obtain ⟨t, rfl⟩ := rw'
  exact ⟨⟨Int.natCast_nonneg _, by omega⟩, .int zs.length, H', I'.tok _, ⟨_, rfl⟩, k _ _ es F H' p (.int _) (o.grow sm) (Tr.grow sm)⟩
/-! ### o == e by its own __eq__ -/
def eqG (C : Addr) : List V → Hp → D → Prop := fun vs H d => ∃ x dx l ds y, ∃ ns : List Int, vs = [.ref x, y] ∧ H x = some (.ins C dx [("rows", .ref l)]) ∧ Rp H (.ref l) (.list ds) ∧ ds.getLast? = some (.tuple (ns.map .int)) ∧
  ((∃ ys, Rp H y (.tuple ys) ∧ d = .bool false) ∨ ∃ x2 dx2 l2 ds2, ∃ ms : List Int, y = .ref x2 ∧ H x2 = some (.ins C dx2 [("rows", .ref l2)]) ∧ Rp H (.ref l2) (.list ds2) ∧ ds2.getLast? = some (.tuple (ms.map .int)) ∧ d = .bool (ns == ms))
theorem o_eqT {r2 : Rs} {ns : List Int} {bb : Bool} (hr : Room k X.A) (T : TabK X.K C) (Fn : FnOk X.prog X.w X.K X.mg X.base CXt k f fd ps (spRd 2 (eqG C))) (hs : PySem.W.findIn X.K (.ref C) "__eq__" = some (some (.ref f))) (hf : PySem.W.isFn X.K (.ref f) = true) (hb : Binds X.K fd ps []) (hx : Passes CXt X E0)
    (hi : es[i]? = some (.tab C x ll ds)) (hl : ds.getLast? = some (.tuple (ns.map .int))) (h2 : (∃ ys, r2 = .val (.tuple ys) ∧ bb = false) ∨ ∃ x2 l2 ds2, ∃ ms : List Int, r2 = .newT C x2 l2 ds2 ∧ ds2.getLast? = some (.tuple (ms.map .int)) ∧ bb = (ns == ms))
    (p : P (.val (.bool bb)) es) : Rd2 X (rW X (compareOp .Eq)) (.sl i) r2 es P := fun σ F H v1 v2 o q1 q2 Q k pins s σ' v u I rv ru => by
  obtain ⟨ws, dx, e1, oa, hh, ra, f1, f2, f3⟩ := tab_at o hi
  have q1 : σ[i]? = some (some v1) := q1
  rw [q1] at e1
  cases e1
  cases rv
  have hx1 := o.sub _ _ f1
  obtain ⟨mA, J, _⟩ := ins_get I.hok hx1
  obtain ⟨od, J, _⟩ := J.look
  obtain ⟨m, hF⟩ := I.fr
  show wpAny (model X.prog X.w) X.A (richCompare .Eq (.ref x) u) (EP X pins σ' Q) X.xe s
  have key : ∃ tb, PySem.W.Looks (model X.prog X.w) s.heap (typeOf u) tb ∧ PySem.W.notFirst X.K C tb = true ∧ eqG C [.ref x, v2] H (.bool bb) := by
    rcases h2 with ⟨ys, rfl, rfl⟩ | ⟨x2, l2, ds2, ms, rfl, g2, rfl⟩
    · have q2 : Rp F v2 (.tuple ys) := q2
      have q3 := Rp.mono o.sub _ _ q2
      cases q3 with
      | tup hT rT =>
        cases ru
        obtain ⟨its, r', ⟨ob, e, c, n, dd⟩, z⟩ := I.tuple hT.seq
        exact ⟨.type "tuple", fun A Q E s k q => wpAny_typeOf_ref (k _ _ e) (by rw [c]; exact q), T.nft, x, dx, ll, ds, _, ns, rfl, hx1, .lst hh (Rp.monoAll o.sub ds ws ra), hl, .inl ⟨ys, .tup hT rT, rfl⟩⟩
    · obtain ⟨l2', ws2, ⟨rfl, rfl⟩, ⟨dx2, i1, i2⟩, nn, f2', hh2, ra2⟩ := q2
      cases ru
      have hx2 := o.sub _ _ i1
      obtain ⟨mB, J2, _⟩ := ins_get I.hok hx2
      obtain ⟨od2, J2, _⟩ := J2.look
      exact ⟨.ref C, J2.type, T.nf, x, dx, ll, ds, _, ns, rfl, hx1, .lst hh (Rp.monoAll o.sub ds ws ra), hl, .inr ⟨x2, dx2, _, ds2, ms, rfl, hx2, .lst hh2 (Rp.monoAll o.sub ds2 ws2 ra2), g2, rfl⟩⟩
  obtain ⟨tb, lt, hn, hg⟩ := key
  refine PySem.W.cmp_K (op := .Eq) hr.units0 hF I.ok.mod.kin J lt hn hs hf (wpAny_mono (run_rd (A' := X.A) (d := .bool bb) rfl hr Fn hb hx I (.cons (show RelV (.ref x) (.ref x) from rfl) (.cons ru .nil)) rfl hg) (fun u s' ⟨w, H', I', rw', sm, rp⟩ => ?_) fun _ _ z => z)
  cases rp
  cases rw'
  exact ⟨.bl bb, H', I', rfl, k _ _ es F H' p (.bl _) (o.grow sm) (Tr.grow sm)⟩
/-! ### in such a method: what the body's heap knows -/
theorem ee_rowsR (h : EvE X B o es fun r es1 => ∃ a C dx l ds, r = .raw (.ref a) ∧ B.F a = some (.ins C dx [("rows", .ref l)]) ∧ TabK X.K C ∧ Rp B.F (.ref l) (.list ds) ∧ P (.val (.list ds)) es1) (hb : attributeBase o "rows" X.env (eval o X.env) = eval o X.env := by with_unfolding_all rfl) :
    EvE X B (.Attribute o "rows" pos) es P := fun σ F H ok bd Q k =>
  wE.of (pe_fld pe_w hb) (h σ F H ok bd _ fun v r es1 F1 H1 p1 q1 o1 t1 => by
    obtain ⟨a, C, dx, l, ds, rfl, hB, T, rp, p⟩ := p1
    have q1 : v = .ref a := q1
    subst q1
    have s := (bd.tr t1).exF
    exact ⟨a, C, dx, [("rows", .ref l)], .ref l, rfl, o1.sub _ _ (s _ _ hB), T.ins.cl, T.rows, rfl, k _ _ es1 F1 H1 p (Rp.mono s _ _ rp) o1 t1⟩)
/-- isinstance(e, C) -/
theorem ee_isTab {x : Str} (hv : bootBuiltins x = some (.builtin "isinstance")) (hg : Gl X x) (hm : X.mg x = none) (T : TabK X.K C) (h : EvA X B (e :: l) es fun rs es1 => ∃ y, rs = [.raw y, .raw (.ref C)] ∧ ((∃ b dx fs, y = .ref b ∧ B.F b = some (.ins C dx fs) ∧ P (.val (.bool true)) es1) ∨ ∃ ys, Rp B.F y (.tuple ys) ∧ P (.val (.bool false)) es1))
    (hn : x ≠ "__name__" := by decide) (hdb : (x == ("__debug__" : Str)) = false := by decide)
    (he : starEach (e :: l) X.env = (false, eval e X.env) :: starEach l X.env := by with_unfolding_all rfl) (hpl : (backTo pos (starEach l X.env)).any (·.1) = false := by with_unfolding_all rfl) : EvE X B (.Call (.Name x p) (e :: l) [] pos) es P := fun σ F H o bd Q k =>
  wE.of (pe_callB call_isi hg hm hv pa_w hn hdb he hpl) (h σ F H o bd _ fun vs rs es1 F1 H1 p1 q1 o1 t1 => by
    obtain ⟨y, rfl, c⟩ := p1
    obtain ⟨v, w, rfl, a, b⟩ := rs2 q1
    have a : v = y := a
    have b : w = .ref C := b
    subst a b
    have s := (bd.tr t1).exF
    rcases c with ⟨b, dx, fs, rfl, hB, p⟩ | ⟨ys, rp, p⟩
    · exact ⟨_, .ref C, .ref C, .ref C, true, rfl, .own C, .base (.ins (o1.sub _ _ (s _ _ hB)) T.ins.cl T.ins.ha T.ins.hn T.ins.htk T.ins.hm), T.ins.me, k _ _ es1 F1 H1 p (.bl _) o1 t1⟩
    · exact ⟨_, .ref C, .type "tuple", .ref C, false, rfl, .own C, Dp.ty (Rp.dp (Same.trans s o1.sub) _ _ rp), T.tup, k _ _ es1 F1 H1 p (.bl _) o1 t1⟩)
/-! ### f(a new list, e): the list is the callee's -/
theorem ee_calNew {S : FS} {x : Str} (c : Cal X.prog X.w X.K X.mg X.base CXt j x ps S) (hr : Room k X.A) (hjk : j ≤ k) (hg : Gl X x) (hx : Passes CXt X E0) (hn : S.n = 2)
    (h : EvE X B a es fun r1 es1 => EvE X B b es1 fun r2 es2 => ∃ ds d, r1 = .new ds ∧ r2 = .val d ∧ S.pre [.own ds, .val d] ∧ (∀ C es', ¬ S.exc [.own ds, .val d] C es') ∧ ∀ r es', S.post [.own ds, .val d] r es' → P r es2)
    (hdb : (x == ("__debug__" : Str)) = false := by decide) (he : starEach [a, b] X.env = (false, eval a X.env) :: starEach [b] X.env := by with_unfolding_all rfl) (he2 : starEach [b] X.env = (false, eval b X.env) :: starEach [] X.env := by with_unfolding_all rfl) (hpl : (backTo pos (starEach [b] X.env)).any (·.1) = false := by with_unfolding_all rfl) :
    EvE X B (.Call (.Name x p) [a, b] [] pos) es P := fun σ F H ok bd Q kk => by
  obtain ⟨fa, fd, h1, hm, hk, hb⟩ := c
  refine wE.of (pe_call (E := E0) (h1.mono hjk) hr hg hm hk hb .nil hx (pa_cons pe_w (pa_cons pe_w pa_nil he2) he) hdb he hpl) (h σ F H ok bd _ fun v1 r1 es1 F1 H1 p1 q1 o1 t1 => p1 σ F1 H1 o1 (bd.tr t1) _ fun v2 r2 es2 F2 H2 p2 q2 o2 t2 => ?_)
  obtain ⟨ds, d, rfl, rfl, pre, nx, po⟩ := p2
  have q1' : RsO (Nw H) F2 H2 v1 none ds := RsOk.keep ok t1 q1 t2
  obtain ⟨l, ws, pt, _, nl, fl, hh, ra⟩ := q1'
  have pt : v1 = .ref l := pt
  subst pt
  have q2 : Rp F2 v2 d := q2
  have nl : H l = none := nl
  have t12 := t1.trans t2
  have no2 : ¬ Ow es2 σ l := fun z => by
    obtain ⟨_, w, hw⟩ := ok.owned (t12.ow l z)
    rw [nl] at hw; cases hw
  have onlyl : ∀ {y}, Ow [En.own ds, En.val d] (sg [.ref l, v2]) y → y = l := fun {y} ⟨i, t, d', v, z1, z2, z3⟩ => by
    match i, z1 with
    | 0, z1 =>
      have e : En.own ds = mkO t d' := Option.some.inj z1
      have e2 : mkO none ds = mkO t d' := e
      obtain ⟨rfl, rfl⟩ := mkO_inj e2
      cases z2
      have z3 : V.ref l = .ref y := z3
      cases z3
      rfl
    | 1, z1 => exact absurd z1 (not_mk rfl)
    | (i + 2), z1 => simp at z1
  have oc : Ok X.K [En.own ds, En.val d] (sg [.ref l, v2]) F2 H2 := by
    refine ⟨rfl, fun i e he => ?_, fun i j y ⟨t, d', v, z1, z2, z3⟩ ⟨t', d2', v', z1', z2', z3'⟩ => ?_, o2.sub⟩
    · match i, he with
      | 0, he => cases he; exact ⟨.ref l, l, ws, rfl, rfl, trivial, fl, hh, ra⟩
      | 1, he => cases he; exact ⟨v2, rfl, q2⟩
      | (i + 2), he => simp at he
    · match i, j, z1, z1' with
      | 0, 0, _, _ => rfl
      | 1, _, z1, _ => exact absurd z1 (not_mk rfl)
      | _, 1, _, z1' => exact absurd z1' (not_mk rfl)
      | (i + 2), _, z1, _ => simp at z1
      | _, (j + 2), _, z1' => simp at z1'
  show spOf X.K S ([.ref l, v2] ++ []) H2 Q E0
  rw [List.append_nil]
  refine ⟨hn.symm, F2, _, oc, pre, fun v r es' F' H' pp ns q o' t => ?_, fun C' es' F' H' pp _ _ => nx C' es' pp⟩
  have fr : ∀ y ob, H2 y = some ob → y ≠ l → H' y = some ob := fun y ob hy ne => t.fr y ob hy fun z => ne (onlyl z)
  have o3 : Ok X.K es2 σ F' H' := by
    refine ⟨o2.len, fun i e he => ?_, o2.sep, o'.sub⟩
    have z := o2.slot i e he
    have key : ∀ {t3 d3}, es2[i]? = some (mkO t3 d3) → SlO F2 H2 σ[i]? t3 d3 → SlO F' H' σ[i]? t3 d3 := fun {t3 d3} he z => by
      obtain ⟨v3, l3, ws3, e3, p3, i3, f3, h3, r3⟩ := z
      have ne : l3 ≠ l := fun z => no2 ⟨i, t3, d3, v3, he, e3, by rw [← z]; exact p3⟩
      exact ⟨v3, l3, ws3, e3, p3, i3.mono t.exF, t.new l3 f3 (by rw [h3]; exact nofun), fr l3 _ h3 ne, Rp.monoAll t.exF d3 ws3 r3⟩
    cases e with
    | own d3 => exact key (t3 := none) he z
    | tab C3 x3 l3 d3 => exact key (t3 := some (C3, x3, l3)) he z
    | val d3 => exact SlOk.keepV (H := H2) z rfl t.exF
    | no => trivial
    | scr ns => exact SlOk.keepV (H := H2) z rfl t.exF
    | raw v => exact z
  have t3 : Tr es σ F H es2 F' H' := ⟨t12.exF.trans t.exF, fun y f hy => t.new y (t12.new y f hy) (t12.dom y hy), fun y ob hy n => fr y ob (t12.fr y ob hy n) (fun z => by rw [z, nl] at hy; cases hy), fun y hy => t.dom y (t12.dom y hy), t12.ow, t12.own⟩
  refine kk v r _ F' H' (po r es' pp) ?_ o3 t3
  have q3 : RsOk (Nw H2) F' H' σ v r := by
    cases r with
    | sl i => cases ns
    | val d => exact q
    | new ds => exact q
    | newT C x l ds => exact q
    | fl i l => cases ns
    | raw w => exact q
  exact q3.back t12
end
end HL

set_option Elab.async false
set_option linter.all false
set_option maxRecDepth 100000
set_option maxHeartbeats 4000000
set_option autoImplicit false
namespace HL
open PySem PySem.Spec PyProof.Rows L2
/-! ### methods by their bodies -/
def MDef (K : Fg) (C : Addr) (m q : Str) (st : Stmt) (ps : List Str) : Prop := ∃ f fd, Fun K m q st f fd ∧ Meth K C m f ∧ Binds K fd ps []
def RCal (P : Program) (w : World) (K : Fg) (mg : Str → Option Value) (base : Heap) (CX : CXT) (k : Nat) (C : Addr) (m : Str) (ps : List Str) (n : Nat) (g : List V → Hp → D → Prop) : Prop :=
  ∃ f fd, FnOk P w K mg base CX k f fd ps (spRd n g) ∧ Meth K C m f ∧ Binds K fd ps []
def ICal (P : Program) (w : World) (K : Fg) (mg : Str → Option Value) (base : Heap) (CX : CXT) (k : Nat) (C : Addr) (ps : List Str) : Prop :=
  ∃ f fd, FnOk P w K mg base CX k f fd ps (spInit C) ∧ Mk K C f ∧ Binds K fd ps []
section
variable {P : Program} {w : World} {K : Fg} {mg : Str → Option Value} {base : Heap} {C : Addr} {m q : Str} {st : Stmt} {N ps : List Str} {k n : Nat} {S : FS} {g : List V → Hp → D → Prop}
theorem MCal.mono {CX : CXT} {j : Nat} (c : MCal P w K mg base CX j C m ps S) (h : j ≤ k) : MCal P w K mg base CX k C m ps S := by
  obtain ⟨f, fd, h1, h2, h3⟩ := c
  exact ⟨f, fd, h1.mono h, h2, h3⟩
theorem mdef_ok (d : MDef K C m q st ps) (Sc : FnScope N ps (defScope st)) (hn : S.n = ps.length)
    (body : ∀ (f : Addr) (cdv : Value) (A : Around) (outer : List Env) (s : Shared) (H : Hp) (E : XK) (B : Bs) (es0 : List En), Room k (Bx CX0 P w K mg base N q st f cdv A outer s H E).A → S.pre es0 → (∀ i a, B.par i a → i < S.n) →
      EvSs (Bx CX0 P w K mg base N q st f cdv A outer s H E).nox B (defBody st) (es0 ++ List.replicate (N.length - S.n) .no) (fnD S es0)) : MCal P w K mg base CX0 (k + 1) C m ps S := by
  obtain ⟨f, fd, h1, h2, h3⟩ := d
  exact ⟨f, fd, fn_ok h1 Sc hn (fun cdv A outer s H E B es0 hr => body f cdv A outer s H E B es0 hr), h2, h3⟩
theorem mdef_okN (d : MDef K C m q st ps) (Sc : FnScope N ps (defScope st)) (hn : S.n = ps.length)
    (body : ∀ (f : Addr) (cdv : Value) (A : Around) (outer : List Env) (s : Shared) (H : Hp) (E : XK) (B : Bs) (es0 : List En), Room k (Bx (L2N.CX P w) P w K mg base N q st f cdv A outer s H E).A → S.pre es0 → (∀ i a, B.par i a → i < S.n) →
      ExcN (Bx (L2N.CX P w) P w K mg base N q st f cdv A outer s H E) B (fun C es1 => S.exc es0 C (mrg es0 es1)) →
      EvSs (Bx (L2N.CX P w) P w K mg base N q st f cdv A outer s H E) B (defBody st) (es0 ++ List.replicate (N.length - S.n) .no) (fnD S es0)) : MCal P w K mg base (L2N.CX P w) (k + 1) C m ps S := by
  obtain ⟨f, fd, Fu, h2, h3⟩ := d
  refine ⟨f, fd, ?_, h2, h3⟩
  obtain ⟨oc, od, kV, doc, pm, an, cdv, ct, osl, rfl, lk, hcd⟩ := Fu.ex
  refine fn_of (CX := L2N.CX P w) lk hcd Sc (fun vs H Q E h => by rw [h.1, hn]) fun A outer s H vs Q E hr h => ?_
  obtain ⟨hl, F, es0, o, pre, kq, kx⟩ := h
  have hlen : es0.length = S.n := by rw [o.len]; show (vs.map some).length = _; rw [List.length_map, hl]
  obtain ⟨o0, b0⟩ := ground_ok (n := N.length - S.n) (σ' := List.replicate (N.length - S.n) none) o (by simp)
  refine ⟨_, pss_w, ?_⟩
  rw [start_eq, hl]
  refine body f cdv A outer s H E (ground es0 (sg vs) F H) es0 hr pre (fun i a ⟨_, _, _, h1, _⟩ => by rw [← hlen]; exact (List.getElem?_eq_some_iff.mp h1).1) ?_ _ F H o0 b0 _ (fn_end o kq)
  refine (L2N.takes_of rfl rfl rfl rfl).imp fun cls d σ1 H1 hh => ?_
  obtain ⟨C, es1, F1, rfl, rfl, o1, b1, ex⟩ := hh
  obtain ⟨o2, t2⟩ := ground_out o o1 b1
  exact kx C _ F1 H1 ex o2 t2
theorem mdef_okR (d : MDef K C m q st ps) (Sc : FnScope N ps (defScope st)) (hn : n = ps.length)
    (body : ∀ (f : Addr) (cdv : Value) (A : Around) (outer : List Env) (s : Shared) (H : Hp) (E : XK) (B : Bs) (vs : List V) (d : D), Room k (Bx CX0 P w K mg base N q st f cdv A outer s H E).A → g vs H d → vs.length = n → B.F = H →
      EvSs (Bx CX0 P w K mg base N q st f cdv A outer s H E).nox B (defBody st) (vs.map En.raw ++ List.replicate (N.length - n) .no) (rdD d)) : RCal P w K mg base CX0 (k + 1) C m ps n g := by
  obtain ⟨f, fd, h1, h2, h3⟩ := d
  exact ⟨f, fd, fn_okR h1 Sc hn (fun cdv A outer s H E B vs d hr => body f cdv A outer s H E B vs d hr), h2, h3⟩
end
section
variable {X : Cx} {B : Bs} {es es1 : List En} {P : Rs → List En → Prop} {C x ll : Addr} {i j k n : Nat} {ds : List D} {ps : List Str} {CXt : CXT} {pos p : Pos} {y : Str}
theorem c_lenM {zs : List D} (hr : Room (k + 1) X.A) (c : RCal X.prog X.w X.K X.mg X.base CXt j C "__len__" ps 1 (lenG C)) (hjk : j ≤ k) (hx : Passes CXt X E0) (hi : es[i]? = some (.tab C x ll ds)) (hl : ds.getLast? = some (.tuple zs)) (hz : zs.length < 2 ^ 62) (p : P (.val (.int zs.length)) es) :
    RdC X (cW X (.builtin "len")) [.sl i] es P := by
  obtain ⟨f, fd, Fn, hM, hb⟩ := c
  exact c_lenT hr (Fn.mono hjk) hM.at_ hM.fn hb hx hi hl hz p
theorem o_eqM {r2 : Rs} {ns : List Int} {bb : Bool} (hr : Room k X.A) (c : RCal X.prog X.w X.K X.mg X.base CXt j C "__eq__" ps 2 (eqG C)) (hjk : j ≤ k) (hx : Passes CXt X E0) (T : TabK X.K C) (hi : es[i]? = some (.tab C x ll ds)) (hl : ds.getLast? = some (.tuple (ns.map .int)))
    (h2 : (∃ ys, r2 = .val (.tuple ys) ∧ bb = false) ∨ ∃ x2 l2 ds2, ∃ ms : List Int, r2 = .newT C x2 l2 ds2 ∧ ds2.getLast? = some (.tuple (ms.map .int)) ∧ bb = (ns == ms)) (p : P (.val (.bool bb)) es) : Rd2 X (rW X (compareOp .Eq)) (.sl i) r2 es P := by
  obtain ⟨f, fd, Fn, hM, hb⟩ := c
  exact o_eqT hr T (Fn.mono hjk) hM.at_ hM.fn hb hx hi hl h2 p
theorem ee_makeM (hr : Room (k + 1) X.A) (c : ICal X.prog X.w X.K X.mg X.base CXt j C ps) (hjk : j ≤ k) (hg : Gl X y) (hm : X.mg y = some (.ref C)) (hx : Passes CXt X E0) (h : ∀ x l, P (.newT C x l [.tuple []]) es) (hdb : (y == ("__debug__" : Str)) = false := by decide) :
    EvE X B (.Call (.Name y p) [] [] pos) es P := by
  obtain ⟨f, fd, Fn, hM, hb⟩ := c
  exact ee_make hM (Fn.mono hjk) hr hg hm hb hx h hdb
end
/-! ### what the class must be, looked up at once -/
def tabChk (K : Fg) (C f0 : Addr) : Bool :=
  (((PySem.W.plainGet K C Str.empty && PySem.W.hasDictIn K C) && (PySem.W.plainOver K C && (PySem.W.findIn K (.ref C) "__setattr__" == some (some (.builtin "object.__setattr__"))))) &&
   (((PySem.W.findIn K (.ref C) "__class__" == some (some (.builtin "object.__class__"))) && (PySem.W.specialIn K (.builtin "object.__class__") "__get__" == some (some (.builtin "getset_descriptor.__get__")))) && ((PySem.W.takesIn K (.builtin "object.__class__") == some true) && (PySem.W.mroIn K C (.type "object") == some true)))) &&
  (((PySem.W.kitOne K (.ref C) (.ref C) == some true) && (PySem.W.findIn K (.ref C) "rows" == some none)) && (((PySem.W.kitOne K (.type "tuple") (.ref C) == some false) && (PySem.W.notFirst K C (.ref C) && PySem.W.notFirst K C (.type "tuple"))) &&
   ((PySem.W.makesIn K C && (PySem.W.findIn K (.ref C) "__init__" == some (some (.ref f0)))) && (PySem.W.isFn K (.ref f0) && PySem.W.keepIn K (.ref C)))))
theorem tab_of {K : Fg} {C f0 : Addr} (h : tabChk K C f0 = true) : TabK K C ∧ Mk K C f0 := by
  unfold tabChk at h
  simp only [Bool.and_eq_true, beq_iff_eq] at h
  obtain ⟨⟨⟨⟨a1, a2⟩, a3, a4⟩, ⟨a5, a6⟩, a7, a8⟩, ⟨a9, b1⟩, ⟨b2, b3, b4⟩, ⟨b5, b6⟩, b7, b8⟩ := h
  exact ⟨⟨⟨⟨a1, a2, a3, a4⟩, a5, a6, a7, a8, a9⟩, b1, b2, b3, b4⟩, ⟨b5, b6, b7, b8⟩⟩
end HL

set_option Elab.async false
set_option linter.all false
set_option maxRecDepth 100000
set_option maxHeartbeats 4000000
set_option autoImplicit false
namespace HL
open PySem PySem.Spec PyProof.Rows L2
section
variable {X : Cx} {B : Bs} {es : List En} {e : Expr} {pos : Pos} {D : Dn}
/-- x = a new list or a new table, ours -/
theorem es_setOX {i : Nat} {x : Str} {pos' : Pos} (hN : X.N.Nodup) (hx : X.N[i]? = some x) (hlc : Loc X.env.scope x) (h : EvE X B e es (fun r es1 => ∃ t ds, r = mkN t ds ∧ notOwn es1[i]? = true ∧ D.nx (es1.set i (mkO t ds))))
    (hs : swapsWith e (some (.Name x pos')) pos.line X.env = pure false := by with_unfolding_all rfl) (hf : X.fn x = true ∨ X.env.scope.names.lookup x = some .local := by with_unfolding_all (first | exact .inl rfl | exact .inr rfl | assumption)) : EvS X B (.Assign [.Name x pos'] e pos) es D := fun σ F H ok bd E k =>
  wS.of (L2.ps_set hN hx hlc pe_w hs hf) (h σ F H ok bd _ fun v r es1 F1 H1 p1 q1 o1 t1 => by
    obtain ⟨t, ds, rfl, hi, p⟩ := p1
    obtain ⟨lp, ws, pt, ins, n, f, hh, ra⟩ := rsOk_mk.mp q1
    have n2 : B.H lp = none := by
      cases e : B.H lp with
      | none => rfl
      | some ob => exact absurd n (bd.dom lp (by rw [e]; exact nofun))
    have nn : ¬ Ow es1 σ lp := fun z => by
      obtain ⟨_, ws', h'⟩ := ok.owned (t1.ow lp z)
      rw [show H lp = none from n] at h'; cases h'
    exact k.nx _ _ F1 H1 p (o1.setOG hi pt ins f hh ra nn) (Bd.setOG o1 (bd.tr t1) hi pt n2) t1.exF)
/-- a, b = x, y where one of the names is seen from inside: the pair is made, then stored from the left -/
theorem es_parC {a b : Expr} {i j : Nat} {x y : Str} {px py pt : Pos} {kt k2 pt2} (hc : X.calm = true) (hN : X.N.Nodup) (hi : X.N[i]? = some x) (hj : X.N[j]? = some y) (hij : i ≠ j)
    (hx : Loc X.env.scope x) (hy : Loc X.env.scope y)
    (h : EvE X B a es (fun r1 es1 => EvE X B b es1 (fun r2 es2 => ∃ e1 e2, enR r1 = some e1 ∧ enR r2 = some e2 ∧ notOwn es2[i]? = true ∧ notOwn es2[j]? = true ∧ D.nx ((es2.set i e1).set j e2))))
    (hfx : X.fn x = true ∨ X.env.scope.names.lookup x = some .local := by with_unfolding_all (first | exact .inl rfl | exact .inr rfl | assumption)) (hfy : X.fn y = true ∨ X.env.scope.names.lookup y = some .local := by with_unfolding_all (first | exact .inl rfl | exact .inr rfl | assumption))
    (hw : swappedStores [.Tuple [.Name x px, .Name y py] kt pt] (.Tuple [a, b] k2 pt2) X.env = pure none := by with_unfolding_all rfl)
    (hs : swapsWithSole [.Tuple [.Name x px, .Name y py] kt pt] (.Tuple [a, b] k2 pt2) pos.line X.env = pure false := by with_unfolding_all rfl)
    (h1 : (assignEach [.Tuple [.Name x px, .Name y py] kt pt] X.env).map (·.2) = [assign (.Tuple [.Name x px, .Name y py] kt pt) X.env] := by with_unfolding_all rfl)
    (hn : (assignEach [.Name x px, .Name y py] X.env).length = 2 := by with_unfolding_all rfl) (hst : (assignEach [.Name x px, .Name y py] X.env).findIdx? (·.1) = none := by with_unfolding_all rfl)
    (hs1 : (assignEach [.Name x px, .Name y py] X.env).map (·.2) = assign (.Name x px) X.env :: (assignEach [.Name y py] X.env).map (·.2) := by with_unfolding_all rfl) (hs2 : (assignEach [.Name y py] X.env).map (·.2) = assign (.Name y py) X.env :: (assignEach [] X.env).map (·.2) := by with_unfolding_all rfl)
    (he : starEach [a, b] X.env = (false, eval a X.env) :: starEach [b] X.env := by with_unfolding_all rfl) (he2 : starEach [b] X.env = (false, eval b X.env) :: starEach [] X.env := by with_unfolding_all rfl) :
    EvS X B (.Assign [.Tuple [.Name x px, .Name y py] kt pt] (.Tuple [a, b] k2 pt2) pos) es D := fun σ F H ok bd E k =>
  wS.of (ps_asg (pe_tupF (pa_cons pe_w (pa_cons pe_w pa_nil he2) he)) (pg_tup (n := 2) hc (pgs_cons (pg_name hN hi hx hfx) (pgs_cons (pg_name hN hj hy hfy) pgs_nil hs2) hs1) hn hst) hs hw h1) (h σ F H ok bd _ fun v r1 es1 F1 H1 p1 q1 o1 t1 => p1 σ F1 H1 o1 (bd.tr t1) _ fun w r2 es2 F2 H2 p2 q2 o2 t2 => by
    obtain ⟨e1, e2, h1, h2, n1, n2, pD⟩ := p2
    refine ⟨szl (show 2 ≤ _ by decide), fun tp ob np hcl hdi => ?_⟩
    have tn : Tr es2 σ F2 H2 es2 (upd F2 tp (.frz ob (.tup [v, w]))) (upd H2 tp (.frz ob (.tup [v, w]))) := Tr.newF o2 np
    have o3 := o2.newF (ob := .frz ob (.tup [v, w])) np
    have t3 := t2.trans tn
    have q1' := RsOk.keep ok t1 q1 t3
    have q2' := RsOk.keep o1 t2 q2 tn
    have b2 := (bd.tr t1).tr t3
    have nB : ∀ l, H l = none → B.H l = none := fun l hl => by
      cases e : B.H l with
      | none => rfl
      | some ob => exact absurd hl (bd.dom l (by rw [e]; exact nofun))
    have dm : ∀ l, H1 l = none → H l = none := fun l hl => by
      cases e : H l with
      | none => rfl
      | some ob => exact absurd hl (t1.dom l (by rw [e]; exact nofun))
    obtain ⟨oa, ba⟩ := put_ok o3 b2 n1 h1 q1' fun l hl => ⟨fun z => (by
      obtain ⟨_, ws', h'⟩ := ok.owned ((t1.trans t3).ow l z)
      rw [show H l = none from hl] at h'; cases h'), nB l hl⟩
    have n2' : notOwn (es2.set i e1)[j]? = true := by rw [List.getElem?_set_ne hij]; exact n2
    obtain ⟨oo, bb⟩ := put_ok (N := Nw H1) oa ba n2' h2 (enR_any h2 q2') fun l hl => ⟨fun ⟨m, g, d, w', z1, z2, z3⟩ => (by
      rcases get_set z1 with ⟨rfl, z4, _⟩ | ⟨ne, z1⟩
      · have hl' : m < σ.length := by rw [← o2.len]; exact (notOwn_get n1).1
        rw [List.getElem?_set_self hl'] at z2
        cases z2
        rcases enR_cases h1 with ⟨d', rfl, rfl⟩ | ⟨t, ds, rfl, rfl⟩
        · exact not_mk (e := .val d') rfl (congrArg some z4.symm)
        · obtain ⟨rfl, rfl⟩ := mkO_inj z4
          obtain ⟨lp, ws, p, ins, n, f, hh, ra⟩ := rsOk_mk.mp q1
          rw [z3.uniq p] at hl
          rw [show H1 lp = none from hl] at hh; cases hh
      · rw [List.getElem?_set_ne (Ne.symm ne)] at z2
        obtain ⟨_, ws', h'⟩ := o1.owned (t3.ow l ⟨m, g, d, w', z1, z2, z3⟩)
        rw [show H1 l = none from hl] at h'; cases h'), nB l (dm l hl)⟩
    exact ⟨tp, [v, w], rfl, TupM.seq ⟨ob, upd_same, hcl, hdi⟩, rfl, v, [w], rfl, w, [], rfl, rfl, k.nx _ _ _ _ pD oo bb (t1.trans t3).exF⟩)
end
end HL

set_option Elab.async false
set_option linter.all false
set_option maxRecDepth 100000
set_option maxHeartbeats 4000000
set_option hygiene false
set_option pp.maxSteps 1200
open PySem PySem.Spec PyProof.Rows L2 HL
local macro_rules | `(tactic| walk_at "vis") => `(tactic| first | exact Or.inl rfl | exact Or.inr (Or.inl rfl) | exact Or.inr (Or.inr rfl))
local macro_rules | `(tactic| walk_at "loc") => `(tactic| first | exact Or.inl rfl | exact Or.inr rfl)
local macro_rules | `(tactic| walk_at "nm") => `(tactic| with_reducible first | refine ee_name (i := 0) (by with_unfolding_all rfl) (by with_unfolding_all walk_at "vis") (by with_unfolding_all rfl) ?_ | refine ee_name (i := 1) (by with_unfolding_all rfl) (by with_unfolding_all walk_at "vis") (by with_unfolding_all rfl) ?_ | refine ee_name (i := 2) (by with_unfolding_all rfl) (by with_unfolding_all walk_at "vis") (by with_unfolding_all rfl) ?_ | refine ee_name (i := 3) (by with_unfolding_all rfl) (by with_unfolding_all walk_at "vis") (by with_unfolding_all rfl) ?_ | refine ee_name (i := 4) (by with_unfolding_all rfl) (by with_unfolding_all walk_at "vis") (by with_unfolding_all rfl) ?_ | refine ee_name (i := 5) (by with_unfolding_all rfl) (by with_unfolding_all walk_at "vis") (by with_unfolding_all rfl) ?_ | refine ee_name (i := 6) (by with_unfolding_all rfl) (by with_unfolding_all walk_at "vis") (by with_unfolding_all rfl) ?_ | refine ee_name (i := 7) (by with_unfolding_all rfl) (by with_unfolding_all walk_at "vis") (by with_unfolding_all rfl) ?_ | refine ee_name (i := 8) (by with_unfolding_all rfl) (by with_unfolding_all walk_at "vis") (by with_unfolding_all rfl) ?_ | refine ee_name (i := 9) (by with_unfolding_all rfl) (by with_unfolding_all walk_at "vis") (by with_unfolding_all rfl) ?_ | refine ee_name (i := 10) (by with_unfolding_all rfl) (by with_unfolding_all walk_at "vis") (by with_unfolding_all rfl) ?_ | refine ee_name (i := 11) (by with_unfolding_all rfl) (by with_unfolding_all walk_at "vis") (by with_unfolding_all rfl) ?_ | refine ee_name (i := 12) (by with_unfolding_all rfl) (by with_unfolding_all walk_at "vis") (by with_unfolding_all rfl) ?_ | refine ee_name (i := 13) (by with_unfolding_all rfl) (by with_unfolding_all walk_at "vis") (by with_unfolding_all rfl) ?_ | refine ee_name (i := 14) (by with_unfolding_all rfl) (by with_unfolding_all walk_at "vis") (by with_unfolding_all rfl) ?_ | refine ee_name (i := 15) (by with_unfolding_all rfl) (by with_unfolding_all walk_at "vis") (by with_unfolding_all rfl) ?_ | refine ee_name (i := 16) (by with_unfolding_all rfl) (by with_unfolding_all walk_at "vis") (by with_unfolding_all rfl) ?_ | refine ee_globI (by with_unfolding_all rfl) (by with_unfolding_all assumption) ?_)
local macro_rules | `(tactic| walk_at "set") => `(tactic| first | refine es_set (i := 0) nd (by with_unfolding_all rfl) (by with_unfolding_all walk_at "loc") ?_ | refine es_set (i := 1) nd (by with_unfolding_all rfl) (by with_unfolding_all walk_at "loc") ?_ | refine es_set (i := 2) nd (by with_unfolding_all rfl) (by with_unfolding_all walk_at "loc") ?_ | refine es_set (i := 3) nd (by with_unfolding_all rfl) (by with_unfolding_all walk_at "loc") ?_ | refine es_set (i := 4) nd (by with_unfolding_all rfl) (by with_unfolding_all walk_at "loc") ?_ | refine es_set (i := 5) nd (by with_unfolding_all rfl) (by with_unfolding_all walk_at "loc") ?_ | refine es_set (i := 6) nd (by with_unfolding_all rfl) (by with_unfolding_all walk_at "loc") ?_ | refine es_set (i := 7) nd (by with_unfolding_all rfl) (by with_unfolding_all walk_at "loc") ?_ | refine es_set (i := 8) nd (by with_unfolding_all rfl) (by with_unfolding_all walk_at "loc") ?_ | refine es_set (i := 9) nd (by with_unfolding_all rfl) (by with_unfolding_all walk_at "loc") ?_ | refine es_set (i := 10) nd (by with_unfolding_all rfl) (by with_unfolding_all walk_at "loc") ?_ | refine es_set (i := 11) nd (by with_unfolding_all rfl) (by with_unfolding_all walk_at "loc") ?_ | refine es_set (i := 12) nd (by with_unfolding_all rfl) (by with_unfolding_all walk_at "loc") ?_ | refine es_set (i := 13) nd (by with_unfolding_all rfl) (by with_unfolding_all walk_at "loc") ?_ | refine es_set (i := 14) nd (by with_unfolding_all rfl) (by with_unfolding_all walk_at "loc") ?_ | refine es_set (i := 15) nd (by with_unfolding_all rfl) (by with_unfolding_all walk_at "loc") ?_ | refine es_set (i := 16) nd (by with_unfolding_all rfl) (by with_unfolding_all walk_at "loc") ?_)
local macro_rules | `(tactic| walk_at "setO") => `(tactic| first | refine es_setO (i := 0) nd (by with_unfolding_all rfl) (by with_unfolding_all walk_at "loc") ?_ | refine es_setO (i := 1) nd (by with_unfolding_all rfl) (by with_unfolding_all walk_at "loc") ?_ | refine es_setO (i := 2) nd (by with_unfolding_all rfl) (by with_unfolding_all walk_at "loc") ?_ | refine es_setO (i := 3) nd (by with_unfolding_all rfl) (by with_unfolding_all walk_at "loc") ?_ | refine es_setO (i := 4) nd (by with_unfolding_all rfl) (by with_unfolding_all walk_at "loc") ?_ | refine es_setO (i := 5) nd (by with_unfolding_all rfl) (by with_unfolding_all walk_at "loc") ?_ | refine es_setO (i := 6) nd (by with_unfolding_all rfl) (by with_unfolding_all walk_at "loc") ?_ | refine es_setO (i := 7) nd (by with_unfolding_all rfl) (by with_unfolding_all walk_at "loc") ?_ | refine es_setO (i := 8) nd (by with_unfolding_all rfl) (by with_unfolding_all walk_at "loc") ?_ | refine es_setO (i := 9) nd (by with_unfolding_all rfl) (by with_unfolding_all walk_at "loc") ?_ | refine es_setO (i := 10) nd (by with_unfolding_all rfl) (by with_unfolding_all walk_at "loc") ?_ | refine es_setO (i := 11) nd (by with_unfolding_all rfl) (by with_unfolding_all walk_at "loc") ?_ | refine es_setO (i := 12) nd (by with_unfolding_all rfl) (by with_unfolding_all walk_at "loc") ?_ | refine es_setO (i := 13) nd (by with_unfolding_all rfl) (by with_unfolding_all walk_at "loc") ?_ | refine es_setO (i := 14) nd (by with_unfolding_all rfl) (by with_unfolding_all walk_at "loc") ?_ | refine es_setO (i := 15) nd (by with_unfolding_all rfl) (by with_unfolding_all walk_at "loc") ?_ | refine es_setO (i := 16) nd (by with_unfolding_all rfl) (by with_unfolding_all walk_at "loc") ?_)
local macro_rules | `(tactic| walk_at "tg") => `(tactic| first | refine eg_name (i := 0) nd (by with_unfolding_all rfl) (by with_unfolding_all walk_at "loc") (by with_unfolding_all rfl) ?_ | refine eg_name (i := 1) nd (by with_unfolding_all rfl) (by with_unfolding_all walk_at "loc") (by with_unfolding_all rfl) ?_ | refine eg_name (i := 2) nd (by with_unfolding_all rfl) (by with_unfolding_all walk_at "loc") (by with_unfolding_all rfl) ?_ | refine eg_name (i := 3) nd (by with_unfolding_all rfl) (by with_unfolding_all walk_at "loc") (by with_unfolding_all rfl) ?_ | refine eg_name (i := 4) nd (by with_unfolding_all rfl) (by with_unfolding_all walk_at "loc") (by with_unfolding_all rfl) ?_ | refine eg_name (i := 5) nd (by with_unfolding_all rfl) (by with_unfolding_all walk_at "loc") (by with_unfolding_all rfl) ?_ | refine eg_name (i := 6) nd (by with_unfolding_all rfl) (by with_unfolding_all walk_at "loc") (by with_unfolding_all rfl) ?_ | refine eg_name (i := 7) nd (by with_unfolding_all rfl) (by with_unfolding_all walk_at "loc") (by with_unfolding_all rfl) ?_ | refine eg_name (i := 8) nd (by with_unfolding_all rfl) (by with_unfolding_all walk_at "loc") (by with_unfolding_all rfl) ?_ | refine eg_name (i := 9) nd (by with_unfolding_all rfl) (by with_unfolding_all walk_at "loc") (by with_unfolding_all rfl) ?_ | refine eg_name (i := 10) nd (by with_unfolding_all rfl) (by with_unfolding_all walk_at "loc") (by with_unfolding_all rfl) ?_ | refine eg_name (i := 11) nd (by with_unfolding_all rfl) (by with_unfolding_all walk_at "loc") (by with_unfolding_all rfl) ?_ | refine eg_name (i := 12) nd (by with_unfolding_all rfl) (by with_unfolding_all walk_at "loc") (by with_unfolding_all rfl) ?_ | refine eg_name (i := 13) nd (by with_unfolding_all rfl) (by with_unfolding_all walk_at "loc") (by with_unfolding_all rfl) ?_ | refine eg_name (i := 14) nd (by with_unfolding_all rfl) (by with_unfolding_all walk_at "loc") (by with_unfolding_all rfl) ?_ | refine eg_name (i := 15) nd (by with_unfolding_all rfl) (by with_unfolding_all walk_at "loc") (by with_unfolding_all rfl) ?_ | refine eg_name (i := 16) nd (by with_unfolding_all rfl) (by with_unfolding_all walk_at "loc") (by with_unfolding_all rfl) ?_)
local macro_rules | `(tactic| walk_at "bi") => `(tactic| with_reducible first | refine ee_callB (x := "len") (by with_unfolding_all rfl) (by with_unfolding_all exact bl.len) b_len ?_ | refine ee_callB (x := "all") (by with_unfolding_all rfl) (by with_unfolding_all exact bl.all) b_all ?_ | refine ee_callB (x := "sum") (by with_unfolding_all rfl) (by with_unfolding_all exact bl.sum) b_sum ?_ | refine ee_callB (x := "min") (by with_unfolding_all rfl) (by with_unfolding_all exact bl.min) b_min ?_ | refine ee_callB (x := "max") (by with_unfolding_all rfl) (by with_unfolding_all exact bl.max) b_max ?_ | refine ee_callB (x := "abs") (by with_unfolding_all rfl) (by with_unfolding_all exact bl.abs) b_abs ?_ | refine ee_callB (x := "sorted") (by with_unfolding_all rfl) (by with_unfolding_all exact bl.sorted) b_sorted ?_ | refine ee_callB (x := "isinstance") (by with_unfolding_all rfl) (by with_unfolding_all exact bl.isinstance) b_isinstance ?_ | refine ee_callTy (x := "tuple") (by with_unfolding_all rfl) (by with_unfolding_all exact bl.tuple) b_tuple ?_ | refine ee_callTy (x := "list") (by with_unfolding_all rfl) (by with_unfolding_all exact bl.list) b_list ?_)
local macro_rules | `(tactic| walk_at "ty") => `(tactic| with_reducible first | refine ee_bltn (x := "int") (v := .ty "int") (by with_unfolding_all rfl) (by with_unfolding_all exact bl.int) b_int (by with_unfolding_all exact rfl) ?_ | refine ee_bltn (x := "bool") (v := .ty "bool") (by with_unfolding_all rfl) (by with_unfolding_all exact bl.bool) b_bool (by with_unfolding_all exact rfl) ?_ | refine ee_bltn (x := "str") (v := .ty "str") (by with_unfolding_all rfl) (by with_unfolding_all exact bl.str) b_str (by with_unfolding_all exact rfl) ?_ | refine ee_bltn (x := "tuple") (v := .ty "tuple") (by with_unfolding_all rfl) (by with_unfolding_all exact bl.tuple) b_tuple (by with_unfolding_all exact rfl) ?_ | refine ee_bltn (x := "list") (v := .ty "list") (by with_unfolding_all rfl) (by with_unfolding_all exact bl.list) b_list (by with_unfolding_all exact rfl) ?_)
local macro_rules | `(tactic| walk_at "cal") => `(tactic| (refine cal1 hr (by assumption) (by decide) (by rfl) (by first | exact pass0 | exact passL) ?_))
local macro_rules | `(tactic| walk_at "ev") => `(tactic| with_reducible first
  | refine ess_one ?_ | refine ess_cons ?_ | refine es_ret ?_ | refine es_retN ?_ | refine es_expr ?_ | refine es_if ?_
  | refine ee_int ?_ | refine ee_bl ?_ | refine ee_non ?_ | refine ee_str ?_
  | refine ee_bin ?_ | refine ee_cmp ?_ | refine ee_chain ?_ | refine ee_and ?_ | refine ee_or ?_ | refine ee_one ?_ | refine ee_not ?_ | refine ee_un ?_ | refine ee_if ?_
  | refine ea_cons ?_ | refine ea_nil ?_ | refine ee_tup ?_ | refine ee_lst ?_ | refine ee_slice ?_ | refine eo_none ?_ | refine eo_some ?_ | refine ee_ix ?_
  | walk_at "bi" | walk_at "nm" | walk_at "ty"
  | refine ew_and ?_ | refine ew_or ?_ | refine ew_and1 ?_ | refine ew_or1 ?_ | refine et_cmp ?_ | refine et_chain ?_ | refine et_w (ew_and ?_) | refine et_w (ew_or ?_) | refine et_not ?_ | refine et_val ?_
  | walk_at "op")
local macro_rules | `(tactic| walk_at "op") => `(tactic| with_reducible first
  | refine o_add ?_ | refine o_sub ?_ | refine o_lt ?_ | refine o_le ?_ | refine o_gt ?_ | refine o_ge ?_ | refine o_neg ?_
  | refine o_eqI (by with_unfolding_all exact units65 hr) ?_ | refine o_neI (by with_unfolding_all exact units65 hr) ?_ | refine o_mod (by with_unfolding_all first | decide | omega) ?_ | refine o_fdiv (by with_unfolding_all first | exact ⟨by decide, by decide⟩ | exact ⟨by omega, by omega⟩) ?_ | refine o_is ?_ | refine o_isNot ?_ | refine o_isB ?_ | refine o_isNotB ?_
  | refine c_isInt ?_ | refine c_isBool ?_ | refine c_isTup ?_ | refine c_isLst ?_ | refine c_isStr ?_
  | refine c_len (by with_unfolding_all exact Or.inl rfl) ?_ | refine c_len (by with_unfolding_all exact Or.inr rfl) ?_ | refine c_list (by with_unfolding_all exact Or.inl rfl) ?_ | refine c_list (by with_unfolding_all exact Or.inr rfl) ?_ | refine c_tuple (by with_unfolding_all exact Or.inl rfl) ?_ | refine c_tuple (by with_unfolding_all exact Or.inr rfl) ?_
  | refine c_abs ?_ | refine c_min2 (by with_unfolding_all rfl) ?_ | refine c_max2 (by with_unfolding_all rfl) ?_)
namespace Two
def topS (i : Nat) : Stmt := PySem.Challenge.pw_twosheap_k51_tables_by_hand.main.body.getD i (.Pass ⟨0, 0, 0, 0⟩)
abbrev N_is_whole : List Str := ["thing", "low", "high"]
abbrev s_is_whole : Stmt := topS 14
theorem sc_is_whole : FnScope N_is_whole ["thing", "low", "high"] (defScope s_is_whole) := ⟨rfl, rfl, rfl, by decide +kernel, rfl, by decide +kernel, by decide +kernel⟩
abbrev N_is_weight : List Str := ["thing"]
abbrev s_is_weight : Stmt := topS 15
theorem sc_is_weight : FnScope N_is_weight ["thing"] (defScope s_is_weight) := ⟨rfl, rfl, rfl, by decide +kernel, rfl, by decide +kernel, by decide +kernel⟩
abbrev N_in_order : List Str := ["some", "k"]
abbrev s_in_order : Stmt := topS 16
theorem sc_in_order : FnScope N_in_order ["some"] (defScope s_in_order) := ⟨rfl, rfl, rfl, by decide +kernel, rfl, by decide +kernel, by decide +kernel⟩
abbrev N_are_numbers : List Str := ["thing", "many", "one"]
abbrev s_are_numbers : Stmt := topS 17
theorem sc_are_numbers : FnScope N_are_numbers ["thing", "many"] (defScope s_are_numbers) := ⟨rfl, rfl, rfl, by decide +kernel, rfl, by decide +kernel, by decide +kernel⟩
abbrev N_twos : List Str := ["many"]
abbrev s_twos : Stmt := topS 18
theorem sc_twos : FnScope N_twos ["many"] (defScope s_twos) := ⟨rfl, rfl, rfl, by decide +kernel, rfl, by decide +kernel, by decide +kernel⟩
abbrev N_is_heap : List Str := ["thing", "many"]
abbrev s_is_heap : Stmt := topS 19
theorem sc_is_heap : FnScope N_is_heap ["thing"] (defScope s_is_heap) := ⟨rfl, rfl, rfl, by decide +kernel, rfl, by decide +kernel, by decide +kernel⟩
abbrev N_need_heap : List Str := ["heap"]
abbrev s_need_heap : Stmt := topS 20
theorem sc_need_heap : FnScope N_need_heap ["heap"] (defScope s_need_heap) := ⟨rfl, rfl, rfl, by decide +kernel, rfl, by decide +kernel, by decide +kernel⟩
abbrev N_made_of : List Str := ["lot", "to", "at"]
abbrev s_made_of : Stmt := topS 21
theorem sc_made_of : FnScope N_made_of ["lot"] (defScope s_made_of) := ⟨rfl, rfl, rfl, by decide +kernel, rfl, by decide +kernel, by decide +kernel⟩
abbrev N_things_of : List Str := ["heap", "many"]
abbrev s_things_of : Stmt := topS 22
theorem sc_things_of : FnScope N_things_of ["heap"] (defScope s_things_of) := ⟨rfl, rfl, rfl, by decide +kernel, rfl, by decide +kernel, by decide +kernel⟩
abbrev N_lot_by : List Str := ["heap", "third", "many", "odd", "lightest", "lot", "left", "fresh", "weight"]
abbrev s_lot_by : Stmt := topS 24
theorem sc_lot_by : FnScope N_lot_by ["heap", "third"] (defScope s_lot_by) := ⟨rfl, rfl, rfl, by decide +kernel, rfl, by decide +kernel, by decide +kernel⟩
abbrev N_lots_of : List Str := ["heap", "found", "third", "lot"]
abbrev s_lots_of : Stmt := topS 25
theorem sc_lots_of : FnScope N_lots_of ["heap"] (defScope s_lots_of) := ⟨rfl, rfl, rfl, by decide +kernel, rfl, by decide +kernel, by decide +kernel⟩
abbrev N_all_lots : List Str := ["heap"]
abbrev s_all_lots : Stmt := topS 26
theorem sc_all_lots : FnScope N_all_lots ["heap"] (defScope s_all_lots) := ⟨rfl, rfl, rfl, by decide +kernel, rfl, by decide +kernel, by decide +kernel⟩
abbrev N__law_well : List Str := ["script", "k", "cell", "primes", "seed"]
abbrev s__law_well : Stmt := topS 30
theorem sc__law_well : FnScope N__law_well ["script", "k"] (defScope s__law_well) := ⟨rfl, rfl, rfl, by decide +kernel, rfl, by decide +kernel, by decide +kernel⟩
abbrev N__law_take : List Str := ["well", "many", "drew"]
abbrev s__law_take : Stmt := topS 31
theorem sc__law_take : FnScope N__law_take ["well", "many"] (defScope s__law_take) := ⟨rfl, rfl, rfl, by decide +kernel, rfl, by decide +kernel, by decide +kernel⟩
abbrev N__law_is_int : List Str := ["thing", "low", "high"]
abbrev s__law_is_int : Stmt := topS 32
theorem sc__law_is_int : FnScope N__law_is_int ["thing", "low", "high"] (defScope s__law_is_int) := ⟨rfl, rfl, rfl, by decide +kernel, rfl, by decide +kernel, by decide +kernel⟩
abbrev N__law_kinds : List Str := ["e", "some", "words", "word", "good"]
abbrev s__law_kinds : Stmt := topS 33
theorem sc__law_kinds : FnScope N__law_kinds ["e"] (defScope s__law_kinds) := ⟨rfl, rfl, rfl, by decide +kernel, rfl, by decide +kernel, by decide +kernel⟩
abbrev N__law_refusal : List Str := ["e", "kinds"]
abbrev s__law_refusal : Stmt := topS 34
theorem sc__law_refusal : FnScope N__law_refusal ["e"] (defScope s__law_refusal) := ⟨rfl, rfl, rfl, by decide +kernel, rfl, by decide +kernel, by decide +kernel⟩
abbrev N__law_far : List Str := ["well", "top", "found", "turn"]
abbrev s__law_far : Stmt := topS 35
theorem sc__law_far : FnScope N__law_far ["well", "top"] (defScope s__law_far) := ⟨rfl, rfl, rfl, by decide +kernel, rfl, by decide +kernel, by decide +kernel⟩
abbrev N__law_made : List Str := ["lot", "found", "at", "one", "other"]
abbrev s__law_made : Stmt := topS 36
theorem sc__law_made : FnScope N__law_made ["lot"] (defScope s__law_made) := ⟨rfl, rfl, rfl, by decide +kernel, rfl, by decide +kernel, by decide +kernel⟩
abbrev N__law_done : List Str := ["table", "deed", "e"]
abbrev s__law_done : Stmt := topS 37
theorem sc__law_done : FnScope N__law_done ["table", "deed"] (defScope s__law_done) := ⟨rfl, rfl, rfl, by decide +kernel, rfl, by decide +kernel, by decide +kernel⟩
abbrev N__law_deed : List Str := ["well", "lot", "way", "some"]
abbrev s__law_deed : Stmt := topS 38
theorem sc__law_deed : FnScope N__law_deed ["well", "lot"] (defScope s__law_deed) := ⟨rfl, rfl, rfl, by decide +kernel, rfl, by decide +kernel, by decide +kernel⟩
abbrev N__law_due : List Str := ["rows", "deed", "lot", "at"]
abbrev s__law_due : Stmt := topS 39
theorem sc__law_due : FnScope N__law_due ["rows", "deed"] (defScope s__law_due) := ⟨rfl, rfl, rfl, by decide +kernel, rfl, by decide +kernel, by decide +kernel⟩
abbrev N__law_stands : List Str := ["table", "lot"]
abbrev s__law_stands : Stmt := topS 40
theorem sc__law_stands : FnScope N__law_stands ["table", "lot"] (defScope s__law_stands) := ⟨rfl, rfl, rfl, by decide +kernel, rfl, by decide +kernel, by decide +kernel⟩
abbrev N__law_whole : List Str := ["weights", "table", "weight"]
abbrev s__law_whole : Stmt := topS 41
theorem sc__law_whole : FnScope N__law_whole ["weights"] (defScope s__law_whole) := ⟨rfl, rfl, rfl, by decide +kernel, rfl, by decide +kernel, by decide +kernel⟩
abbrev N_law : List Str := ["script", "rows", "table", "k", "deed", "twin", "full", "one"]
abbrev s_law : Stmt := topS 42
theorem sc_law : FnScope N_law ["script"] (defScope s_law) := ⟨rfl, rfl, rfl, by decide +kernel, rfl, by decide +kernel, by decide +kernel⟩
def clsS (st : Stmt) : List Stmt := match st with | .ClassDef _ _ _ b _ _ _ _ _ _ _ => b | _ => []
abbrev N_Table_init : List Str := ["self"]
abbrev s_Table_init : Stmt := (clsS (topS 28)).getD 0 (.Pass ⟨0, 0, 0, 0⟩)
theorem sc_Table_init : FnScope N_Table_init ["self"] (defScope s_Table_init) := ⟨rfl, rfl, rfl, by decide +kernel, rfl, by decide +kernel, by decide +kernel⟩
abbrev N_Table_len : List Str := ["self"]
abbrev s_Table_len : Stmt := (clsS (topS 28)).getD 1 (.Pass ⟨0, 0, 0, 0⟩)
theorem sc_Table_len : FnScope N_Table_len ["self"] (defScope s_Table_len) := ⟨rfl, rfl, rfl, by decide +kernel, rfl, by decide +kernel, by decide +kernel⟩
abbrev N_Table_eq : List Str := ["self", "other"]
abbrev s_Table_eq : Stmt := (clsS (topS 28)).getD 2 (.Pass ⟨0, 0, 0, 0⟩)
theorem sc_Table_eq : FnScope N_Table_eq ["self", "other"] (defScope s_Table_eq) := ⟨rfl, rfl, rfl, by decide +kernel, rfl, by decide +kernel, by decide +kernel⟩
abbrev N_Table_come : List Str := ["self", "weight"]
abbrev s_Table_come : Stmt := (clsS (topS 28)).getD 3 (.Pass ⟨0, 0, 0, 0⟩)
theorem sc_Table_come : FnScope N_Table_come ["self", "weight"] (defScope s_Table_come) := ⟨rfl, rfl, rfl, by decide +kernel, rfl, by decide +kernel, by decide +kernel⟩
abbrev N_Table_go : List Str := ["self", "weight", "left"]
abbrev s_Table_go : Stmt := (clsS (topS 28)).getD 4 (.Pass ⟨0, 0, 0, 0⟩)
theorem sc_Table_go : FnScope N_Table_go ["self", "weight"] (defScope s_Table_go) := ⟨rfl, rfl, rfl, by decide +kernel, rfl, by decide +kernel, by decide +kernel⟩
abbrev N_Table_back : List Str := ["self"]
abbrev s_Table_back : Stmt := (clsS (topS 28)).getD 5 (.Pass ⟨0, 0, 0, 0⟩)
theorem sc_Table_back : FnScope N_Table_back ["self"] (defScope s_Table_back) := ⟨rfl, rfl, rfl, by decide +kernel, rfl, by decide +kernel, by decide +kernel⟩
abbrev N_Table_lot : List Str := ["self"]
abbrev s_Table_lot : Stmt := (clsS (topS 28)).getD 6 (.Pass ⟨0, 0, 0, 0⟩)
theorem sc_Table_lot : FnScope N_Table_lot ["self"] (defScope s_Table_lot) := ⟨rfl, rfl, rfl, by decide +kernel, rfl, by decide +kernel, by decide +kernel⟩
abbrev N_Table_heap : List Str := ["self"]
abbrev s_Table_heap : Stmt := (clsS (topS 28)).getD 7 (.Pass ⟨0, 0, 0, 0⟩)
theorem sc_Table_heap : FnScope N_Table_heap ["self"] (defScope s_Table_heap) := ⟨rfl, rfl, rfl, by decide +kernel, rfl, by decide +kernel, by decide +kernel⟩
abbrev N_Table_lots : List Str := ["self"]
abbrev s_Table_lots : Stmt := (clsS (topS 28)).getD 8 (.Pass ⟨0, 0, 0, 0⟩)
theorem sc_Table_lots : FnScope N_Table_lots ["self"] (defScope s_Table_lots) := ⟨rfl, rfl, rfl, by decide +kernel, rfl, by decide +kernel, by decide +kernel⟩
def isWh (d : D) (lo hi : Int) : Bool := match d with
  | .int n => decide (lo ≤ n) && decide (n ≤ hi)
  | _ => false
def p_is_whole (ds : List D) : Prop := ∃ d lo hi, ds = [d, .int lo, .int hi]
def f_is_whole : List D → Except Addr Rs
  | [d, .int lo, .int hi] => .ok (.val (.bool (isWh d lo hi)))
  | _ => .error 0
def leAt (ns : List Int) (k : Nat) : Bool := decide (ns.getD k 0 ≤ ns.getD (k + 1) 0)
def srtB (ns : List Int) : Bool := ((List.range (ns.length - 1)).map (leAt ns)).all id
def leD (ns : List Int) : D → D
  | .int k => .bool (leAt ns k.toNat)
  | d => d
def p_in_order (ds : List D) : Prop := ∃ ns : List Int, ds = [.tuple (ns.map .int)] ∧ ns.length ≤ 1000
def f_in_order : List D → Except Addr Rs
  | [.tuple ds] => .ok (.val (.bool (srtB (intsD ds))))
  | _ => .error 0
abbrev tupI (ns : List Int) : D := .tuple (ns.map .int)
theorem shaped_intsT (ns : List Int) : SeqAt.shaped (.tuple (ns.map .int)) = true := by
  have h1 : PyData.canLayAll0 (ns.map PyData.int) = true := by
    induction ns with
    | nil => rfl
    | cons n ns ih => rw [List.map_cons, PyData.canLayAll0, ih]; rfl
  have h2 : PyData.depthAll (ns.map PyData.int) = 0 := PySem.W.depth_ints ns
  unfold SeqAt.shaped
  rw [PyData.canLay0, PyData.depth, h1, h2]
  rfl
theorem shaped_intsL (ns : List Int) : SeqAt.shaped (.list (ns.map .int)) = true := by
  have h1 : PyData.canLayAll0 (ns.map PyData.int) = true := by
    induction ns with
    | nil => rfl
    | cons n ns ih => rw [List.map_cons, PyData.canLayAll0, ih]; rfl
  have h2 : PyData.depthAll (ns.map PyData.int) = 0 := PySem.W.depth_ints ns
  unfold SeqAt.shaped
  rw [PyData.canLay0, PyData.depth, h1, h2]
  rfl
theorem any_ints (ns : List Int) (n : Int) : ((ns.map PyData.int).any fun z => PyData.eqv z (.int n)) = decide (n ∈ ns) := by
  induction ns with
  | nil => rfl
  | cons m ns ih =>
    rw [List.map_cons, List.any_cons, ih, eqv_int]
    by_cases h : m = n
    · subst h; simp
    · have h' : ¬ n = m := fun z => h z.symm
      simp [h, h']
abbrev W1 : Int := 1000000000000000000
abbrev W2 : Int := 2000000000000000000
def smallT : D → Prop
  | .tuple ds => ds.length ≤ 1000
  | _ => True
def allWh (ds : List D) : Bool := ds.all fun d => isWh d 0 W2
def numsB (d : D) (ms : List Int) : Bool := match d with
  | .tuple ds => decide ((ds.length : Int) ∈ ms) && (allWh ds && srtB (intsD ds))
  | _ => false
theorem allWh_ints {ds : List D} {lo hi : Int} (h : (ds.all fun d => isWh d lo hi) = true) : ds = (intsD ds).map .int := by
  induction ds with
  | nil => rfl
  | cons d ds ih =>
    rw [List.all_cons, Bool.and_eq_true] at h
    cases d with
    | int n => show _ = PyData.int n :: (intsD ds).map .int; rw [← ih h.2]
    | _ => exact nomatch (show false = true from h.1)
theorem intsD_len : ∀ ds : List D, (intsD ds).length ≤ ds.length
  | [] => Nat.le_refl _
  | d :: ds => by
    have := intsD_len ds
    cases d <;> (unfold intsD; simp; omega)
def p_are_numbers (ds : List D) : Prop := ∃ (d : D) (ms : List Int), ds = [d, .list (ms.map .int)] ∧ smallT d
def f_are_numbers : List D → Except Addr Rs
  | [d, .list ms] => .ok (.val (.bool (numsB d (intsD ms))))
  | _ => .error 0
def whD (d : D) : D := .bool (isWh d 0 W2)
abbrev heapL : List Int := [3, 6, 10, 15, 21, 28, 36, 45, 55, 66]
def twI (n : Int) : Int := n * (n - 1) / 2
def heapB (d : D) : Bool := numsB d heapL
def nOf (l : Nat) : Int := (([3, 4, 5, 6, 7, 8, 9, 10, 11, 12] : List Int).filter fun m => decide (twI m = (l : Int))).headD 0
theorem heapB_inv {d : D} (h : heapB d = true) : ∃ ns : List Int, d = .tuple (ns.map .int) ∧ ((ns.length : Int) ∈ heapL) ∧ (∀ n ∈ ns, 0 ≤ n ∧ n ≤ W2) ∧ srtB ns = true := by
  unfold heapB numsB at h
  split at h
  · rename_i ds
    rw [Bool.and_eq_true, Bool.and_eq_true] at h
    obtain ⟨h1, h2, h3⟩ := h
    have e := allWh_ints h2
    refine ⟨intsD ds, by rw [← e], ?_, ?_, h3⟩
    · rw [show (intsD ds).length = ds.length by rw [e, intsD_map, List.length_map]]; exact of_decide_eq_true h1
    · intro n hn
      rw [e] at h2
      unfold allWh at h2
      rw [List.all_eq_true] at h2
      have := h2 (.int n) (List.mem_map_of_mem hn)
      rw [show isWh (.int n) 0 W2 = (decide (0 ≤ n) && decide (n ≤ W2)) from rfl, Bool.and_eq_true, decide_eq_true_eq, decide_eq_true_eq] at this
      exact this
  · cases h
theorem heapL_nOf {l : Nat} (h : (l : Int) ∈ heapL) : ∃ m : Nat, m ≤ 12 ∧ 3 ≤ m ∧ l = m * (m - 1) / 2 ∧ nOf l = m ∧ l ≤ 66 := by
  have h' : l = 3 ∨ l = 6 ∨ l = 10 ∨ l = 15 ∨ l = 21 ∨ l = 28 ∨ l = 36 ∨ l = 45 ∨ l = 55 ∨ l = 66 := by
    simp only [heapL, List.mem_cons, List.not_mem_nil, or_false] at h
    omega
  rcases h' with h | h | h | h | h | h | h | h | h | h <;> subst h
  · exact ⟨3, by decide, by decide, by decide, by decide +kernel, by decide⟩
  · exact ⟨4, by decide, by decide, by decide, by decide +kernel, by decide⟩
  · exact ⟨5, by decide, by decide, by decide, by decide +kernel, by decide⟩
  · exact ⟨6, by decide, by decide, by decide, by decide +kernel, by decide⟩
  · exact ⟨7, by decide, by decide, by decide, by decide +kernel, by decide⟩
  · exact ⟨8, by decide, by decide, by decide, by decide +kernel, by decide⟩
  · exact ⟨9, by decide, by decide, by decide, by decide +kernel, by decide⟩
  · exact ⟨10, by decide, by decide, by decide, by decide +kernel, by decide⟩
  · exact ⟨11, by decide, by decide, by decide, by decide +kernel, by decide⟩
  · exact ⟨12, by decide, by decide, by decide, by decide +kernel, by decide⟩
def p_twos (ds : List D) : Prop := ∃ n : Int, ds = [.int n] ∧ 0 ≤ n ∧ n ≤ 1000
def f_twos : List D → Except Addr Rs
  | [.int n] => .ok (.val (.int (twI n)))
  | _ => .error 0
def twD : D → D
  | .int n => .int (twI n)
  | d => d
def p_is_heap (ds : List D) : Prop := ∃ d, ds = [d] ∧ smallT d
def f_is_heap : List D → Except Addr Rs
  | [d] => .ok (.val (.bool (heapB d)))
  | _ => .error 0
def p_need_heap (ds : List D) : Prop := ∃ d, ds = [d] ∧ smallT d ∧ heapB d = true
def f_need_heap : List D → Except Addr Rs
  | [_] => .ok (.val .none)
  | _ => .error 0
def p_things_of (ds : List D) : Prop := ∃ ns : List Int, ds = [.tuple (ns.map .int)] ∧ (ns.length : Int) ∈ heapL
def f_things_of : List D → Except Addr Rs
  | [.tuple ds] => .ok (.val (.int (nOf ds.length)))
  | _ => .error 0
theorem mem_rgD {lo : Int} {n : Nat} {d : D} (h : d ∈ rgD lo n) : ∃ k : Int, lo ≤ k ∧ k < lo + n ∧ d = .int k := by
  obtain ⟨k, hk, rfl⟩ := List.mem_map.mp h
  have := List.mem_range.mp hk
  exact ⟨_, by omega, by omega, rfl⟩
theorem sum_bd {ns : List Int} {c : Int} (h : ∀ n ∈ ns, 0 ≤ n ∧ n ≤ c) : 0 ≤ ns.sum ∧ ns.sum ≤ (ns.length : Int) * c := by
  induction ns with
  | nil => simp
  | cons n ns ih =>
    have h1 := ih fun m hm => h m (List.mem_cons_of_mem _ hm)
    have h2 := h n List.mem_cons_self
    rw [List.sum_cons, List.length_cons]
    have e : (((ns.length + 1 : Nat) : Int)) * c = (ns.length : Int) * c + c := by
      rw [Int.natCast_add, Int.add_mul]; simp
    omega
theorem heap_small {ns : List Int} (h : heapB (.tuple (ns.map .int)) = true) : ns.length ≤ 66 ∧ ((ns.length : Int) ∈ heapL) ∧ (∀ n ∈ ns, 0 ≤ n ∧ n ≤ W2) ∧ smallT (.tuple (ns.map .int)) := by
  obtain ⟨ms, e, h1, h2, h3⟩ := heapB_inv h
  have e' : ns = ms := by
    injection e with e
    rw [← intsD_map ns, e, intsD_map]
  subst e'
  obtain ⟨m, _, _, _, _, h66⟩ := heapL_nOf h1
  exact ⟨h66, h1, h2, by show (ns.map PyData.int).length ≤ 1000; rw [List.length_map]; omega⟩
def sqI (n : Int) : Int := n * n
def wellOk (ds : List D) : Prop := ∃ a b c : Int, ds = [.int a, .int b, .int c] ∧ 0 ≤ a ∧ 0 ≤ b ∧ b < 2 ^ 32 ∧ 0 < c ∧ c < 2 ^ 32
def S_well : FS where
  n := 2
  pre := fun es => ∃ (ns : List Int) (k : Int), es = [.scr ns, .val (.int k)] ∧ 0 ≤ k ∧ k < 64
  post := fun es r es' => es' = es ∧ ∃ ds, r = .new ds ∧ wellOk ds
def S_take : FS where
  n := 2
  pre := fun es => ∃ (ds : List D) (m : Int), es = [.own ds, .val (.int m)] ∧ wellOk ds ∧ 0 < m ∧ m < 1073741824
  post := fun es r es' => ∃ (ds ds' : List D) (m k : Int), es = [.own ds, .val (.int m)] ∧ es' = [.own ds', .val (.int m)] ∧ wellOk ds' ∧ r = .val (.int k) ∧ 0 ≤ k ∧ k < m
abbrev primesL : List Int := [2147483647, 2147483629, 2147483587, 2147483579, 2147483563, 2147483549, 2147483543, 2147483497]
theorem prime_at {k : Int} (h : 0 ≤ k) : ∃ c : Int, atI (primesL.map PyData.int) (k % 8) = some (.int c) ∧ 0 < c ∧ c < 2 ^ 32 := by
  have h1 : 0 ≤ k % 8 := by omega
  have h2 : k % 8 < 8 := by omega
  obtain ⟨v, e1, e2⟩ := atI_mod (xs := primesL.map PyData.int) (n := 8) h1 h2 rfl
  have h3 : (k % 8).toNat = 0 ∨ (k % 8).toNat = 1 ∨ (k % 8).toNat = 2 ∨ (k % 8).toNat = 3 ∨ (k % 8).toNat = 4 ∨ (k % 8).toNat = 5 ∨ (k % 8).toNat = 6 ∨ (k % 8).toNat = 7 := by omega
  rw [e1]
  rcases h3 with h | h | h | h | h | h | h | h <;> rw [h] at e2 <;> cases e2 <;> exact ⟨_, rfl, by decide, by decide⟩
def S_far : FS where
  n := 2
  pre := fun es => ∃ (ds : List D) (m : Int), es = [.own ds, .val (.int m)] ∧ wellOk ds ∧ 0 ≤ m
  post := fun es r es' => ∃ (ds ds' : List D) (m k : Int), es = [.own ds, .val (.int m)] ∧ es' = [.own ds', .val (.int m)] ∧ wellOk ds' ∧ r = .val (.int k) ∧ 0 ≤ k ∧ k ≤ m
def lotOk (ns : List Int) (c : Int) : Prop := ns.Pairwise (· ≤ ·) ∧ ∀ n ∈ ns, 0 ≤ n ∧ n ≤ c
def S_weights : FS where
  n := 3
  pre := fun es => ∃ (ds : List D) (m c : Int), es = [.own ds, .val (.int m), .val (.int c)] ∧ wellOk ds ∧ 0 ≤ m ∧ m ≤ 100 ∧ 0 ≤ c
  post := fun es r es' => ∃ (ds ds' : List D) (m c : Int) (ns : List Int), es = [.own ds, .val (.int m), .val (.int c)] ∧ es' = [.own ds', .val (.int m), .val (.int c)] ∧ wellOk ds' ∧ r = .val (.tuple (ns.map .int)) ∧ (ns.length : Int) = m ∧ lotOk ns c
theorem perm_all {ns ms : List Int} {p : Int → Prop} (h : ns.Perm ms) (q : ∀ n ∈ ms, p n) : ∀ n ∈ ns, p n := fun n hn => q n (h.mem_iff.mp hn)
/-! ### lists in order -/
def srt (ns : List Int) : List Int := ns.mergeSort fun a b => decide (a ≤ b)
theorem srt_perm (ns : List Int) : (srt ns).Perm ns := List.mergeSort_perm ns _
theorem srt_pw (ns : List Int) : (srt ns).Pairwise (· ≤ ·) := by
  have h := List.pairwise_mergeSort (le := fun a b : Int => decide (a ≤ b)) (by intro a b c; simp only [decide_eq_true_eq]; omega) (by intro a b; simp only [Bool.or_eq_true, decide_eq_true_eq]; omega) ns
  exact h.imp fun h => of_decide_eq_true h
theorem pw_uniq {a b : List Int} (h : a.Perm b) (ha : a.Pairwise (· ≤ ·)) (hb : b.Pairwise (· ≤ ·)) : a = b :=
  List.Perm.eq_of_pairwise (fun a b _ _ h1 h2 => Int.le_antisymm h1 h2) ha hb h
theorem srt_uniq {a b : List Int} (h : a.Perm b) (ha : a.Pairwise (· ≤ ·)) : a = srt b := pw_uniq (h.trans (srt_perm b).symm) ha (srt_pw b)
theorem srt_congr {a b : List Int} (h : a.Perm b) : srt a = srt b := srt_uniq ((srt_perm a).trans h) (srt_pw a)
theorem srt_id {a : List Int} (h : a.Pairwise (· ≤ ·)) : srt a = a := (srt_uniq (List.Perm.refl a) h).symm
theorem srt_len (ns : List Int) : (srt ns).length = ns.length := (srt_perm ns).length_eq
theorem perm_sum {a b : List Int} (h : a.Perm b) : a.sum = b.sum := by
  induction h with
  | nil => rfl
  | cons x _ ih => rw [List.sum_cons, List.sum_cons, ih]
  | swap x y l => simp only [List.sum_cons]; omega
  | trans _ _ h1 h2 => exact h1.trans h2
/-- all sums by twos -/
def prs : List Int → List Int
  | [] => []
  | a :: l => l.map (a + ·) ++ prs l
def madeL (l : List Int) : List Int := srt (prs l)
theorem prs_len : ∀ l : List Int, (prs l).length = l.length * (l.length - 1) / 2
  | [] => rfl
  | a :: l => by
    rw [prs, List.length_append, List.length_map, prs_len l, List.length_cons]
    rw [Nat.add_sub_cancel]
    cases hl : l.length with
    | zero => rfl
    | succ n =>
      rw [Nat.add_sub_cancel]
      have e : (n + 1 + 1) * (n + 1) = (n + 1) * n + (n + 1) * 2 := by
        rw [← Nat.mul_add, Nat.mul_comm (n + 1 + 1)]
      rw [e, Nat.add_mul_div_right _ _ (by decide), Nat.add_comm]
theorem prs_len_le (l : List Int) (h : l.length ≤ 24) : (prs l).length ≤ 276 := by
  rw [prs_len]
  have h1 : l.length * (l.length - 1) ≤ 24 * 23 := Nat.mul_le_mul h (by omega)
  omega
theorem cut_from (ds : List D) (k : Nat) : HL.cutD ds (some (k : Int)) none = ds.drop k := by
  unfold HL.cutD
  rw [HT.sIx_nat, HT.sIx_none]
  rcases Nat.le_total k ds.length with h | h
  · rw [Nat.min_eq_left h, List.take_of_length_le (by rw [List.length_drop]; omega)]
  · rw [Nat.min_eq_right h, List.drop_eq_nil_of_le h, List.drop_eq_nil_of_le (Nat.le_refl _), List.take_nil]
theorem cut_to (ds : List D) (k : Nat) : HL.cutD ds none (some (k : Int)) = ds.take k := by
  unfold HL.cutD
  rw [HT.sIx_nat, HT.sIx_none, List.drop_zero, Nat.sub_zero]
  rcases Nat.le_total k ds.length with h | h
  · rw [Nat.min_eq_left h]
  · rw [Nat.min_eq_right h, List.take_of_length_le (Nat.le_refl _), List.take_of_length_le h]
theorem cut_at (ds : List D) (j k : Nat) : HL.cutD ds (some (j : Int)) (some (k : Int)) = (ds.take k).drop j := by
  unfold HL.cutD
  rw [HT.sIx_nat, HT.sIx_nat, List.drop_take]
  rcases Nat.le_total j ds.length with h | h
  · rw [Nat.min_eq_left h]
    rcases Nat.le_total k ds.length with h' | h'
    · rw [Nat.min_eq_left h']
    · rw [Nat.min_eq_right h', List.take_of_length_le (by rw [List.length_drop]; omega), List.take_of_length_le (by rw [List.length_drop]; omega)]
  · rw [Nat.min_eq_right h, List.drop_eq_nil_of_le h, List.drop_eq_nil_of_le (Nat.le_refl _), List.take_nil, List.take_nil]
def p_ints (n : Nat) (ds : List D) : Prop := ∃ ns : List Int, ds = [.tuple (ns.map .int)] ∧ ns.length ≤ n
def f_law_made : List D → Except Addr Rs
  | [.tuple ds] => .ok (.val (.tuple ((madeL (intsD ds)).map .int)))
  | _ => .error 0
def addD (one : Int) : D → D
  | .int n => .int (one + n)
  | d => d
/-! ### twins -/
def Dbl : Nat → List Int → List Int → Prop
  | 0, f, s => ∃ low a b : Int, (1 ≤ low ∧ low ≤ 30) ∧ (1 ≤ a ∧ a ≤ 40) ∧ (1 ≤ b ∧ b ≤ 40) ∧ f = [low, low + a + b] ∧ s = [low + a, low + b]
  | i + 1, f, s => ∃ (f' s' : List Int) (m : Int), Dbl i f' s' ∧ (1 ≤ m ∧ m ≤ 90) ∧ f = srt (f' ++ s'.map (· + m)) ∧ s = srt (s' ++ f'.map (· + m))
theorem dbl_len : ∀ {i : Nat} {f s : List Int}, Dbl i f s → f.length = 2 ^ (i + 1) ∧ s.length = 2 ^ (i + 1)
  | 0, f, s, ⟨low, a, b, _, _, _, h1, h2⟩ => by subst h1 h2; exact ⟨rfl, rfl⟩
  | i + 1, f, s, ⟨f', s', m, h, _, h1, h2⟩ => by
    obtain ⟨e1, e2⟩ := dbl_len h
    subst h1 h2
    rw [srt_len, srt_len, List.length_append, List.length_append, List.length_map, List.length_map, e1, e2, Nat.pow_succ 2 (i + 1)]
    omega
theorem dbl_bd : ∀ {i : Nat} {f s : List Int}, Dbl i f s → (∀ n ∈ f, 0 ≤ n ∧ n ≤ 200 + 100 * i) ∧ (∀ n ∈ s, 0 ≤ n ∧ n ≤ 200 + 100 * i)
  | 0, f, s, ⟨low, a, b, _, _, _, h1, h2⟩ => by
    subst h1 h2
    constructor <;> intro n hn <;> simp at hn <;> omega
  | i + 1, f, s, ⟨f', s', m, h, _, h1, h2⟩ => by
    obtain ⟨e1, e2⟩ := dbl_bd h
    subst h1 h2
    refine ⟨perm_all (srt_perm _) fun n hn => ?_, perm_all (srt_perm _) fun n hn => ?_⟩ <;> rcases List.mem_append.mp hn with hn | hn
    · have := e1 n hn; omega
    · obtain ⟨k, hk, rfl⟩ := List.mem_map.mp hn; have := e2 k hk; omega
    · have := e2 n hn; omega
    · obtain ⟨k, hk, rfl⟩ := List.mem_map.mp hn; have := e1 k hk; omega
theorem dbl_pw {i : Nat} {f s : List Int} (h : Dbl (i + 1) f s) : f.Pairwise (· ≤ ·) ∧ s.Pairwise (· ≤ ·) := by
  obtain ⟨f', s', m, _, _, h1, h2⟩ := h
  subst h1 h2
  exact ⟨srt_pw _, srt_pw _⟩
def S_twin : FS where
  n := 2
  pre := fun es => ∃ (ds : List D) (k : Bool), es = [.own ds, .val (.bool k)] ∧ wellOk ds
  post := fun es r es' => ∃ (ds ds' : List D) (k : Bool) (f s : List Int), es = [.own ds, .val (.bool k)] ∧ es' = [.own ds', .val (.bool k)] ∧ wellOk ds' ∧ r = .new [tupI f, tupI s] ∧ Dbl (if k then 1 else 2) f s
def addR (m : Int) : D → D
  | .int n => .int (n + m)
  | d => d
/-! ### sums over twos -/
theorem sum_app (a b : List Int) : (a ++ b).sum = a.sum + b.sum := by
  induction a with
  | nil => simp
  | cons x a ih => rw [List.cons_append, List.sum_cons, List.sum_cons, ih]; omega
theorem sum_mapadd (c : Int) (l : List Int) : (l.map (c + ·)).sum = (l.length : Int) * c + l.sum := by
  induction l with
  | nil => simp
  | cons x l ih =>
    rw [List.map_cons, List.sum_cons, ih, List.sum_cons, List.length_cons, Int.natCast_add, Int.add_mul]
    simp only [Int.natCast_one, Int.one_mul]
    omega
theorem sum_prs (l : List Int) : (prs l).sum = ((l.length : Int) - 1) * l.sum := by
  induction l with
  | nil => simp [prs]
  | cons a l ih =>
    rw [prs, sum_app, sum_mapadd, ih, List.sum_cons, List.length_cons, Int.natCast_add]
    simp only [Int.natCast_one, Int.add_sub_cancel, Int.sub_mul, Int.one_mul, Int.mul_add]
    omega
theorem sum_sqadd (c : Int) (l : List Int) : ((l.map (c + ·)).map sqI).sum = (l.length : Int) * (c * c) + 2 * (c * l.sum) + (l.map sqI).sum := by
  induction l with
  | nil => simp
  | cons x l ih =>
    rw [List.map_cons, List.map_cons, List.sum_cons, ih, List.sum_cons, List.length_cons, Int.natCast_add, List.map_cons, List.sum_cons]
    unfold sqI
    simp only [Int.natCast_one, Int.add_mul, Int.mul_add, Int.one_mul]
    rw [Int.mul_comm x c]
    omega
theorem sum_sqprs (l : List Int) : ((prs l).map sqI).sum = ((l.length : Int) - 2) * (l.map sqI).sum + l.sum * l.sum := by
  induction l with
  | nil => simp [prs]
  | cons a l ih =>
    rw [prs, List.map_append, sum_app, sum_sqadd, ih, List.sum_cons, List.length_cons, Int.natCast_add, List.map_cons, List.sum_cons]
    unfold sqI
    simp only [Int.natCast_one, Int.sub_mul, Int.add_mul, Int.mul_add, Int.one_mul]
    rw [Int.mul_comm l.sum a]
    omega
theorem getD_some {ns : List Int} {k : Nat} (h : k < ns.length) : ns.getD k 0 = ns[k] := by
  rw [List.getD_eq_getElem?_getD, List.getElem?_eq_getElem h]; rfl
theorem srtB_pw {ns : List Int} (h : ns.Pairwise (· ≤ ·)) : srtB ns = true := by
  unfold srtB
  rw [List.all_map, List.all_eq_true]
  intro k hk
  rw [List.mem_range] at hk
  show leAt ns k = true
  unfold leAt
  rw [decide_eq_true_eq, getD_some (by omega), getD_some (by omega)]
  exact List.pairwise_iff_getElem.mp h k (k + 1) (by omega) (by omega) (by omega)
theorem pw_srtB : ∀ {ns : List Int}, srtB ns = true → ns.Pairwise (· ≤ ·)
  | [], _ => .nil
  | [a], _ => List.pairwise_singleton _ _
  | a :: b :: l, h => by
    unfold srtB at h
    rw [List.all_map, List.all_eq_true] at h
    have h' : ∀ k, k + 1 < (a :: b :: l).length → leAt (a :: b :: l) k = true := fun k hk => h k (List.mem_range.mpr (by omega))
    have ih : (b :: l).Pairwise (· ≤ ·) := pw_srtB (by
      unfold srtB
      rw [List.all_map, List.all_eq_true]
      intro k hk
      rw [List.mem_range] at hk
      have := h' (k + 1) (by simp only [List.length_cons] at hk ⊢; omega)
      exact this)
    refine List.pairwise_cons.mpr ⟨fun x hx => ?_, ih⟩
    have hab : a ≤ b := of_decide_eq_true (h' 0 (by simp))
    rcases List.mem_cons.mp hx with rfl | hx
    · exact hab
    · exact Int.le_trans hab (List.rel_of_pairwise_cons ih hx)
theorem heapB_of {ns : List Int} (h1 : (ns.length : Int) ∈ heapL) (h2 : ∀ n ∈ ns, 0 ≤ n ∧ n ≤ W2) (h3 : ns.Pairwise (· ≤ ·)) : heapB (tupI ns) = true := by
  show (decide (((ns.map PyData.int).length : Int) ∈ heapL) && (allWh (ns.map .int) && srtB (intsD (ns.map .int)))) = true
  rw [intsD_map, srtB_pw h3, List.length_map, decide_eq_true h1, Bool.true_and, Bool.and_true]
  unfold allWh
  rw [List.all_map, List.all_eq_true]
  intro n hn
  have := h2 n hn
  show (decide (0 ≤ n) && decide (n ≤ W2)) = true
  rw [decide_eq_true this.1, decide_eq_true this.2]; rfl
theorem heapL_of {m : Nat} (h1 : 3 ≤ m) (h2 : m ≤ 12) : ((m * (m - 1) / 2 : Nat) : Int) ∈ heapL ∧ nOf (m * (m - 1) / 2) = m := by
  have hm' : m = 3 ∨ m = 4 ∨ m = 5 ∨ m = 6 ∨ m = 7 ∨ m = 8 ∨ m = 9 ∨ m = 10 ∨ m = 11 ∨ m = 12 := by omega
  rcases hm' with h | h | h | h | h | h | h | h | h | h <;> subst h <;> exact ⟨by decide, by decide +kernel⟩
theorem prs_mem : ∀ {l : List Int} {c : Int}, (∀ n ∈ l, 0 ≤ n ∧ n ≤ c) → ∀ n ∈ prs l, 0 ≤ n ∧ n ≤ 2 * c
  | [], c, _, n, hn => by cases hn
  | a :: l, c, h, n, hn => by
    rw [prs] at hn
    rcases List.mem_append.mp hn with hn | hn
    · obtain ⟨k, hk, rfl⟩ := List.mem_map.mp hn
      have h1 := h a List.mem_cons_self
      have h2 := h k (List.mem_cons_of_mem _ hk)
      show 0 ≤ a + k ∧ a + k ≤ 2 * c
      omega
    · exact prs_mem (fun m hm => h m (List.mem_cons_of_mem _ hm)) n hn
/-- a lot's heap is a heap -/
theorem made_heap {l : List Int} (h1 : 3 ≤ l.length) (h2 : l.length ≤ 12) (h3 : ∀ n ∈ l, 0 ≤ n ∧ n ≤ W1) : heapB (tupI (madeL l)) = true ∧ nOf (madeL l).length = l.length ∧ (madeL l).length = l.length * (l.length - 1) / 2 := by
  have e : (madeL l).length = l.length * (l.length - 1) / 2 := by unfold madeL; rw [srt_len, prs_len]
  obtain ⟨g1, g2⟩ := heapL_of h1 h2
  refine ⟨heapB_of (by rw [e]; exact g1) (fun n hn => ?_) (srt_pw _), by rw [e]; exact g2, e⟩
  have := prs_mem h3 n ((srt_perm _).mem_iff.mp hn)
  unfold W1 at this; unfold W2; omega
theorem eqv_ints : ∀ a b : List Int, PyData.eqv (tupI a) (tupI b) = decide (a = b) := by
  intro a b
  have aux : ∀ a b : List Int, PyData.eqvAll (a.map PyData.int) (b.map PyData.int) = decide (a = b) := by
    intro a
    induction a with
    | nil => intro b; cases b <;> rfl
    | cons x a ih =>
      intro b
      cases b with
      | nil => rfl
      | cons y b =>
        rw [List.map_cons, List.map_cons, PyData.eqvAll, ih, eqv_int]
        by_cases h1 : x = y <;> by_cases h2 : a = b <;> simp [h1, h2]
  unfold tupI
  rw [PyData.eqv, aux]
def S_law : FS where
  n := 1
  pre := fun es => ∃ ns : List Int, es = [.scr ns] ∧ ns.length ≤ 63
  post := fun es r es' => es' = es ∧ r = .val (.bool true)
theorem law_turns (n : Nat) : (max 6 (min 50 n)) ≤ 50 := by omega
def powD : D → D
  | .int n => .int (n ^ (2 : Int).toNat)
  | d => d
theorem pow_sq (n : Int) : n ^ (2 : Int).toNat = sqI n := by
  show n ^ 2 = n * n
  rw [Int.pow_succ, Int.pow_succ, Int.pow_zero, Int.one_mul]
theorem map_powD (ns : List Int) : (ns.map PyData.int).map powD = (ns.map sqI).map .int := by
  rw [List.map_map, List.map_map]
  refine List.map_congr_left fun n _ => ?_
  show PyData.int (n ^ (2 : Int).toNat) = PyData.int (sqI n)
  rw [pow_sq]
theorem law_in {K : PySem.W.Frag} {H : Hp} {a : Addr} {ns : List Int} (hl : ns.length ≤ 63) (hS : SqL K H a (ns.map V.int)) : spOf K S_law [.ref a] H (fun v _ => v = .bl true) fun _ _ _ => False := by
  refine ⟨rfl, H, [.scr ns], ⟨rfl, fun i e he => ?_, fun i j x ⟨t, d, v, h1, _⟩ _ => ?_, Same.refl H⟩, ⟨ns, rfl, hl⟩, fun v r es' F' H' hp _ hr _ _ => ?_, fun C es' F' H' h => h.elim⟩
  · match i with
    | 0 => cases he; exact ⟨a, rfl, hS⟩
    | i + 1 => simp at he
  · match i with
    | 0 => exact absurd h1 (not_mk rfl)
    | i + 1 => simp at h1
  · obtain ⟨_, rfl⟩ := hp
    cases hr
    rfl
theorem takeG {α : Type} {items : List α} {i : Nat} {d : α} (h : items[i]? = some d) : items.take (i + 1) = items.take i ++ [d] := by
  rw [List.take_add_one, h]; rfl

/-! ### greedy, with each thing alone -/
def rmAll (f : Int) : List Int → List Int → Option (List Int)
  | [], left => some left
  | w :: ws, left => if w + f ∈ left then rmAll f ws (left.erase (w + f)) else none
def wa : Nat → List Int → List Int → Option (List Int)
  | _, lot, [] => some lot
  | 0, _, _ :: _ => none
  | n + 1, lot, f :: l => if 0 ≤ f ∧ f ≤ W1 then match rmAll f lot l with
    | some l' => wa n (lot ++ [f]) l'
    | none => none
    else none
def waN (ns : List Int) : Option (List Int) := wa ns.length [] ns
def rem : List Int → List Int → List Int
  | _, [] => []
  | done, f :: r => f :: (done.map (· + f) ++ rem (done ++ [f]) r)
def papersL (l : List Int) : List Int := srt (l ++ madeL l)
theorem prs_snoc (l : List Int) (f : Int) : (prs (l ++ [f])).Perm (prs l ++ l.map (· + f)) := by
  induction l with
  | nil => exact List.Perm.refl _
  | cons a l ih =>
    rw [List.cons_append, prs, prs, List.map_append, List.map_cons, List.map_nil, List.map_cons]
    rw [List.perm_iff_count] at ih ⊢
    intro x
    have := ih x
    simp only [List.count_append, List.count_cons, List.count_nil] at this ⊢
    omega
theorem rem_prs : ∀ (done rest : List Int), (prs done ++ rem done rest).Perm (rest ++ prs (done ++ rest))
  | done, [] => by rw [rem, List.append_nil, List.append_nil]; exact List.Perm.refl _
  | done, f :: r => by
    have h1 := rem_prs (done ++ [f]) r
    have h2 := prs_snoc done f
    rw [List.append_assoc] at h1
    rw [List.perm_iff_count] at h1 h2 ⊢
    intro x
    have h1 := h1 x
    have h2 := h2 x
    rw [rem]
    simp only [List.count_append, List.count_cons, List.singleton_append] at h1 h2 ⊢
    omega
theorem rem_nil (l : List Int) : (rem [] l).Perm (l ++ prs l) := by
  have := rem_prs [] l
  rwa [List.nil_append] at this
theorem rem_papers (l : List Int) : (papersL l).Perm (rem [] l) :=
  (srt_perm _).trans ((List.Perm.append_left l (srt_perm _)).trans (rem_nil l).symm)
theorem rem_low {b : Int} : ∀ {done rest : List Int}, (∀ x ∈ done, 0 ≤ x) → (∀ x ∈ rest, 0 ≤ x ∧ b ≤ x) → ∀ x ∈ rem done rest, b ≤ x
  | done, [], _, _, x, hx => by rw [rem] at hx; cases hx
  | done, f :: r, h1, h2, x, hx => by
    rw [rem] at hx
    have hf := h2 f List.mem_cons_self
    rcases List.mem_cons.mp hx with rfl | hx
    · exact hf.2
    rcases List.mem_append.mp hx with hx | hx
    · obtain ⟨w, hw, rfl⟩ := List.mem_map.mp hx
      have := h1 w hw
      show b ≤ w + f
      omega
    · refine rem_low (fun y hy => ?_) (fun y hy => h2 y (List.mem_cons_of_mem _ hy)) x hx
      rcases List.mem_append.mp hy with hy | hy
      · exact h1 y hy
      · rw [List.mem_singleton.mp hy]; exact hf.1
theorem rmAll_ok (f : Int) : ∀ (ws left R : List Int), left.Perm (ws.map (· + f) ++ R) → ∃ l', rmAll f ws left = some l' ∧ l'.Perm R ∧ l'.Sublist left
  | [], left, R, h => ⟨left, rfl, h, List.Sublist.refl _⟩
  | w :: ws, left, R, h => by
    have hm : w + f ∈ left := h.mem_iff.mpr (by rw [List.map_cons]; exact List.mem_cons_self)
    have h' : (left.erase (w + f)).Perm (ws.map (· + f) ++ R) := by
      have := h.erase (w + f)
      rw [List.map_cons, List.cons_append, List.erase_cons_head] at this
      exact this
    obtain ⟨l', e1, e2, e3⟩ := rmAll_ok f ws _ R h'
    exact ⟨l', by rw [rmAll, if_pos hm, e1], e2, e3.trans List.erase_sublist⟩
theorem rmAll_inv (f : Int) : ∀ (ws left l' : List Int), rmAll f ws left = some l' → left.Perm (ws.map (· + f) ++ l') ∧ l'.Sublist left
  | [], left, l', h => by cases h; exact ⟨List.Perm.refl _, List.Sublist.refl _⟩
  | w :: ws, left, l', h => by
    rw [rmAll] at h
    split at h
    · rename_i hm
      obtain ⟨h1, h2⟩ := rmAll_inv f ws _ l' h
      refine ⟨?_, h2.trans List.erase_sublist⟩
      rw [List.map_cons, List.cons_append]
      exact (List.perm_cons_erase hm).trans (h1.cons _)
    · cases h
theorem wa_ok : ∀ (n : Nat) (done rest left : List Int), left.length ≤ n → left.Pairwise (· ≤ ·) → left.Perm (rem done rest) → (∀ x ∈ done, 0 ≤ x) → (∀ x ∈ rest, 0 ≤ x ∧ x ≤ W1) → rest.Pairwise (· ≤ ·) → wa n done left = some (done ++ rest)
  | n, done, [], left, _, _, h, _, _, _ => by
    have e : left = [] := by rw [rem] at h; exact h.eq_nil
    subst e
    rw [List.append_nil]
    unfold wa
    rfl
  | n, done, f :: r, left, hn, hs, h, h1, h2, h3 => by
    cases left with
    | nil => rw [rem] at h; exact absurd h.symm.eq_nil (by simp)
    | cons g l =>
      have hf := h2 f List.mem_cons_self
      have hfr : ∀ x ∈ f :: r, 0 ≤ x ∧ f ≤ x := fun x hx => by
        rcases List.mem_cons.mp hx with rfl | hx'
        · exact ⟨hf.1, Int.le_refl _⟩
        · exact ⟨(h2 x hx).1, List.rel_of_pairwise_cons h3 hx'⟩
      have g1 : f ≤ g := rem_low h1 hfr g (h.mem_iff.mp List.mem_cons_self)
      have g2 : g ≤ f := by
        have : f ∈ g :: l := h.mem_iff.mpr (by rw [rem]; exact List.mem_cons_self)
        rcases List.mem_cons.mp this with e | hm
        · omega
        · exact List.rel_of_pairwise_cons hs hm
      obtain rfl : g = f := Int.le_antisymm g2 g1
      cases n with
      | zero => simp at hn
      | succ n =>
        rw [rem] at h
        obtain ⟨l', e1, e2, e3⟩ := rmAll_ok g done l _ (List.Perm.cons_inv h)
        rw [wa, if_pos hf, e1]
        show wa n (done ++ [g]) l' = _
        rw [wa_ok n (done ++ [g]) r l' (by have := e3.length_le; simp only [List.length_cons] at hn; omega) ((List.Pairwise.sublist e3 (List.Pairwise.of_cons hs))) e2 (fun x hx => by
          rcases List.mem_append.mp hx with hx | hx
          · exact h1 x hx
          · rw [List.mem_singleton.mp hx]; exact hf.1) (fun x hx => h2 x (List.mem_cons_of_mem _ hx)) (List.Pairwise.of_cons h3), List.append_assoc, List.singleton_append]
theorem wa_inv : ∀ (n : Nat) (done left lot : List Int), left.Pairwise (· ≤ ·) → wa n done left = some lot → ∃ rest, lot = done ++ rest ∧ left.Perm (rem done rest) ∧ (∀ x ∈ rest, 0 ≤ x ∧ x ≤ W1) ∧ rest.Pairwise (· ≤ ·) ∧ ∀ b, (∀ x ∈ left, b ≤ x) → ∀ x ∈ rest, b ≤ x
  | n, done, [], lot, _, h => by
    unfold wa at h
    cases h
    exact ⟨[], by rw [List.append_nil], List.Perm.refl _, nofun, .nil, nofun⟩
  | 0, done, f :: l, lot, _, h => by unfold wa at h; cases h
  | n + 1, done, f :: l, lot, hs, h => by
    rw [wa] at h
    split at h
    · rename_i hf
      split at h
      · rename_i l' e
        obtain ⟨p1, p2⟩ := rmAll_inv f done l l' e
        have hs' : l'.Pairwise (· ≤ ·) := List.Pairwise.sublist p2 (List.Pairwise.of_cons hs)
        obtain ⟨rest, r1, r2, r3, r4, r5⟩ := wa_inv n (done ++ [f]) l' lot hs' h
        refine ⟨f :: rest, by rw [r1, List.append_assoc, List.singleton_append], ?_, fun x hx => ?_, List.pairwise_cons.mpr ⟨r5 f fun x hx => List.rel_of_pairwise_cons hs (p2.mem hx), r4⟩, fun b hb x hx => ?_⟩
        · rw [rem]
          exact (p1.trans (List.Perm.append_left _ r2)).cons f
        · rcases List.mem_cons.mp hx with rfl | hx
          · exact hf
          · exact r3 x hx
        · rcases List.mem_cons.mp hx with rfl | hx
          · exact hb x List.mem_cons_self
          · exact r5 b (fun y hy => hb y (List.mem_cons_of_mem _ (p2.mem hy))) x hx
      · cases h
    · cases h
theorem waN_ok {l : List Int} (h1 : l.Pairwise (· ≤ ·)) (h2 : ∀ x ∈ l, 0 ≤ x ∧ x ≤ W1) : waN (papersL l) = some l :=
  wa_ok _ [] l _ (Nat.le_refl _) (srt_pw _) (rem_papers l) nofun h2 h1
theorem waN_inv {ns l : List Int} (hs : ns.Pairwise (· ≤ ·)) (h : waN ns = some l) : ns = papersL l ∧ l.Pairwise (· ≤ ·) ∧ ∀ x ∈ l, 0 ≤ x ∧ x ≤ W1 := by
  obtain ⟨rest, rfl, h2, h3, h4, _⟩ := wa_inv _ _ _ _ hs h
  exact ⟨pw_uniq (h2.trans (rem_papers l).symm) hs (srt_pw _), h4, h3⟩

def f_is_weight : List D → Except Addr Rs
  | [d] => .ok (.val (.bool (isWh d 0 W1)))
  | _ => .error 0
def p_one (ds : List D) : Prop := ∃ d, ds = [d] ∧ smallT d
def lotB (d : D) : Bool := match d with
  | .tuple ds => (decide (3 ≤ (ds.length : Int)) && decide ((ds.length : Int) ≤ 12)) && ((ds.all fun d => isWh d 0 W1) && srtB (intsD ds))
  | _ => false
def f_is_lot : List D → Except Addr Rs
  | [d] => .ok (.val (.bool (lotB d)))
  | _ => .error 0
theorem lotB_of {ns : List Int} (h0 : 3 ≤ ns.length ∧ ns.length ≤ 12) (h2 : ∀ n ∈ ns, 0 ≤ n ∧ n ≤ W1) (h3 : ns.Pairwise (· ≤ ·)) : lotB (tupI ns) = true := by
  show ((decide (3 ≤ (((ns.map PyData.int).length : Nat) : Int)) && decide ((((ns.map PyData.int).length : Nat) : Int) ≤ 12)) && (((ns.map PyData.int).all fun d => isWh d 0 W1) && srtB (intsD (ns.map .int)))) = true
  rw [intsD_map, srtB_pw h3, List.length_map, decide_eq_true (by omega), decide_eq_true (by omega), Bool.true_and, Bool.and_true, Bool.true_and]
  rw [List.all_map, List.all_eq_true]
  intro n hn
  have := h2 n hn
  show (decide (0 ≤ n) && decide (n ≤ W1)) = true
  rw [decide_eq_true this.1, decide_eq_true this.2]; rfl
theorem lotB_inv {d : D} (h : lotB d = true) : ∃ ns : List Int, d = tupI ns ∧ (3 ≤ ns.length ∧ ns.length ≤ 12) ∧ (∀ n ∈ ns, 0 ≤ n ∧ n ≤ W1) ∧ ns.Pairwise (· ≤ ·) := by
  unfold lotB at h
  split at h
  · rename_i ds
    rw [Bool.and_eq_true, Bool.and_eq_true, Bool.and_eq_true, decide_eq_true_eq, decide_eq_true_eq] at h
    obtain ⟨⟨g1, g2⟩, h2, h3⟩ := h
    have e := allWh_ints h2
    have el : (intsD ds).length = ds.length := by
      have := congrArg List.length e
      rw [List.length_map] at this; exact this.symm
    refine ⟨intsD ds, by rw [show tupI (intsD ds) = .tuple ((intsD ds).map .int) from rfl, ← e], ⟨by omega, by omega⟩, ?_, pw_srtB h3⟩
    intro n hn
    rw [e, List.all_eq_true] at h2
    have := h2 (.int n) (List.mem_map_of_mem hn)
    rw [show isWh (.int n) 0 W1 = (decide (0 ≤ n) && decide (n ≤ W1)) from rfl, Bool.and_eq_true, decide_eq_true_eq, decide_eq_true_eq] at this
    exact this
  · cases h
abbrev altL : List Int := [6, 10, 15, 21, 28, 36, 45, 55, 66, 78]
def oTup : Option (List Int) → D
  | some l => tupI l
  | none => .none
def p_with_alone (ds : List D) : Prop := ∃ ns : List Int, ds = [tupI ns] ∧ numsB (tupI ns) altL = true ∧ ns.length ≤ 100
def f_with_alone : List D → Except Addr Rs
  | [.tuple ds] => .ok (.val (oTup (waN (intsD ds))))
  | _ => .error 0
def altD : D → D
  | .int m => .int (m + twI m)
  | d => d
def rmK (f : Int) : Option (List Int) → List Int → Option (List Int)
  | some left, ws => rmAll f ws left
  | none, _ => none

theorem rgD_len (lo : Int) (n : Nat) : (rgD lo n).length = n := by simp [rgD]
/-! ### all small lots -/
def rgI (lo : Int) (n : Nat) : List Int := (List.range n).map fun i : Nat => lo + (i : Int)
theorem rgD_rgI (lo : Int) (n : Nat) : rgD lo n = (rgI lo n).map .int := by
  unfold rgD rgI; rw [List.map_map]; rfl
def ext (l : List Int) : List (List Int) := (rgI (l.getLastD 0) (7 - l.getLastD 0).toNat).map fun w => l ++ [w]
def en : Nat → List (List Int)
  | 0 => (rgI 0 7).map fun w => [w]
  | t + 1 => (en t).flatMap ext
theorem mem_rgI {lo x : Int} {n : Nat} : x ∈ rgI lo n ↔ lo ≤ x ∧ x < lo + n := by
  unfold rgI
  rw [List.mem_map]
  constructor
  · rintro ⟨i, hi, rfl⟩
    rw [List.mem_range] at hi
    omega
  · rintro ⟨h1, h2⟩
    exact ⟨(x - lo).toNat, by rw [List.mem_range]; omega, by omega⟩
theorem en_last : ∀ {t : Nat} {l : List Int}, l ∈ en t → ∃ (l0 : List Int) (v : Int), l = l0 ++ [v] ∧ 0 ≤ v ∧ v ≤ 6 ∧ l.length = t + 1
  | 0, l, h => by
    rw [en, List.mem_map] at h
    obtain ⟨w, hw, rfl⟩ := h
    rw [mem_rgI] at hw
    exact ⟨[], w, rfl, by omega, by omega, rfl⟩
  | t + 1, l, h => by
    rw [en, List.mem_flatMap] at h
    obtain ⟨l1, h1, h2⟩ := h
    obtain ⟨l0, v, rfl, v1, v2, hl⟩ := en_last h1
    unfold ext at h2
    rw [List.mem_map] at h2
    obtain ⟨w, hw, rfl⟩ := h2
    rw [mem_rgI, List.getLastD_concat] at hw
    exact ⟨l0 ++ [v], w, rfl, by omega, by omega, by rw [List.length_append, hl]; rfl⟩
theorem mem_en : ∀ (t : Nat) (l : List Int), l.length = t + 1 → l.Pairwise (· ≤ ·) → (∀ x ∈ l, 0 ≤ x ∧ x ≤ 6) → l ∈ en t
  | 0, l, hl, _, hb => by
    match l, hl with
    | [a], _ =>
      have := hb a (by simp)
      rw [en, List.mem_map]
      exact ⟨a, mem_rgI.mpr ⟨by omega, by omega⟩, rfl⟩
  | t + 1, l, hl, hs, hb => by
    have hne : l ≠ [] := fun z => by subst z; simp at hl
    have e := List.dropLast_concat_getLast hne
    generalize hd : l.dropLast = l1 at e
    generalize hv : l.getLast hne = v at e
    subst e
    have hl1 : l1.length = t + 1 := by rw [List.length_append] at hl; simpa using hl
    have h1 : l1 ∈ en t := mem_en t l1 hl1 (List.pairwise_append.mp hs).1 fun x hx => hb x (List.mem_append_left _ hx)
    rw [en, List.mem_flatMap]
    refine ⟨l1, h1, ?_⟩
    obtain ⟨l0, v0, e0, v1, v2, _⟩ := en_last h1
    unfold ext
    rw [List.mem_map]
    refine ⟨v, mem_rgI.mpr ?_, rfl⟩
    have hv := hb v (by simp)
    have : v0 ≤ v := (List.pairwise_append.mp hs).2.2 v0 (by rw [e0]; simp) v (by simp)
    rw [e0, List.getLastD_concat]
    omega
theorem en_nd2 : (en 2).Nodup := by decide +kernel
theorem en_nd3 : (en 3).Nodup := by decide +kernel
theorem en_len {t : Nat} (h : t ≤ 3) : (en t).length ≤ 210 := by
  have h : t = 0 ∨ t = 1 ∨ t = 2 ∨ t = 3 := by omega
  rcases h with rfl | rfl | rfl | rfl <;> decide +kernel
theorem ext_len {t : Nat} {l : List Int} (h : l ∈ en t) : (ext l).length ≤ 7 := by
  obtain ⟨l0, v, rfl, v1, v2, _⟩ := en_last h
  unfold ext rgI
  rw [List.length_map, List.length_map, List.length_range, List.getLastD_concat]
  omega
theorem ext_flat {t : Nat} : ∀ {ls : List (List Int)}, (∀ l ∈ ls, l ∈ en t) → (ls.flatMap ext).length ≤ 7 * ls.length
  | [], _ => by simp
  | l :: ls, h => by
    have h1 := ext_len (h l List.mem_cons_self)
    have h2 := ext_flat fun m hm => h m (List.mem_cons_of_mem _ hm)
    rw [List.flatMap_cons, List.length_append, List.length_cons]
    omega
def byAll (ps : List Int) (t : Nat) : List (List Int) := (en t).filter fun l => decide (papersL l = ps)
theorem filt_one {α : Type} [DecidableEq α] {p : α → Bool} {a : α} : ∀ {l : List α}, l.Nodup → (∀ x ∈ l, p x = true → x = a) → l.filter p = [] ∨ l.filter p = [a]
  | [], _, _ => .inl rfl
  | x :: l, hn, h => by
    obtain ⟨n1, n2⟩ := List.nodup_cons.mp hn
    rw [List.filter_cons]
    split
    · rename_i hp
      obtain rfl := h x List.mem_cons_self hp
      right
      have e : l.filter p = [] := by
        rw [List.filter_eq_nil_iff]
        intro y hy hq
        have := h y (List.mem_cons_of_mem _ hy) hq
        subst this
        exact n1 hy
      rw [e]
    · exact filt_one n2 fun y hy => h y (List.mem_cons_of_mem _ hy)
/-- going through small ones finds what the greedy way finds -/
theorem byAll_waN {ps : List Int} {t : Nat} (ht : t = 2 ∨ t = 3) (hs : ps.Pairwise (· ≤ ·)) (hb : ∀ x ∈ ps, 0 ≤ x ∧ x ≤ 6) (hl : ps.length = t + 1 + (t + 1) * t / 2) : (byAll ps t = [] ∧ waN ps = none) ∨ ∃ l, byAll ps t = [l] ∧ waN ps = some l := by
  have nd : (en t).Nodup := by rcases ht with rfl | rfl; exact en_nd2; exact en_nd3
  have w6 : ∀ x : Int, 0 ≤ x ∧ x ≤ 6 → 0 ≤ x ∧ x ≤ W1 := fun x h => ⟨h.1, by unfold W1; omega⟩
  have key : ∀ l ∈ en t, papersL l = ps → waN ps = some l := by
    intro l hm e
    have hsub : ∀ x ∈ l, 0 ≤ x ∧ x ≤ 6 := fun x hx => by
      refine hb x ?_
      rw [← e]
      exact (srt_perm _).mem_iff.mpr (List.mem_append_left _ hx)
    have hpw : l.Pairwise (· ≤ ·) := by
      clear e hsub
      revert l
      have aux : ∀ (t : Nat) (l : List Int), l ∈ en t → l.Pairwise (· ≤ ·) := by
        intro t
        induction t with
        | zero =>
          intro l h
          rw [en, List.mem_map] at h
          obtain ⟨w, _, rfl⟩ := h
          exact List.pairwise_singleton _ _
        | succ t ih =>
          intro l h
          rw [en, List.mem_flatMap] at h
          obtain ⟨l1, h1, h2⟩ := h
          have p1 := ih l1 h1
          obtain ⟨l0, v, rfl, v1, v2, _⟩ := en_last h1
          unfold ext at h2
          rw [List.mem_map] at h2
          obtain ⟨w, hw, rfl⟩ := h2
          rw [mem_rgI, List.getLastD_concat] at hw
          refine List.pairwise_append.mpr ⟨p1, List.pairwise_singleton _ _, fun a ha b hb => ?_⟩
          rw [List.mem_singleton.mp hb]
          rcases List.mem_append.mp ha with ha | ha
          · exact Int.le_trans ((List.pairwise_append.mp p1).2.2 a ha v (by simp)) hw.1
          · rw [List.mem_singleton.mp ha]; exact hw.1
      exact fun l hm => aux t l hm
    rw [← e]
    exact waN_ok hpw fun x hx => w6 x (hsub x hx)
  cases hw : waN ps with
  | none =>
    left
    refine ⟨?_, rfl⟩
    unfold byAll
    rw [List.filter_eq_nil_iff]
    intro l hm hp
    rw [key l hm (of_decide_eq_true hp)] at hw
    cases hw
  | some l =>
    right
    obtain ⟨e, hpw, hlb⟩ := waN_inv hs hw
    have hll : l.length = t + 1 := by
      have := congrArg List.length e
      unfold papersL at this
      rw [srt_len, List.length_append, hl] at this
      unfold madeL at this
      rw [srt_len, prs_len] at this
      have mono : ∀ n : Nat, n ≤ 4 ∨ 5 ≤ n := fun n => by omega
      rcases mono l.length with h5 | h5
      · have h6 : l.length = 0 ∨ l.length = 1 ∨ l.length = 2 ∨ l.length = 3 ∨ l.length = 4 := by omega
        rcases h6 with h6 | h6 | h6 | h6 | h6 <;> rw [h6] at this ⊢ <;> rcases ht with rfl | rfl <;> omega
      · have : 5 * 4 ≤ l.length * (l.length - 1) := Nat.mul_le_mul h5 (by omega)
        rcases ht with rfl | rfl <;> omega
    have hm : l ∈ en t := mem_en t l hll hpw fun x hx => by
      refine hb x ?_
      rw [e]
      exact (srt_perm _).mem_iff.mpr (List.mem_append_left _ hx)
    refine ⟨l, ?_, rfl⟩
    rcases filt_one (p := fun l => decide (papersL l = ps)) (a := l) nd (fun x hx hp => by
      have := key x hx (of_decide_eq_true hp)
      rw [hw] at this
      exact (Option.some.inj this).symm) with h | h
    · have : l ∈ (en t).filter fun l => decide (papersL l = ps) := List.mem_filter.mpr ⟨hm, decide_eq_true e.symm⟩
      rw [h] at this
      cases this
    · exact h

theorem papers_len (l : List Int) : (papersL l).length = l.length + l.length * (l.length - 1) / 2 := by
  unfold papersL madeL
  rw [srt_len, List.length_append, srt_len, prs_len]
theorem alt_of {m : Nat} (h1 : 3 ≤ m) (h2 : m ≤ 12) : ((m + m * (m - 1) / 2 : Nat) : Int) ∈ altL := by
  have hm' : m = 3 ∨ m = 4 ∨ m = 5 ∨ m = 6 ∨ m = 7 ∨ m = 8 ∨ m = 9 ∨ m = 10 ∨ m = 11 ∨ m = 12 := by omega
  rcases hm' with h | h | h | h | h | h | h | h | h | h <;> subst h <;> decide
theorem alt_inv {m : Nat} (h : ((m + m * (m - 1) / 2 : Nat) : Int) ∈ altL) : 3 ≤ m ∧ m ≤ 12 := by
  by_cases h13 : 13 ≤ m
  · have : 13 * 12 ≤ m * (m - 1) := Nat.mul_le_mul h13 (by omega)
    have h' : 91 ≤ m + m * (m - 1) / 2 := by omega
    simp only [altL, List.mem_cons, List.not_mem_nil, or_false] at h
    omega
  · have hm' : m = 0 ∨ m = 1 ∨ m = 2 ∨ (3 ≤ m ∧ m ≤ 12) := by omega
    rcases hm' with h' | h' | h' | h'
    · subst h'; exact absurd h (by decide)
    · subst h'; exact absurd h (by decide)
    · subst h'; exact absurd h (by decide)
    · exact h'
theorem numsB_of {ns ms : List Int} (h1 : (ns.length : Int) ∈ ms) (h2 : ∀ n ∈ ns, 0 ≤ n ∧ n ≤ W2) (h3 : ns.Pairwise (· ≤ ·)) : numsB (tupI ns) ms = true := by
  show (decide (((ns.map PyData.int).length : Int) ∈ ms) && (allWh (ns.map .int) && srtB (intsD (ns.map .int)))) = true
  rw [intsD_map, srtB_pw h3, List.length_map, decide_eq_true h1, Bool.true_and, Bool.and_true]
  unfold allWh
  rw [List.all_map, List.all_eq_true]
  intro n hn
  have := h2 n hn
  show (decide (0 ≤ n) && decide (n ≤ W2)) = true
  rw [decide_eq_true this.1, decide_eq_true this.2]; rfl
theorem papers_bd {l : List Int} {c : Int} (h : ∀ x ∈ l, 0 ≤ x ∧ x ≤ c) : ∀ x ∈ papersL l, 0 ≤ x ∧ x ≤ 2 * c := fun x hx => by
  have := (srt_perm _).mem_iff.mp hx
  rcases List.mem_append.mp this with h1 | h1
  · have := h x h1; omega
  · exact prs_mem h x ((srt_perm _).mem_iff.mp h1)
theorem papers_nums {l : List Int} (h1 : 3 ≤ l.length ∧ l.length ≤ 12) (h : ∀ x ∈ l, 0 ≤ x ∧ x ≤ W1) : numsB (tupI (papersL l)) altL = true :=
  numsB_of (by rw [papers_len]; exact alt_of h1.1 h1.2) (fun x hx => papers_bd h x hx) (srt_pw _)
theorem papers_small {l : List Int} (h1 : l.length ≤ 12) : (papersL l).length ≤ 100 := by
  rw [papers_len]
  have : l.length * (l.length - 1) ≤ 12 * 11 := Nat.mul_le_mul h1 (by omega)
  omega
/-! ### shapes -/
def Sh (n : Nat) (d : D) : Prop := d.canLay0 = true ∧ d.depth ≤ n
theorem sh_all {n : Nat} {ds : List D} (h : ∀ d ∈ ds, Sh n d) : PyData.canLayAll0 ds = true ∧ PyData.depthAll ds ≤ n := by
  induction ds with
  | nil => exact ⟨rfl, Nat.zero_le _⟩
  | cons d ds ih =>
    obtain ⟨h1, h2⟩ := ih fun x hx => h x (List.mem_cons_of_mem _ hx)
    obtain ⟨h3, h4⟩ := h d List.mem_cons_self
    refine ⟨by rw [PyData.canLayAll0, h1, h3]; rfl, ?_⟩
    rw [PyData.depthAll]
    omega
theorem sh_tup {n : Nat} {ds : List D} (h : ∀ d ∈ ds, Sh n d) : Sh (n + 1) (.tuple ds) := by
  obtain ⟨h1, h2⟩ := sh_all h
  exact ⟨by rw [PyData.canLay0]; exact h1, by rw [PyData.depth]; omega⟩
theorem sh_lst {n : Nat} {ds : List D} (h : ∀ d ∈ ds, Sh n d) : Sh (n + 1) (.list ds) := by
  obtain ⟨h1, h2⟩ := sh_all h
  exact ⟨by rw [PyData.canLay0]; exact h1, by rw [PyData.depth]; omega⟩
theorem sh_int {n : Nat} {i : Int} : Sh n (.int i) := ⟨rfl, Nat.zero_le _⟩
theorem sh_none {n : Nat} : Sh n .none := ⟨rfl, Nat.zero_le _⟩
theorem sh_bool {n : Nat} {b : Bool} : Sh n (.bool b) := ⟨rfl, Nat.zero_le _⟩
theorem sh_ints {n : Nat} (ns : List Int) : ∀ d ∈ ns.map PyData.int, Sh n d := fun d hd => by
  obtain ⟨i, _, rfl⟩ := List.mem_map.mp hd
  exact sh_int
theorem sh_tupI {n : Nat} (ns : List Int) : Sh (n + 1) (tupI ns) := sh_tup (sh_ints ns)
theorem sh_lots {n : Nat} (ls : List (List Int)) : Sh (n + 2) (.list (ls.map tupI)) := sh_lst fun d hd => by
  obtain ⟨i, _, rfl⟩ := List.mem_map.mp hd
  exact sh_tupI i
theorem sh_ok {n : Nat} {d : D} (h : Sh n d) (hn : n ≤ 64 := by decide) : SeqAt.shaped d = true := by
  unfold SeqAt.shaped
  rw [h.1, decide_eq_true (Nat.le_trans h.2 hn)]
  rfl
theorem eqv_lots : ∀ a b : List (List Int), PyData.eqv (.list (a.map tupI)) (.list (b.map tupI)) = decide (a = b) := by
  intro a b
  have aux : ∀ a b : List (List Int), PyData.eqvAll (a.map tupI) (b.map tupI) = decide (a = b) := by
    intro a
    induction a with
    | nil => intro b; cases b <;> rfl
    | cons x a ih =>
      intro b
      cases b with
      | nil => rfl
      | cons y b =>
        rw [List.map_cons, List.map_cons, PyData.eqvAll, ih, eqv_ints]
        by_cases h1 : x = y <;> by_cases h2 : a = b <;> simp [h1, h2]
  rw [PyData.eqv, aux]

/-! ### all lots of a heap -/
def lb (a : Int) : Nat → List Int → List Int → Option (List Int)
  | 0, lot, _ => some lot
  | _ + 1, _, [] => none
  | k + 1, lot, g :: l => if lot.getLastD 0 ≤ g - a ∧ 0 ≤ g - a ∧ g - a ≤ W1 then match rmAll (g - a) lot (g :: l) with
    | some l' => lb a k (lot ++ [g - a]) l'
    | none => none
    else none
def lotBy (n : Nat) (h : List Int) (t : Int) : Option (List Int) :=
  if h.getD 0 0 + h.getD 1 0 - t < 0 ∨ (h.getD 0 0 + h.getD 1 0 - t) % 2 = 1 then none
  else lb ((h.getD 0 0 + h.getD 1 0 - t) / 2) (n - 1) [(h.getD 0 0 + h.getD 1 0 - t) / 2] h
def keepT (t : Int) : Option (List Int) → Option (List Int)
  | some l => if l.getD 1 0 + l.getD 2 0 = t then some l else none
  | none => none
def found (n : Nat) (h : List Int) (ts : List Int) : List (List Int) := ts.filterMap fun t => keepT t (lotBy n h t)
def uq : List Int → List Int
  | [] => []
  | [a] => [a]
  | a :: b :: l => if a = b then uq (b :: l) else a :: uq (b :: l)
def lsrt (ls : List (List Int)) : List (List Int) := ls.mergeSort fun a b => decide (a ≤ b)
theorem lsrt_perm (ls : List (List Int)) : (lsrt ls).Perm ls := List.mergeSort_perm ls _
theorem lsrt_pw (ls : List (List Int)) : (lsrt ls).Pairwise (· ≤ ·) := by
  have h := List.pairwise_mergeSort (le := fun a b : List Int => decide (a ≤ b)) (by intro a b c; simp only [decide_eq_true_eq]; exact List.le_trans) (by intro a b; simp only [Bool.or_eq_true, decide_eq_true_eq]; exact List.le_total _ _) ls
  exact h.imp fun h => of_decide_eq_true h
theorem lsrt_uniq {a b : List (List Int)} (h : a.Perm b) (ha : a.Pairwise (· ≤ ·)) : a = lsrt b :=
  List.Perm.eq_of_pairwise (fun a b _ _ h1 h2 => List.le_antisymm h1 h2) ha (lsrt_pw b) (h.trans (lsrt_perm b).symm)
def lotsOf (n : Nat) (h : List Int) : List (List Int) := lsrt (found n h (uq ((h.take n).drop 2)))
theorem uq_mem : ∀ (l : List Int) (x : Int), x ∈ uq l ↔ x ∈ l
  | [], x => Iff.rfl
  | [a], x => Iff.rfl
  | a :: b :: l, x => by
    rw [uq]
    split
    · rename_i e
      subst e
      rw [uq_mem (a :: l) x]
      simp
    · rw [List.mem_cons, uq_mem (b :: l) x, List.mem_cons (a := x) (b := a)]
theorem uq_pw : ∀ (l : List Int), l.Pairwise (· ≤ ·) → (uq l).Pairwise (· < ·)
  | [], _ => .nil
  | [a], _ => List.pairwise_singleton _ _
  | a :: b :: l, h => by
    rw [uq]
    have h2 := uq_pw (b :: l) (List.Pairwise.of_cons h)
    split
    · exact h2
    · rename_i ne
      refine List.pairwise_cons.mpr ⟨fun x hx => ?_, h2⟩
      rw [uq_mem] at hx
      have hab : a ≤ b := List.rel_of_pairwise_cons h List.mem_cons_self
      rcases List.mem_cons.mp hx with rfl | hx
      · omega
      · have := List.rel_of_pairwise_cons (List.Pairwise.of_cons h) hx
        omega
theorem strict_uniq {a b : List Int} (ha : a.Pairwise (· < ·)) (hb : b.Pairwise (· < ·)) (h : ∀ x, x ∈ a ↔ x ∈ b) : a = b := by
  have na : a.Nodup := ha.imp fun h => by omega
  have nb : b.Nodup := hb.imp fun h => by omega
  exact List.Perm.eq_of_pairwise (le := (· < ·)) (fun a b _ _ h1 h2 => by omega) ha hb ((List.perm_ext_iff_of_nodup na nb).mpr h)
/-! #### what is told is a lot of the heap -/
theorem lb_inv (a : Int) : ∀ (k : Nat) (lot left L : List Int), lb a k lot left = some L → lot ≠ [] → lot.Pairwise (· ≤ ·) → ∃ left', L.length = lot.length + k ∧ (prs lot ++ left).Perm (prs L ++ left') ∧ L.Pairwise (· ≤ ·) ∧ (∃ r, L = lot ++ r ∧ ∀ x ∈ r, 0 ≤ x ∧ x ≤ W1)
  | 0, lot, left, L, h, _, hs => by
    unfold lb at h
    cases h
    exact ⟨left, rfl, List.Perm.refl _, hs, [], by rw [List.append_nil], nofun⟩
  | k + 1, lot, [], L, h, _, _ => by unfold lb at h; cases h
  | k + 1, lot, g :: l, L, h, hne, hs => by
    rw [lb] at h
    split at h
    · rename_i hf
      split at h
      · rename_i l' e
        obtain ⟨p1, _⟩ := rmAll_inv (g - a) lot (g :: l) l' e
        have hs' : (lot ++ [g - a]).Pairwise (· ≤ ·) := by
          refine List.pairwise_append.mpr ⟨hs, List.pairwise_singleton _ _, fun x hx y hy => ?_⟩
          rw [List.mem_singleton.mp hy]
          have e2 := List.dropLast_concat_getLast hne
          have e3 : lot.getLastD 0 = lot.getLast hne := by
            rw [List.getLastD_eq_getLast?, List.getLast?_eq_getLast hne]; rfl
          rw [e3] at hf
          rw [← e2] at hs hx
          rcases List.mem_append.mp hx with hx | hx
          · exact Int.le_trans ((List.pairwise_append.mp hs).2.2 x hx _ (List.mem_singleton.mpr rfl)) hf.1
          · rw [List.mem_singleton.mp hx]; exact hf.1
        obtain ⟨left', q1, q2, q3, r, q4, q5⟩ := lb_inv a k (lot ++ [g - a]) l' L h (by simp) hs'
        refine ⟨left', by rw [q1, List.length_append, List.length_singleton]; omega, ?_, q3, (g - a) :: r, by rw [q4, List.append_assoc, List.singleton_append], fun x hx => ?_⟩
        · refine List.Perm.trans ?_ q2
          have h2 := prs_snoc lot (g - a)
          rw [List.perm_iff_count] at p1 h2 ⊢
          intro x
          have h1 := p1 x
          have h2 := h2 x
          simp only [List.count_append] at h1 h2 ⊢
          omega
        · rcases List.mem_cons.mp hx with rfl | hx
          · exact hf.2
          · exact q5 x hx
      · cases h
    · cases h
theorem lotBy_inv {n : Nat} {h L : List Int} {t : Int} (hn : 3 ≤ n) (hl : h.length = n * (n - 1) / 2) (hs : h.Pairwise (· ≤ ·)) (e : lotBy n h t = some L) : L.length = n ∧ L.Pairwise (· ≤ ·) ∧ (∀ x ∈ L, 0 ≤ x ∧ x ≤ W1) ∧ madeL L = h := by
  unfold lotBy at e
  split at e
  · cases e
  · rename_i ho
    obtain ⟨left', q1, q2, q3, r, q4, q5⟩ := lb_inv _ _ _ _ _ e (by simp) (List.pairwise_singleton _ _)
    have hL : L.length = n := by rw [q1, List.length_singleton]; omega
    have e0 : left' = [] := by
      have := q2.length_eq
      rw [List.length_append, List.length_append, prs_len, prs_len, hL, hl] at this
      have : left'.length = 0 := by simp only [List.length_singleton] at this; omega
      exact List.eq_nil_of_length_eq_zero this
    rw [e0, List.append_nil] at q2
    refine ⟨hL, q3, fun x hx => ?_, ?_⟩
    · rw [q4] at hx q3
      rcases List.mem_append.mp hx with hx | hx
      · rw [List.mem_singleton.mp hx]
        have hr : r.length = n - 1 := by
          have := congrArg List.length q4
          rw [hL, List.length_append, List.length_singleton] at this
          omega
        obtain ⟨y, r', er⟩ := List.exists_cons_of_ne_nil (l := r) (fun z => by rw [z] at hr; simp at hr; omega)
        have h1 := (List.pairwise_append.mp q3).2.2 _ (List.mem_singleton.mpr rfl) y (by rw [er]; exact List.mem_cons_self)
        have h2 := q5 y (by rw [er]; exact List.mem_cons_self)
        refine ⟨by omega, by omega⟩
      · exact q5 x hx
    · unfold madeL
      have q2 : h.Perm (prs L) := by
        have : (prs [(h.getD 0 0 + h.getD 1 0 - t) / 2] ++ h) = h := rfl
        rw [this] at q2
        exact q2
      exact (srt_uniq q2 hs).symm
theorem mem_found {n : Nat} {h ts L : List Int} : L ∈ found n h ts ↔ ∃ t ∈ ts, lotBy n h t = some L ∧ L.getD 1 0 + L.getD 2 0 = t := by
  unfold found
  rw [List.mem_filterMap]
  constructor
  · rintro ⟨t, ht, e⟩
    refine ⟨t, ht, ?_⟩
    unfold keepT at e
    split at e
    · rename_i l e2
      split at e
      · rename_i h3
        cases e
        exact ⟨e2, h3⟩
      · cases e
    · cases e
  · rintro ⟨t, ht, e1, e2⟩
    exact ⟨t, ht, by rw [e1]; exact if_pos e2⟩
/-! #### every lot of the heap is told -/
def rem2 : List Int → List Int → List Int
  | _, [] => []
  | done, f :: r => done.map (· + f) ++ rem2 (done ++ [f]) r
theorem rem2_prs : ∀ (done rest : List Int), (prs done ++ rem2 done rest).Perm (prs (done ++ rest))
  | done, [] => by unfold rem2; rw [List.append_nil, List.append_nil]
  | done, f :: r => by
    have h1 := rem2_prs (done ++ [f]) r
    have h2 := prs_snoc done f
    rw [List.append_assoc] at h1
    rw [List.perm_iff_count] at h1 h2 ⊢
    intro x
    have h1 := h1 x
    have h2 := h2 x
    rw [rem2]
    simp only [List.count_append, List.singleton_append] at h1 h2 ⊢
    omega
theorem rem2_low {c b : Int} : ∀ {done rest : List Int}, (∀ x ∈ done, c ≤ x) → (∀ x ∈ rest, c ≤ x ∧ b ≤ x) → ∀ x ∈ rem2 done rest, c + b ≤ x
  | done, [], _, _, x, hx => by rw [rem2] at hx; cases hx
  | done, f :: r, h1, h2, x, hx => by
    rw [rem2] at hx
    have hf := h2 f List.mem_cons_self
    rcases List.mem_append.mp hx with hx | hx
    · obtain ⟨w, hw, rfl⟩ := List.mem_map.mp hx
      have := h1 w hw
      show c + b ≤ w + f
      omega
    · refine rem2_low (fun y hy => ?_) (fun y hy => h2 y (List.mem_cons_of_mem _ hy)) x hx
      rcases List.mem_append.mp hy with hy | hy
      · exact h1 y hy
      · rw [List.mem_singleton.mp hy]; exact hf.1
theorem lb_ok (a : Int) : ∀ (rest done left : List Int), (a :: done ++ rest).Pairwise (· ≤ ·) → (∀ x ∈ rest, 0 ≤ x ∧ x ≤ W1) → left.Pairwise (· ≤ ·) → left.Perm (rem2 (a :: done) rest) → lb a rest.length (a :: done) left = some (a :: done ++ rest)
  | [], done, left, _, _, _, _ => by rw [List.append_nil]; rfl
  | f :: r, done, left, hs, hb, hls, hp => by
    have hs1 := List.pairwise_append.mp hs
    have haf : a ≤ f := hs1.2.2 a List.mem_cons_self f List.mem_cons_self
    have hall : ∀ x ∈ a :: done, a ≤ x := fun x hx => by
      rcases List.mem_cons.mp hx with rfl | hx
      · exact Int.le_refl _
      · exact List.rel_of_pairwise_cons hs1.1 hx
    have hfr : ∀ x ∈ f :: r, a ≤ x ∧ f ≤ x := fun x hx => by
      refine ⟨hs1.2.2 a List.mem_cons_self x hx, ?_⟩
      rcases List.mem_cons.mp hx with rfl | hx
      · exact Int.le_refl _
      · exact List.rel_of_pairwise_cons hs1.2.1 hx
    have hmem : a + f ∈ left := hp.mem_iff.mpr (by rw [rem2, List.map_cons]; exact List.mem_append_left _ List.mem_cons_self)
    cases left with
    | nil => cases hmem
    | cons g l =>
      have g1 : a + f ≤ g := rem2_low hall hfr g (hp.mem_iff.mp List.mem_cons_self)
      have g2 : g ≤ a + f := by
        rcases List.mem_cons.mp hmem with e | hm
        · omega
        · exact List.rel_of_pairwise_cons hls hm
      obtain rfl : g = a + f := Int.le_antisymm g2 g1
      have ef : a + f - a = f := by omega
      have hlast : (a :: done).getLastD 0 ≤ f := by
        rw [List.getLastD_eq_getLast?, List.getLast?_eq_getLast (List.cons_ne_nil _ _)]
        exact hs1.2.2 _ (List.getLast_mem (List.cons_ne_nil _ _)) f List.mem_cons_self
      rw [rem2] at hp
      obtain ⟨l', e1, e2, e3⟩ := rmAll_ok f (a :: done) _ _ hp
      rw [List.length_cons, lb, ef, if_pos ⟨hlast, hb f List.mem_cons_self⟩, e1]
      show lb a r.length (a :: done ++ [f]) l' = _
      have := lb_ok a r (done ++ [f]) l' (by
        rw [show a :: (done ++ [f]) ++ r = a :: done ++ f :: r by simp]; exact hs) (fun x hx => hb x (List.mem_cons_of_mem _ hx)) (List.Pairwise.sublist e3 hls) e2
      rw [show a :: done ++ [f] = a :: (done ++ [f]) from rfl, this]
      simp
theorem made_three {a b c : Int} {r : List Int} (hs : (a :: b :: c :: r).Pairwise (· ≤ ·)) : madeL (a :: b :: c :: r) = (a + b) :: (a + c) :: srt (r.map (a + ·) ++ prs (b :: c :: r)) := by
  unfold madeL
  have hab : a ≤ b := List.rel_of_pairwise_cons hs (by simp)
  have hbc : b ≤ c := List.rel_of_pairwise_cons (List.Pairwise.of_cons hs) (by simp)
  have low : ∀ x ∈ r.map (a + ·) ++ prs (b :: c :: r), a + c ≤ x := fun x hx => by
    rcases List.mem_append.mp hx with hx | hx
    · obtain ⟨y, hy, rfl⟩ := List.mem_map.mp hx
      have := List.rel_of_pairwise_cons (List.Pairwise.of_cons (List.Pairwise.of_cons hs)) hy
      show a + c ≤ a + y
      omega
    · have h1 : b + c ≤ x := by
        have hm := (rem2_prs [] (b :: c :: r)).mem_iff (a := x)
        rw [List.nil_append] at hm
        have h2 := hm.mpr hx
        have h3 : x ∈ rem2 [] (b :: c :: r) := h2
        rw [rem2, List.map_nil, List.nil_append, List.nil_append] at h3
        refine rem2_low (fun y hy => by rw [List.mem_singleton.mp hy]; exact Int.le_refl _) (fun y hy => ?_) x h3
        refine ⟨List.rel_of_pairwise_cons (List.Pairwise.of_cons hs) hy, ?_⟩
        rcases List.mem_cons.mp hy with rfl | hy
        · exact Int.le_refl _
        · exact List.rel_of_pairwise_cons (List.Pairwise.of_cons (List.Pairwise.of_cons hs)) hy
      omega
  symm
  refine srt_uniq ?_ ?_
  · exact ((srt_perm _).cons _).cons _
  · refine List.pairwise_cons.mpr ⟨fun x hx => ?_, List.pairwise_cons.mpr ⟨fun x hx => low x ((srt_perm _).mem_iff.mp hx), srt_pw _⟩⟩
    rcases List.mem_cons.mp hx with rfl | hx
    · omega
    · have := low x ((srt_perm _).mem_iff.mp hx); omega
theorem take_low {v : Int} : ∀ {m : Nat} {s : List Int}, s.Pairwise (· ≤ ·) → v ∈ s → s.countP (fun x => decide (x < v)) ≤ m → v ∈ s.take (m + 1)
  | m, [], _, h, _ => by cases h
  | m, x :: t, hs, h, hc => by
    rw [List.take_succ_cons]
    rcases List.mem_cons.mp h with rfl | h
    · exact List.mem_cons_self
    · rw [List.countP_cons] at hc
      have hx := List.rel_of_pairwise_cons hs h
      by_cases hlt : x < v
      · rw [if_pos (decide_eq_true hlt)] at hc
        cases m with
        | zero => omega
        | succ m => exact List.mem_cons_of_mem _ (take_low (List.Pairwise.of_cons hs) h (by omega))
      · have : x = v := by omega
        rw [this]; exact List.mem_cons_self
theorem prs_low {b c : Int} {r : List Int} (hs : (b :: c :: r).Pairwise (· ≤ ·)) : ∀ x ∈ prs (b :: c :: r), b + c ≤ x := fun x hx => by
  have hm := (rem2_prs [] (b :: c :: r)).mem_iff (a := x)
  rw [List.nil_append] at hm
  have h3 : x ∈ rem2 [] (b :: c :: r) := hm.mpr hx
  rw [rem2, List.map_nil, List.nil_append, List.nil_append] at h3
  refine rem2_low (fun y hy => by rw [List.mem_singleton.mp hy]; exact Int.le_refl _) (fun y hy => ?_) x h3
  refine ⟨List.rel_of_pairwise_cons hs hy, ?_⟩
  rcases List.mem_cons.mp hy with rfl | hy
  · exact Int.le_refl _
  · exact List.rel_of_pairwise_cons (List.Pairwise.of_cons hs) hy
theorem lotBy_ok {L : List Int} (hn : 3 ≤ L.length) (hs : L.Pairwise (· ≤ ·)) (hb : ∀ x ∈ L, 0 ≤ x ∧ x ≤ W1) : lotBy L.length (madeL L) (L.getD 1 0 + L.getD 2 0) = some L ∧ L.getD 1 0 + L.getD 2 0 ∈ ((madeL L).take L.length).drop 2 := by
  match L, hn with
  | a :: b :: c :: r, _ =>
    have e := made_three hs
    have ha := hb a List.mem_cons_self
    refine ⟨?_, ?_⟩
    · show lotBy _ _ (b + c) = _
      unfold lotBy
      have hodd : (madeL (a :: b :: c :: r)).getD 0 0 + (madeL (a :: b :: c :: r)).getD 1 0 - (b + c) = 2 * a := by
        rw [e]
        show a + b + (a + c) - (b + c) = 2 * a
        omega
      rw [hodd, if_neg (by omega), show 2 * a / 2 = a by omega]
      have hr := lb_ok a (b :: c :: r) [] (madeL (a :: b :: c :: r)) hs (fun x hx => hb x (List.mem_cons_of_mem _ hx)) (srt_pw _) (by
        have := rem2_prs [a] (b :: c :: r)
        refine (srt_perm _).trans (List.Perm.symm ?_)
        exact this)
      exact hr
    · show b + c ∈ ((madeL (a :: b :: c :: r)).take (r.length + 3)).drop 2
      rw [e, List.take_succ_cons, List.take_succ_cons, List.drop_succ_cons, List.drop_succ_cons, List.drop_zero]
      refine take_low (srt_pw _) ((srt_perm _).mem_iff.mpr (List.mem_append_right _ (by rw [prs, List.map_cons]; exact List.mem_append_left _ List.mem_cons_self))) ?_
      rw [(srt_perm _).countP_eq, List.countP_append]
      have h0 : (prs (b :: c :: r)).countP (fun x => decide (x < b + c)) = 0 := by
        rw [List.countP_eq_zero]
        intro x hx hlt
        have := prs_low (List.Pairwise.of_cons hs) x hx
        have := of_decide_eq_true hlt
        omega
      rw [h0, Nat.add_zero]
      refine Nat.le_trans List.countP_le_length ?_
      rw [List.length_map]
      exact Nat.le_refl _
/-- lots_of: just the lots of the heap -/
theorem mem_lotsOf {n : Nat} {h : List Int} (hn : 3 ≤ n) (hl : h.length = n * (n - 1) / 2) (hs : h.Pairwise (· ≤ ·)) {L : List Int} : L ∈ lotsOf n h ↔ L.length = n ∧ L.Pairwise (· ≤ ·) ∧ (∀ x ∈ L, 0 ≤ x ∧ x ≤ W1) ∧ madeL L = h := by
  unfold lotsOf
  rw [(lsrt_perm _).mem_iff, mem_found]
  constructor
  · rintro ⟨t, _, e, _⟩
    exact lotBy_inv hn hl hs e
  · rintro ⟨h1, h2, h3, h4⟩
    subst h1 h4
    obtain ⟨e1, e2⟩ := lotBy_ok hn h2 h3
    exact ⟨_, (uq_mem _ _).mpr e2, e1, rfl⟩

theorem atI_lastI {l : List Int} (h : l ≠ []) : atI (l.map PyData.int) (-1) = some (.int (l.getLastD 0)) := by
  have e2 := List.dropLast_concat_getLast h
  have e3 : l.getLastD 0 = l.getLast h := by
    rw [List.getLastD_eq_getLast?, List.getLast?_eq_getLast h]; rfl
  rw [e3]
  conv => lhs; rw [← e2]
  rw [List.map_append]
  exact atI_last _ _
theorem tri_lt {j n : Nat} (h : j < n) (hj : 1 ≤ j) : j * (j - 1) / 2 < n * (n - 1) / 2 := by
  obtain ⟨p, rfl⟩ : ∃ p, n = p + 2 := ⟨n - 2, by omega⟩
  have h1 : j * (j - 1) ≤ (p + 1) * p := Nat.mul_le_mul (by omega) (by omega)
  have h2 : (p + 2) * (p + 2 - 1) = (p + 1) * p + 2 * (p + 1) := by
    show (p + 2) * (p + 1) = _
    rw [Nat.mul_comm (p + 2), Nat.mul_add, Nat.mul_comm 2]
  rw [h2]
  omega
def nN (l : Nat) : Nat := (nOf l).toNat
theorem heap_n {ns : List Int} (h : heapB (tupI ns) = true) : nOf ns.length = (nN ns.length : Nat) ∧ 3 ≤ nN ns.length ∧ nN ns.length ≤ 12 ∧ ns.length = nN ns.length * (nN ns.length - 1) / 2 ∧ ns.Pairwise (· ≤ ·) := by
  obtain ⟨h66, h1, h2, _⟩ := heap_small h
  obtain ⟨m, m12, m3, hl, hm, _⟩ := heapL_nOf h1
  have e : nN ns.length = m := by unfold nN; rw [hm]; rfl
  rw [e]
  obtain ⟨ms, e1, _, _, h3⟩ := heapB_inv h
  have e' : ns = ms := by
    injection e1 with e1
    rw [← intsD_map ns, e1, intsD_map]
  subst e'
  exact ⟨hm, m3, m12, hl, pw_srtB h3⟩
def p_lot_by (ds : List D) : Prop := ∃ (ns : List Int) (t : Int), ds = [tupI ns, .int t] ∧ heapB (tupI ns) = true
def f_lot_by : List D → Except Addr Rs
  | [.tuple ds, .int t] => .ok (.val (oTup (lotBy (nN ds.length) (intsD ds) t)))
  | _ => .error 0
def p_heap1 (ds : List D) : Prop := ∃ ns : List Int, ds = [tupI ns] ∧ heapB (tupI ns) = true
def f_lots_of : List D → Except Addr Rs
  | [.tuple ds] => .ok (.new ((lotsOf (nN ds.length) (intsD ds)).map tupI))
  | _ => .error 0
theorem lotBy_len {n : Nat} {h L : List Int} {t : Int} (hn : 3 ≤ n) (hl : h.length = n * (n - 1) / 2) (hs : h.Pairwise (· ≤ ·)) (e : lotBy n h t = some L) : L.length = n := (lotBy_inv hn hl hs e).1
theorem uq_len : ∀ l : List Int, (uq l).length ≤ l.length
  | [] => Nat.le_refl _
  | [a] => Nat.le_refl _
  | a :: b :: l => by
    have := uq_len (b :: l)
    rw [uq]
    split
    · rw [List.length_cons]; omega
    · rw [List.length_cons, List.length_cons (a := a)]; omega

/-! ### the program's own order of twos; twice as many -/
def mo (l : List Int) : List Int := (List.range l.length).flatMap fun t => (List.range t).map fun a => l.getD a 0 + l.getD t 0
theorem flatMap_congr' {α β : Type} {f g : α → List β} : ∀ {l : List α}, (∀ x ∈ l, f x = g x) → l.flatMap f = l.flatMap g
  | [], _ => rfl
  | a :: l, h => by rw [List.flatMap_cons, List.flatMap_cons, h a List.mem_cons_self, flatMap_congr' fun x hx => h x (List.mem_cons_of_mem _ hx)]
theorem getD_app {l : List Int} {f : Int} {i : Nat} (h : i < l.length) : (l ++ [f]).getD i 0 = l.getD i 0 := by
  rw [List.getD_eq_getElem?_getD, List.getD_eq_getElem?_getD, List.getElem?_append_left h]
theorem getD_end {l : List Int} {f : Int} : (l ++ [f]).getD l.length 0 = f := by
  rw [List.getD_eq_getElem?_getD, List.getElem?_append_right (Nat.le_refl _), Nat.sub_self]; rfl
theorem map_getD (l : List Int) (f : Int) : (List.range l.length).map (fun a => l.getD a 0 + f) = l.map (· + f) := by
  apply List.ext_getElem
  · simp
  · intro i h1 h2
    rw [List.getElem_map, List.getElem_map, List.getElem_range, getD_some (by simpa using h1)]
theorem mo_perm : ∀ (n : Nat) (l : List Int), l.length = n → (mo l).Perm (prs l)
  | 0, l, h => by
    rw [List.eq_nil_of_length_eq_zero h]; exact List.Perm.refl _
  | n + 1, l, h => by
    have hne : l ≠ [] := fun z => by subst z; simp at h
    have e := List.dropLast_concat_getLast hne
    generalize l.dropLast = l1 at e
    generalize l.getLast hne = f at e
    subst e
    have hl : l1.length = n := by rw [List.length_append] at h; simpa using h
    have ih := mo_perm n l1 hl
    refine List.Perm.trans ?_ ((ih.append_right _).trans (prs_snoc l1 f).symm)
    unfold mo
    rw [List.length_append, List.length_singleton, List.range_succ, List.flatMap_append, List.flatMap_singleton]
    have e1 : ((List.range l1.length).flatMap fun t => (List.range t).map fun a => (l1 ++ [f]).getD a 0 + (l1 ++ [f]).getD t 0) = (List.range l1.length).flatMap fun t => (List.range t).map fun a => l1.getD a 0 + l1.getD t 0 := by
      refine flatMap_congr' fun t ht => ?_
      rw [List.mem_range] at ht
      refine List.map_congr_left fun a ha => ?_
      rw [List.mem_range] at ha
      rw [getD_app ht, getD_app (by omega)]
    have e2 : ((List.range l1.length).map fun a => (l1 ++ [f]).getD a 0 + (l1 ++ [f]).getD l1.length 0) = l1.map (· + f) := by
      rw [← map_getD]
      refine List.map_congr_left fun a ha => ?_
      rw [List.mem_range] at ha
      rw [getD_app ha, getD_end]
    rw [e1, e2]
def f_made_of : List D → Except Addr Rs
  | [.tuple ds] => .ok (.val (tupI (madeL (intsD ds))))
  | _ => .error 0
def rowsD : D → List D
  | .int k => rg0 k.toNat
  | _ => []
def addAtD (l : List Int) : D → D → D
  | .int t, .int a => .int (l.getD a.toNat 0 + l.getD t.toNat 0)
  | _, _ => .none
theorem mo_data (l : List Int) (n : Nat) (hn : n = l.length) : ((rg0 n).flatMap fun d => (rowsD d).map (addAtD l d)) = (mo l).map .int := by
  subst hn
  unfold mo rg0
  rw [List.flatMap_map, List.map_flatMap]
  refine flatMap_congr' fun t _ => ?_
  show (rg0 ((t : Int)).toNat).map (addAtD l (.int t)) = _
  rw [rg0_map, List.map_map, Int.toNat_natCast]
  refine List.map_congr_left fun a _ => ?_
  show PyData.int (l.getD ((a : Int)).toNat 0 + l.getD ((t : Int)).toNat 0) = .int (l.getD a 0 + l.getD t 0)
  rw [Int.toNat_natCast, Int.toNat_natCast]
theorem mo_len (l : List Int) : (mo l).length = (prs l).length := (mo_perm _ l rfl).length_eq
def addm (m : Int) (l : List Int) : List Int := l.map (· + m)
def crs (a b : List Int) : List Int := a.flatMap fun x => b.map (x + ·)
theorem prs_app (a b : List Int) : (prs (a ++ b)).Perm (prs a ++ (prs b ++ crs a b)) := by
  induction a with
  | nil =>
    unfold crs
    rw [List.nil_append, List.flatMap_nil, List.append_nil]
    exact List.Perm.refl _
  | cons x a ih =>
    unfold crs at ih ⊢
    rw [List.cons_append, prs, prs, List.map_append, List.flatMap_cons]
    rw [List.perm_iff_count] at ih ⊢
    intro y
    have := ih y
    simp only [List.count_append] at this ⊢
    omega
theorem prs_addm (m : Int) (l : List Int) : prs (addm m l) = addm (2 * m) (prs l) := by
  unfold addm
  induction l with
  | nil => rfl
  | cons a l ih =>
    rw [List.map_cons, prs, prs, List.map_append, ih, List.map_map, List.map_map]
    congr 1
    refine List.map_congr_left fun x _ => ?_
    show a + m + (x + m) = a + x + 2 * m
    omega
theorem crs_nil (a : List Int) : crs a [] = [] := by
  induction a with
  | nil => rfl
  | cons x a ih => unfold crs at ih ⊢; rw [List.flatMap_cons, ih]; rfl
theorem crs_cons (a b : List Int) (y : Int) : (crs a (y :: b)).Perm (a.map (· + y) ++ crs a b) := by
  unfold crs
  induction a with
  | nil => exact List.Perm.refl _
  | cons x a ih =>
    rw [List.flatMap_cons, List.flatMap_cons, List.map_cons, List.map_cons]
    rw [List.perm_iff_count] at ih ⊢
    intro z
    have := ih z
    simp only [List.count_append, List.count_cons, List.cons_append] at this ⊢
    omega
theorem crs_addm (m : Int) (a b : List Int) : (crs a (addm m b)).Perm (crs b (addm m a)) := by
  induction a with
  | nil =>
    show (crs [] (addm m b)).Perm (crs b [])
    rw [crs_nil]
    exact List.Perm.refl _
  | cons x a ih =>
    have h1 : crs (x :: a) (addm m b) = (addm m b).map (x + ·) ++ crs a (addm m b) := by unfold crs; rw [List.flatMap_cons]
    have h2 := crs_cons b (addm m a) (x + m)
    have e : (addm m b).map (x + ·) = b.map (· + (x + m)) := by
      unfold addm
      rw [List.map_map]
      refine List.map_congr_left fun y _ => ?_
      show x + (y + m) = y + (x + m)
      omega
    rw [h1, e]
    exact (List.Perm.append_left _ ih).trans h2.symm
theorem count_addm (m x : Int) (l : List Int) : (addm m l).count x = l.count (x - m) := by
  unfold addm
  induction l with
  | nil => rfl
  | cons a l ih =>
    rw [List.map_cons, List.count_cons, List.count_cons, ih]
    by_cases h : a = x - m
    · subst h
      simp
    · have h' : ¬ a + m = x := fun z => h (by omega)
      simp [h, h']
def dblL (m : Int) (a b : List Int) : List Int := srt (a ++ addm m b)
theorem prs_congr {a b : List Int} (h : a.Perm b) : (prs a).Perm (prs b) := by
  induction h with
  | nil => exact List.Perm.refl _
  | cons x h ih => rw [prs, prs]; exact (h.map _).append ih
  | swap x y l =>
    rw [prs, prs, prs, prs, List.map_cons, List.map_cons]
    rw [List.perm_iff_count]
    intro z
    simp only [List.count_append, List.count_cons, List.cons_append, Int.add_comm y x]
    omega
  | trans _ _ h1 h2 => exact h1.trans h2
theorem made_iff (a b : List Int) : madeL a = madeL b ↔ (prs a).Perm (prs b) :=
  ⟨fun h => by
    have h1 : (madeL a).Perm (prs a) := srt_perm _
    rw [h] at h1
    exact h1.symm.trans (srt_perm _), srt_congr⟩
theorem dbl_prs (m : Int) (a b : List Int) : (prs (dblL m a b)).Perm (prs a ++ (addm (2 * m) (prs b) ++ crs a (addm m b))) := by
  have h := (prs_congr (srt_perm (a ++ addm m b))).trans (prs_app a (addm m b))
  rw [prs_addm] at h
  exact h
theorem dbl_iff {m : Int} (hm : 0 ≤ m) {a b : List Int} (ha : ∀ x ∈ a, 0 ≤ x) (hb : ∀ x ∈ b, 0 ≤ x) : madeL (dblL m a b) = madeL (dblL m b a) ↔ madeL a = madeL b ∨ m = 0 := by
  rw [made_iff, made_iff]
  have e1 := dbl_prs m a b
  have e2 := dbl_prs m b a
  have e3 := crs_addm m a b
  rw [List.perm_iff_count] at e1 e2 e3
  have key : (prs (dblL m a b)).Perm (prs (dblL m b a)) ↔ ∀ x, (prs a).count x + (prs b).count (x - 2 * m) = (prs b).count x + (prs a).count (x - 2 * m) := by
    rw [List.perm_iff_count]
    constructor
    · intro h x
      have h := h x
      have e1 := e1 x
      have e2 := e2 x
      have e3 := e3 x
      rw [List.count_append, List.count_append, count_addm] at e1 e2
      omega
    · intro h x
      have h := h x
      have e1 := e1 x
      have e2 := e2 x
      have e3 := e3 x
      rw [List.count_append, List.count_append, count_addm] at e1 e2
      omega
  rw [key]
  constructor
  · intro h
    by_cases h0 : m = 0
    · exact .inr h0
    left
    have big : ∀ l : List Int, (∀ x ∈ l, 0 ≤ x) → ∀ x ∈ prs l, 0 ≤ x := by
      intro l
      induction l with
      | nil => intro _ x hx; cases hx
      | cons c l ih =>
        intro hl x hx
        rw [prs] at hx
        rcases List.mem_append.mp hx with hx | hx
        · obtain ⟨y, hy, rfl⟩ := List.mem_map.mp hx
          have h1 := hl c List.mem_cons_self
          have h2 := hl y (List.mem_cons_of_mem _ hy)
          show 0 ≤ c + y
          omega
        · exact ih (fun z hz => hl z (List.mem_cons_of_mem _ hz)) x hx
    have zero : ∀ l : List Int, (∀ x ∈ l, 0 ≤ x) → ∀ x : Int, x < 0 → (prs l).count x = 0 := fun l hl x hx => by
      rw [List.count_eq_zero]
      intro hm'
      have := big l hl x hm'
      omega
    rw [List.perm_iff_count]
    have ind : ∀ (n : Nat) (x : Int), x < (n : Int) → (prs a).count x = (prs b).count x := by
      intro n
      induction n with
      | zero => intro x hx; rw [zero a ha x (by omega), zero b hb x (by omega)]
      | succ n ih =>
        intro x hx
        have h1 := h x
        have h2 := ih (x - 2 * m) (by omega)
        omega
    intro x
    exact ind (x.toNat + 1) x (by omega)
  · rintro (h | h)
    · intro x
      rw [List.perm_iff_count] at h
      rw [h x, h (x - 2 * m)]
    · subst h
      intro x
      rw [show x - 2 * 0 = x by omega]
      omega
theorem dblL_len (m : Int) (a b : List Int) : (dblL m a b).length = a.length + b.length := by
  unfold dblL addm
  rw [srt_len, List.length_append, List.length_map]
theorem dblL_bd {m c e : Int} {a b : List Int} (hm : 0 ≤ m ∧ m ≤ e) (he : 0 ≤ e) (ha : ∀ x ∈ a, 0 ≤ x ∧ x ≤ c) (hb : ∀ x ∈ b, 0 ≤ x ∧ x ≤ c) : ∀ x ∈ dblL m a b, 0 ≤ x ∧ x ≤ c + e := fun x hx => by
  rcases List.mem_append.mp ((srt_perm _).mem_iff.mp hx) with h | h
  · have := ha x h; omega
  · obtain ⟨y, hy, rfl⟩ := List.mem_map.mp h
    have := hb y hy
    show 0 ≤ y + m ∧ y + m ≤ c + e
    omega

abbrev W17 : Int := 100000000000000000
def halfOk (l : List Int) : Prop := (3 ≤ l.length ∧ l.length ≤ 6) ∧ l.Pairwise (· ≤ ·) ∧ ∀ x ∈ l, 0 ≤ x ∧ x ≤ W17
def p_two (ds : List D) : Prop := ∃ a b : List Int, ds = [tupI a, tupI b] ∧ halfOk a ∧ halfOk b ∧ a.length = b.length
def f_need_two : List D → Except Addr Rs
  | [_, _] => .ok (.val .none)
  | _ => .error 0
def f_alike : List D → Except Addr Rs
  | [.tuple a, .tuple b] => .ok (.val (.bool (decide (madeL (intsD a) = madeL (intsD b)))))
  | _ => .error 0
def p_twice (ds : List D) : Prop := ∃ (a b : List Int) (m : Int), ds = [tupI a, tupI b, .int m] ∧ halfOk a ∧ halfOk b ∧ a.length = b.length ∧ 0 ≤ m ∧ m ≤ W17
def f_twice : List D → Except Addr Rs
  | [.tuple a, .tuple b, .int m] => .ok (.val (.tuple [tupI (dblL m (intsD a) (intsD b)), tupI (dblL m (intsD b) (intsD a))]))
  | _ => .error 0
def p_says (ds : List D) : Prop := ∃ a b : Bool, ds = [.bool a, .bool b]
def f_says : List D → Except Addr Rs
  | [.bool a, .bool b] => .ok (.val (.bool (decide (a = b))))
  | _ => .error 0
theorem halfOk.lot {l : List Int} (h : halfOk l) : lotB (tupI l) = true :=
  lotB_of ⟨h.1.1, by have := h.1.2; omega⟩ (fun x hx => ⟨(h.2.2 x hx).1, by have := (h.2.2 x hx).2; unfold W17 at this; unfold W1; omega⟩) h.2.1
theorem eqv_bool (a b : Bool) : PyData.eqv (.bool a) (.bool b) = decide (a = b) := by
  cases a <;> cases b <;> rfl
theorem addm_map (m : Int) (l : List Int) : (l.map PyData.int).map (addR m) = (addm m l).map .int := by
  unfold addm
  rw [List.map_map, List.map_map]
  rfl
theorem last_le {l : List Int} {c : Int} (h : l ≠ []) (hb : ∀ x ∈ l, 0 ≤ x ∧ x ≤ c) : 0 ≤ l.getLastD 0 ∧ l.getLastD 0 ≤ c := by
  have e3 : l.getLastD 0 = l.getLast h := by
    rw [List.getLastD_eq_getLast?, List.getLast?_eq_getLast h]; rfl
  rw [e3]
  exact hb _ (List.getLast_mem h)

def S_pair : FS where
  n := 1
  pre := fun es => ∃ ds : List D, es = [.own ds] ∧ wellOk ds
  post := fun es r es' => ∃ (ds ds' : List D) (a b : List Int), es = [.own ds] ∧ es' = [.own ds'] ∧ wellOk ds' ∧ r = .new [tupI a, tupI b] ∧ halfOk a ∧ halfOk b ∧ a.length = b.length
theorem dbl_half {f s : List Int} (h : Dbl 1 f s) : halfOk f ∧ halfOk s ∧ f.length = s.length := by
  obtain ⟨l1, l2⟩ := dbl_len h
  obtain ⟨b1, b2⟩ := dbl_bd h
  obtain ⟨p1, p2⟩ := dbl_pw h
  refine ⟨⟨by rw [l1]; decide, p1, fun x hx => ?_⟩, ⟨by rw [l2]; decide, p2, fun x hx => ?_⟩, by rw [l1, l2]⟩
  · have := b1 x hx; unfold W17; omega
  · have := b2 x hx; unfold W17; omega
theorem half_of {l : List Int} {m : Int} (h : (l.length : Int) = 3 + m) (hm : 0 ≤ m ∧ m < 4) (hl : lotOk l W17) : halfOk l := ⟨⟨by omega, by omega⟩, hl.1, hl.2⟩
theorem setb {l : List Int} {i : Nat} {x c : Int} (h : ∀ y ∈ l, 0 ≤ y ∧ y ≤ c) (hx : 0 ≤ x ∧ x ≤ c) : ∀ y ∈ l.set i x, 0 ≤ y ∧ y ≤ c := fun y hy => by
  rcases List.mem_or_eq_of_mem_set hy with hy | rfl
  · exact h y hy
  · exact hx
theorem getb {l : List Int} {i : Nat} {c : Int} (h : ∀ y ∈ l, 0 ≤ y ∧ y ≤ c) (hi : i < l.length) : 0 ≤ l.getD i 0 ∧ l.getD i 0 ≤ c := by
  rw [getD_some hi]
  exact h _ (List.getElem_mem hi)
theorem ixN_last {n : Nat} (h : 0 < n) : ixN n (-1) = some (n - 1) := by
  unfold ixN
  rw [if_neg (by omega), if_pos (by omega)]
  congr 1
  omega
theorem any_lots (ls : List (List Int)) (l : List Int) : ((ls.map tupI).any fun z => PyData.eqv z (tupI l)) = decide (l ∈ ls) := by
  induction ls with
  | nil => rfl
  | cons m ls ih =>
    rw [List.map_cons, List.any_cons, ih, eqv_ints]
    by_cases h : m = l
    · subst h; simp
    · have h' : ¬ l = m := fun z => h z.symm
      simp [h, h']

/-! ### one heap, one lot, unless there are four or eight things -/
def psum (k : Nat) (l : List Int) : Int := (l.map (· ^ k)).sum
def gsum (m j k : Nat) (a b : List Int) : Int := (a.map fun x => (b.map fun y => (x + y) ^ m * x ^ j * y ^ k).sum).sum
theorem sum_map_add {f g : Int → Int} (l : List Int) : (l.map fun x => f x + g x).sum = (l.map f).sum + (l.map g).sum := by
  induction l with
  | nil => rfl
  | cons x l ih => simp only [List.map_cons, List.sum_cons, ih]; omega
theorem sum_map_mul (c : Int) {f : Int → Int} (l : List Int) : (l.map fun x => c * f x).sum = c * (l.map f).sum := by
  induction l with
  | nil => simp
  | cons x l ih => simp only [List.map_cons, List.sum_cons, ih, Int.mul_add]
theorem sum_map_mulr (c : Int) {f : Int → Int} (l : List Int) : (l.map fun x => f x * c).sum = (l.map f).sum * c := by
  induction l with
  | nil => simp
  | cons x l ih => simp only [List.map_cons, List.sum_cons, ih, Int.add_mul]
theorem gsum_succ (m j k : Nat) (a b : List Int) : gsum (m + 1) j k a b = gsum m (j + 1) k a b + gsum m j (k + 1) a b := by
  unfold gsum
  rw [← sum_map_add]
  congr 1
  refine List.map_congr_left fun x _ => ?_
  rw [← sum_map_add]
  congr 1
  refine List.map_congr_left fun y _ => ?_
  rw [Int.pow_succ, Int.pow_succ, Int.pow_succ, Int.mul_add, Int.add_mul, Int.add_mul]
  congr 1 <;> ac_rfl
theorem gsum_zero (j k : Nat) (a b : List Int) : gsum 0 j k a b = psum j a * psum k b := by
  unfold gsum psum
  rw [← sum_map_mulr]
  congr 1
  refine List.map_congr_left fun x _ => ?_
  rw [← sum_map_mul]
  congr 1
  refine List.map_congr_left fun y _ => ?_
  rw [Int.pow_zero, Int.one_mul]
def zb (k : Nat) : Int := if k = 0 then 1 else 0
theorem psum_zero (l : List Int) : psum 0 l = l.length := by
  unfold psum
  induction l with
  | nil => rfl
  | cons x l ih => rw [List.map_cons, List.sum_cons, ih, Int.pow_zero, List.length_cons]; omega
theorem gsum_diff {a b : List Int} {N : Nat} (hN : 0 < N) (hl : a.length = b.length) (h : ∀ i, i < N → psum i a = psum i b) : ∀ m j k : Nat, m + j + k = N → gsum m j k a a - gsum m j k b b = a.length * (psum N a - psum N b) * (zb j + zb k)
  | 0, j, k, e => by
    rw [gsum_zero, gsum_zero]
    have h0 := h 0 hN
    by_cases hj : j = 0
    · subst hj
      have hk : k = N := by omega
      subst hk
      have z0 : zb 0 = 1 := rfl
      have z1 : zb k = 0 := if_neg (by omega)
      rw [z0, z1, psum_zero, psum_zero, ← hl, ← Int.mul_sub]
      omega
    · by_cases hk : k = 0
      · subst hk
        have hj' : j = N := by omega
        subst hj'
        have z0 : zb 0 = 1 := rfl
        have z1 : zb j = 0 := if_neg hj
        rw [z0, z1, psum_zero, psum_zero, ← hl, ← Int.sub_mul, Int.mul_comm]
        omega
      · have z1 : zb j = 0 := if_neg hj
        have z2 : zb k = 0 := if_neg hk
        rw [z1, z2, h j (by omega), h k (by omega)]
        simp
  | m + 1, j, k, e => by
    have h1 := gsum_diff hN hl h m (j + 1) k (by omega)
    have h2 := gsum_diff hN hl h m j (k + 1) (by omega)
    rw [gsum_succ, gsum_succ]
    have z1 : zb (j + 1) = 0 := if_neg (by omega)
    have z2 : zb (k + 1) = 0 := if_neg (by omega)
    rw [z1, Int.zero_add] at h1
    rw [z2, Int.add_zero] at h2
    rw [Int.mul_add]
    omega
theorem sum_flat (c : Int) (N : Nat) (l : List Int) : ((l.map (c + ·)).map (· ^ N)).sum = (l.map fun y => (c + y) ^ N).sum := by
  rw [List.map_map]; rfl
theorem gsum_prs (N : Nat) : ∀ l : List Int, gsum N 0 0 l l = 2 * ((prs l).map (· ^ N)).sum + 2 ^ N * psum N l := by
  have key : ∀ (a b : List Int), gsum N 0 0 a b = (a.map fun x => (b.map fun y => (x + y) ^ N).sum).sum := by
    intro a b
    unfold gsum
    congr 1
    refine List.map_congr_left fun x _ => ?_
    congr 1
    refine List.map_congr_left fun y _ => ?_
    rw [Int.pow_zero, Int.pow_zero, Int.mul_one, Int.mul_one]
  intro l
  rw [key]
  induction l with
  | nil => simp [prs, psum]
  | cons c l ih =>
    have e1 : ((c :: l).map fun x => ((c :: l).map fun y => (x + y) ^ N).sum).sum = (c + c) ^ N + (l.map fun y => (c + y) ^ N).sum + ((l.map fun x => (x + c) ^ N).sum + (l.map fun x => (l.map fun y => (x + y) ^ N).sum).sum) := by
      rw [List.map_cons, List.sum_cons, List.map_cons, List.sum_cons, ← sum_map_add]
      simp only [List.map_cons, List.sum_cons]
    have e2 : (l.map fun x => (x + c) ^ N).sum = (l.map fun y => (c + y) ^ N).sum := by
      congr 1
      refine List.map_congr_left fun y _ => ?_
      rw [Int.add_comm]
    have e3 : (c + c) ^ N = 2 ^ N * c ^ N := by
      rw [← Int.mul_pow]
      congr 1
      omega
    rw [e1, e2, e3, ih, prs, List.map_append, sum_app, sum_flat]
    unfold psum
    rw [List.map_cons, List.sum_cons, Int.mul_add, Int.mul_add]
    omega
theorem psum_all {a b : List Int} (hl : a.length = b.length) (hp : (prs a).Perm (prs b)) (hn : ∀ N : Nat, (2 : Int) * a.length ≠ 2 ^ N) : ∀ N, psum N a = psum N b := by
  intro N
  induction N using Nat.strongRecOn with
  | ind N ih =>
    rcases Nat.eq_zero_or_pos N with h | h
    · subst h; rw [psum_zero, psum_zero, hl]
    · have d := gsum_diff h hl (fun i hi => ih i hi) N 0 0 rfl
      rw [gsum_prs, gsum_prs, perm_sum (hp.map (· ^ N))] at d
      have z0 : zb 0 = 1 := rfl
      rw [z0] at d
      have e : ((2 : Int) * a.length - 2 ^ N) * (psum N a - psum N b) = 0 := by
        rw [Int.sub_mul, Int.mul_sub (2 ^ N : Int), Int.mul_assoc]
        omega
      rcases Int.mul_eq_zero.mp e with h1 | h1
      · exact absurd (by omega) (hn N)
      · omega
/-! from the sums of powers to the numbers -/
def pprod (L : List Int) (x : Int) : Int := L.foldr (fun c p => (x - c) * p) 1
def msum (j : Nat) (L : List Int) (a : List Int) : Int := (a.map fun x => x ^ j * pprod L x).sum
theorem msum_eq {a b : List Int} (h : ∀ N, psum N a = psum N b) : ∀ (L : List Int) (j : Nat), msum j L a = msum j L b
  | [], j => by
    have := h j
    unfold psum at this
    unfold msum pprod
    simpa using this
  | c :: L, j => by
    have h1 := msum_eq h L (j + 1)
    have h2 := msum_eq h L j
    have e : ∀ l : List Int, msum j (c :: L) l = msum (j + 1) L l + (-c) * msum j L l := by
      intro l
      unfold msum
      rw [← sum_map_mul, ← sum_map_add]
      congr 1
      refine List.map_congr_left fun x _ => ?_
      show x ^ j * ((x - c) * pprod L x) = x ^ (j + 1) * pprod L x + -c * (x ^ j * pprod L x)
      rw [Int.pow_succ, Int.sub_mul, Int.mul_sub, Int.neg_mul, Int.sub_eq_add_neg]
      congr 1
      · ac_rfl
      · congr 1
        ac_rfl
    rw [e, e, h1, h2]
theorem pprod_zero {L : List Int} {x : Int} (h : x ∈ L) : pprod L x = 0 := by
  induction L with
  | nil => cases h
  | cons c L ih =>
    show (x - c) * pprod L x = 0
    rcases List.mem_cons.mp h with rfl | h
    · rw [Int.sub_self, Int.zero_mul]
    · rw [ih h, Int.mul_zero]
theorem pprod_ne {L : List Int} {x : Int} (h : x ∉ L) : pprod L x ≠ 0 := by
  induction L with
  | nil => exact Int.one_ne_zero
  | cons c L ih =>
    show (x - c) * pprod L x ≠ 0
    rw [List.mem_cons, not_or] at h
    intro z
    rcases Int.mul_eq_zero.mp z with h1 | h1
    · exact h.1 (by omega)
    · exact ih h.2 h1
theorem msum_count {L : List Int} {v : Int} : ∀ {a : List Int}, (∀ x ∈ a, x ≠ v → x ∈ L) → msum 0 L a = a.count v * pprod L v
  | [], _ => by unfold msum; simp
  | x :: a, h => by
    have ih := msum_count (L := L) (v := v) (a := a) fun y hy => h y (List.mem_cons_of_mem _ hy)
    unfold msum at ih ⊢
    rw [List.map_cons, List.sum_cons, ih, List.count_cons, Int.pow_zero, Int.one_mul]
    by_cases hx : x = v
    · subst hx
      rw [if_pos (by simp), Int.natCast_add, Int.add_mul]
      simp only [Int.natCast_one, Int.one_mul]
      omega
    · rw [pprod_zero (h x List.mem_cons_self hx), if_neg (by simpa using hx)]
      simp
theorem psum_perm {a b : List Int} (h : ∀ N, psum N a = psum N b) : a.Perm b := by
  rw [List.perm_iff_count]
  intro v
  have hL := msum_eq h ((a ++ b).filter fun x => decide (x ≠ v)) 0
  rw [msum_count (v := v) (fun x hx hv => List.mem_filter.mpr ⟨List.mem_append_left _ hx, decide_eq_true hv⟩), msum_count (v := v) (fun x hx hv => List.mem_filter.mpr ⟨List.mem_append_right _ hx, decide_eq_true hv⟩)] at hL
  have hne : pprod ((a ++ b).filter fun x => decide (x ≠ v)) v ≠ 0 := pprod_ne fun z => by
    have := (List.mem_filter.mp z).2
    simp at this
  have := Int.eq_of_mul_eq_mul_right hne hL
  omega
theorem one_lot {a b : List Int} (h1 : 3 ≤ a.length ∧ a.length ≤ 12) (h2 : a.length ≠ 4 ∧ a.length ≠ 8) (hl : a.length = b.length) (ha : a.Pairwise (· ≤ ·)) (hb : b.Pairwise (· ≤ ·)) (hm : madeL a = madeL b) : a = b := by
  refine pw_uniq (psum_perm (psum_all hl ((made_iff a b).mp hm) fun N z => ?_)) ha hb
  have hN : N < 5 := by
    refine Nat.lt_of_not_le fun h5 => ?_
    have : (2 : Int) ^ 5 ≤ 2 ^ N := by
      have := Nat.pow_le_pow_right (n := 2) (by decide) h5
      exact_mod_cast this
    omega
  have : N = 0 ∨ N = 1 ∨ N = 2 ∨ N = 3 ∨ N = 4 := by omega
  rcases this with rfl | rfl | rfl | rfl | rfl <;> omega

/-! ### lots of one heap: all unlike at both ends -/
theorem made_head {a b : List Int} (h1 : 3 ≤ a.length) (hl : a.length = b.length) (ha : a.Pairwise (· ≤ ·)) (hb : b.Pairwise (· ≤ ·)) (ba : ∀ x ∈ a, 0 ≤ x ∧ x ≤ W1) (bb : ∀ x ∈ b, 0 ≤ x ∧ x ≤ W1) (hm : madeL a = madeL b) (h0 : a.getD 0 0 = b.getD 0 0) : a = b := by
  obtain ⟨e1, _⟩ := lotBy_ok h1 ha ba
  obtain ⟨e2, _⟩ := lotBy_ok (by omega) hb bb
  match a, b, h1, hl with
  | x :: y :: z :: r, x' :: y' :: z' :: r', _, hl2 =>
    have m1 := made_three ha
    have m2 := made_three hb
    rw [hm, m2] at m1
    injection m1 with q1 m1
    injection m1 with q2 m1
    have h0 : x = x' := h0
    have ey : y = y' := by omega
    have ez : z = z' := by omega
    have e1 : lotBy _ _ (y + z) = _ := e1
    have e2 : lotBy _ _ (y' + z') = _ := e2
    subst ey ez
    rw [hm, hl2] at e1
    exact Option.some.inj (e1.symm.trans e2)
def refl (c : Int) (l : List Int) : List Int := (l.map (c - ·)).reverse
theorem prs_map (c : Int) (l : List Int) : prs (l.map (c - ·)) = (prs l).map (2 * c - ·) := by
  induction l with
  | nil => rfl
  | cons a l ih =>
    rw [List.map_cons, prs, prs, List.map_append, ih, List.map_map, List.map_map]
    congr 1
    refine List.map_congr_left fun x _ => ?_
    show c - a + (c - x) = 2 * c - (a + x)
    omega
theorem refl_made {c : Int} {a b : List Int} (h : madeL a = madeL b) : madeL (refl c a) = madeL (refl c b) := by
  rw [made_iff] at h ⊢
  have e : ∀ l, (prs (refl c l)).Perm ((prs l).map (2 * c - ·)) := fun l => by
    rw [← prs_map]
    exact prs_congr (List.reverse_perm _)
  exact (e a).trans ((h.map _).trans (e b).symm)
theorem refl_pw {c : Int} {l : List Int} (h : l.Pairwise (· ≤ ·)) : (refl c l).Pairwise (· ≤ ·) := by
  unfold refl
  rw [List.pairwise_reverse, List.pairwise_map]
  exact h.imp fun h => by omega
theorem refl_inj {c : Int} {a b : List Int} (h : refl c a = refl c b) : a = b := by
  unfold refl at h
  have h := List.reverse_inj.mp h
  exact (List.map_inj_right fun x y z => by
    have z : c - x = c - y := z
    omega).mp h
theorem made_last {a b : List Int} (h1 : 3 ≤ a.length) (hl : a.length = b.length) (ha : a.Pairwise (· ≤ ·)) (hb : b.Pairwise (· ≤ ·)) (ba : ∀ x ∈ a, 0 ≤ x ∧ x ≤ W1) (bb : ∀ x ∈ b, 0 ≤ x ∧ x ≤ W1) (hm : madeL a = madeL b) (h0 : a.getLastD 0 = b.getLastD 0) : a = b := by
  have len : ∀ l : List Int, (refl W1 l).length = l.length := fun l => by unfold refl; simp
  have bd : ∀ l : List Int, (∀ x ∈ l, 0 ≤ x ∧ x ≤ W1) → ∀ x ∈ refl W1 l, 0 ≤ x ∧ x ≤ W1 := fun l h x hx => by
    unfold refl at hx
    rw [List.mem_reverse, List.mem_map] at hx
    obtain ⟨y, hy, rfl⟩ := hx
    have := h y hy
    show 0 ≤ W1 - y ∧ W1 - y ≤ W1
    omega
  have hd : ∀ l : List Int, l ≠ [] → (refl W1 l).getD 0 0 = W1 - l.getLastD 0 := fun l h => by
    have e2 := List.dropLast_concat_getLast h
    have e3 : l.getLastD 0 = l.getLast h := by
      rw [List.getLastD_eq_getLast?, List.getLast?_eq_getLast h]; rfl
    unfold refl
    rw [e3]
    conv => lhs; rw [← e2]
    rw [List.map_append, List.reverse_append]
    rfl
  have na : a ≠ [] := fun z => by rw [z] at h1; simp at h1
  have nb : b ≠ [] := fun z => by rw [z] at hl; simp at hl; exact na hl
  exact refl_inj (made_head (by rw [len]; exact h1) (by rw [len, len, hl]) (refl_pw ha) (refl_pw hb) (bd a ba) (bd b bb) (refl_made hm) (by rw [hd a na, hd b nb, h0]))
theorem lsrt_nodup {ls : List (List Int)} (h : ls.Nodup) : (lsrt ls).Nodup := (lsrt_perm ls).nodup_iff.mpr h
theorem found_nodup {n : Nat} {h : List Int} : ∀ {ts : List Int}, ts.Pairwise (· < ·) → (found n h ts).Nodup
  | [], _ => .nil
  | t :: ts, hs => by
    have ih := found_nodup (n := n) (h := h) (List.Pairwise.of_cons hs)
    unfold found at ih ⊢
    rw [List.filterMap_cons]
    split
    · exact ih
    · rename_i l e
      refine List.nodup_cons.mpr ⟨fun hm => ?_, ih⟩
      obtain ⟨t', ht', e1, e2⟩ := mem_found.mp hm
      have e3 : l.getD 1 0 + l.getD 2 0 = t := by
        unfold keepT at e
        split at e
        · split at e
          · rename_i l2 _ h3
            cases e
            exact h3
          · cases e
        · cases e
      have := List.rel_of_pairwise_cons hs ht'
      omega
theorem lotsOf_nodup {n : Nat} {h : List Int} (hs : h.Pairwise (· ≤ ·)) : (lotsOf n h).Nodup :=
  lsrt_nodup (found_nodup (uq_pw _ ((hs.sublist (List.take_sublist _ _)).sublist (List.drop_sublist _ _))))

/-! ### papers of one thing -/
theorem lots_facts {ns : List Int} (hh : heapB (tupI ns) = true) {l : List Int} (hl : l ∈ lotsOf (nN ns.length) ns) : l.length = nN ns.length ∧ l.Pairwise (· ≤ ·) ∧ (∀ x ∈ l, 0 ≤ x ∧ x ≤ W1) ∧ madeL l = ns := by
  obtain ⟨n1, n3, n12, nl, npw⟩ := heap_n hh
  exact (mem_lotsOf n3 nl npw).mp hl
theorem lots_len {ns : List Int} (hh : heapB (tupI ns) = true) : (lotsOf (nN ns.length) ns).length ≤ 10 := by
  obtain ⟨n1, n3, n12, nl, npw⟩ := heap_n hh
  unfold lotsOf
  rw [(lsrt_perm _).length_eq]
  unfold found
  refine Nat.le_trans (List.length_filterMap_le _ _) (Nat.le_trans (uq_len _) ?_)
  rw [List.length_drop, List.length_take]
  omega
theorem lot_in {l h : List Int} (h1 : 3 ≤ l.length ∧ l.length ≤ 12) (hb : ∀ x ∈ l, 0 ≤ x ∧ x ≤ W1) (hs : l.Pairwise (· ≤ ·)) (e : madeL l = h) : heapB (tupI h) = true ∧ nN h.length = l.length ∧ l ∈ lotsOf (nN h.length) h := by
  subst e
  have hmade := made_heap h1.1 h1.2 hb
  have hn := heap_n hmade.1
  have en : nN (madeL l).length = l.length := by unfold nN; rw [hmade.2.1]; omega
  exact ⟨hmade.1, en, (mem_lotsOf hn.2.1 hn.2.2.2.1 hn.2.2.2.2).mpr ⟨en.symm, hs, hb, rfl⟩⟩
def ownL (l : List Int) (i : Nat) : List Int := (l.eraseIdx i).map (l.getD i 0 + ·)
theorem erase_perm : ∀ {l : List Int} {i : Nat}, i < l.length → (l.getD i 0 :: l.eraseIdx i).Perm l
  | a :: l, 0, _ => .refl _
  | a :: l, i + 1, h => by
    have ih := erase_perm (l := l) (i := i) (Nat.lt_of_succ_lt_succ h)
    show (l.getD i 0 :: a :: l.eraseIdx i).Perm (a :: l)
    exact (List.Perm.swap a _ _).trans (ih.cons a)
theorem perm_sumI {a b : List Int} (h : a.Perm b) : a.sum = b.sum := by
  induction h with
  | nil => rfl
  | cons x _ ih => rw [List.sum_cons, List.sum_cons, ih]
  | swap x y l => rw [List.sum_cons, List.sum_cons, List.sum_cons, List.sum_cons]; omega
  | trans _ _ h1 h2 => exact h1.trans h2
theorem addm_sum (m : Int) (l : List Int) : (addm m l).sum = l.sum + m * l.length := by
  induction l with
  | nil => show (0 : Int) = 0 + m * ((0 : Nat) : Int); omega
  | cons a l ih =>
    have e : addm m (a :: l) = (a + m) :: addm m l := rfl
    rw [e, List.sum_cons, List.sum_cons, ih, List.length_cons, Int.natCast_add, Int.mul_add]
    omega
theorem own_shift {x y : Int} {A B : List Int} (h : A.map (x + ·) = B.map (y + ·)) : B = addm (x - y) A := by
  have e : (B.map (y + ·)).map (· - y) = B := by
    rw [List.map_map]
    conv => rhs; rw [← List.map_id B]
    refine List.map_congr_left fun z _ => ?_
    show y + z - y = z
    omega
  rw [← e, ← h, List.map_map]
  refine List.map_congr_left fun z _ => ?_
  show x + z - y = z + (x - y)
  omega
theorem own_one {a b : List Int} {i j : Nat} (h3 : 3 ≤ a.length) (hl : a.length = b.length) (ha : a.Pairwise (· ≤ ·)) (hb : b.Pairwise (· ≤ ·)) (hm : madeL a = madeL b) (hi : i < a.length) (hj : j < b.length) (ho : ownL a i = ownL b j) : a = b ∧ a.getD i 0 = b.getD j 0 := by
  have pa := erase_perm hi
  have pb := erase_perm hj
  have la : (a.eraseIdx i).length = a.length - 1 := by rw [List.length_eraseIdx, if_pos hi]
  unfold ownL at ho
  generalize a.getD i 0 = x at pa ho ⊢
  generalize b.getD j 0 = y at pb ho ⊢
  generalize a.eraseIdx i = A at pa ho la
  generalize b.eraseIdx j = B at pb ho
  have hB := own_shift ho
  have q1 : (A.map (x + ·) ++ prs A).Perm (prs a) := prs_congr pa
  have q2 : (B.map (y + ·) ++ prs B).Perm (prs b) := prs_congr pb
  have q3 := q1.trans (((made_iff a b).mp hm).trans q2.symm)
  rw [ho] at q3
  have q4 : (prs A).Perm (prs B) := (List.perm_append_left_iff _).mp q3
  rw [hB, prs_addm] at q4
  have q5 := perm_sumI q4
  rw [addm_sum] at q5
  have hpos : 0 < (prs A).length := by
    rw [prs_len]
    match A, la with
    | [], la => simp at la; omega
    | [_], la => simp at la; omega
    | _ :: _ :: r, _ =>
      have h2 : 2 * 1 ≤ (r.length + 1 + 1) * (r.length + 1 + 1 - 1) := Nat.mul_le_mul (by omega) (by omega)
      simp only [List.length_cons]
      omega
  have hd : x - y = 0 := by
    have h6 : 2 * (x - y) * ((prs A).length : Int) = 0 := by omega
    rcases Int.mul_eq_zero.mp h6 with h | h <;> omega
  have exy : x = y := by omega
  subst exy
  have eAB : B = A := by
    rw [hB, hd]
    unfold addm
    conv => rhs; rw [← List.map_id A]
    exact List.map_congr_left fun z _ => by show z + 0 = z; omega
  subst eAB
  exact ⟨List.Perm.eq_of_pairwise (fun a b _ _ h1 h2 => Int.le_antisymm h1 h2) ha hb (pa.symm.trans pb), rfl⟩
theorem own_same {l : List Int} {i j : Nat} (hs : l.Pairwise (· ≤ ·)) (hi : i < l.length) (hj : j < l.length) (h : l.getD i 0 = l.getD j 0) : ownL l i = ownL l j := by
  unfold ownL
  have pi := erase_perm hi
  have pj := erase_perm hj
  rw [h] at pi ⊢
  have p : (l.eraseIdx i).Perm (l.eraseIdx j) := (pi.trans pj.symm).cons_inv
  have e : l.eraseIdx i = l.eraseIdx j := List.Perm.eq_of_pairwise (fun a b _ _ h1 h2 => Int.le_antisymm h1 h2) (hs.sublist (List.eraseIdx_sublist _ _)) (hs.sublist (List.eraseIdx_sublist _ _)) p
  rw [e]
def findAt (l own : List Int) : Option Nat := (List.range l.length).find? fun i => decide (ownL l i = own)
theorem findAt_some {l own : List Int} {i : Nat} (h : findAt l own = some i) : i < l.length ∧ ownL l i = own := by
  unfold findAt at h
  obtain ⟨h1, h2, _⟩ := List.find?_range_eq_some.mp h
  exact ⟨List.mem_range.mp h2, of_decide_eq_true h1⟩
theorem findAt_self {l : List Int} {i : Nat} (h3 : 3 ≤ l.length) (hs : l.Pairwise (· ≤ ·)) (hi : i < l.length) : findAt l (ownL l i) = some (l.idxOf (l.getD i 0)) := by
  have mem : l.getD i 0 ∈ l := by rw [getD_some hi]; exact List.getElem_mem hi
  have hlt : l.idxOf (l.getD i 0) < l.length := List.idxOf_lt_length_iff.mpr mem
  unfold findAt
  refine List.find?_range_eq_some.mpr ⟨decide_eq_true ?_, List.mem_range.mpr hlt, fun j hj => ?_⟩
  · refine own_same hs hlt hi ?_
    rw [getD_some hlt]
    exact List.getElem_idxOf hlt
  · have hjl : j < l.length := Nat.lt_trans hj hlt
    rw [Bool.not_eq_true', decide_eq_false_iff_not]
    intro z
    have e := (own_one h3 rfl hs hs rfl hjl hi z).2
    have := List.not_of_lt_findIdx (p := (· == l.getD i 0)) (xs := l) (i := j) (by exact hj)
    rw [getD_some hjl] at e
    rw [e, beq_self_eq_true] at this
    cases this
def apartL (ls : List (List Int)) (own : List Int) : Option (List Int × Nat) := ls.findSome? fun l => (findAt l own).map fun i => (l, i)
def dueL (ls : List (List Int)) (own : List Int) : List (List Int × Nat) := ls.filterMap fun l => (findAt l own).map fun i => (l, i)
theorem due_head (ls : List (List Int)) (own : List Int) : (dueL ls own).head? = apartL ls own := List.head?_filterMap
theorem filterMap_one {α β : Type} {f : α → Option β} : ∀ {l : List α}, l.Nodup → (∀ a ∈ l, ∀ b ∈ l, (f a).isSome = true → (f b).isSome = true → a = b) → (l.filterMap f).length ≤ 1
  | [], _, _ => by simp
  | a :: l, hn, h => by
    have ih := filterMap_one (List.nodup_cons.mp hn).2 fun x hx y hy => h x (List.mem_cons_of_mem _ hx) y (List.mem_cons_of_mem _ hy)
    rw [List.filterMap_cons]
    cases e : f a with
    | none => exact ih
    | some b =>
      have e2 : l.filterMap f = [] := by
        rw [List.filterMap_eq_nil_iff]
        intro x hx
        cases ex : f x with
        | none => rfl
        | some y =>
          have := h a List.mem_cons_self x (List.mem_cons_of_mem _ hx) (by rw [e]; rfl) (by rw [ex]; rfl)
          subst this
          exact absurd hx (List.nodup_cons.mp hn).1
      show (b :: l.filterMap f).length ≤ 1
      rw [e2]
      exact Nat.le_refl _
theorem due_one {ns own : List Int} (hh : heapB (tupI ns) = true) : (dueL (lotsOf (nN ns.length) ns) own).length ≤ 1 := by
  obtain ⟨n1, n3, n12, nl, npw⟩ := heap_n hh
  refine filterMap_one (lotsOf_nodup npw) fun a ha b hb h1 h2 => ?_
  obtain ⟨i, hi⟩ := Option.isSome_iff_exists.mp h1
  obtain ⟨j, hj⟩ := Option.isSome_iff_exists.mp h2
  cases ea : findAt a own with
  | none => rw [ea] at hi; cases hi
  | some i' =>
    cases eb : findAt b own with
    | none => rw [eb] at hj; cases hj
    | some j' =>
      obtain ⟨i1, i2⟩ := findAt_some ea
      obtain ⟨j1, j2⟩ := findAt_some eb
      obtain ⟨a1, a2, a3, a4⟩ := lots_facts hh ha
      obtain ⟨b1, b2, b3, b4⟩ := lots_facts hh hb
      exact (own_one (by omega) (by omega) a2 b2 (a4.trans b4.symm) i1 j1 (i2.trans j2.symm)).1
theorem findSome_one {α β : Type} {f : α → Option β} {a : α} {b : β} : ∀ {l : List α}, a ∈ l → f a = some b → (∀ x ∈ l, (f x).isSome = true → x = a) → l.findSome? f = some b
  | x :: l, hm, hf, h => by
    rw [List.findSome?_cons]
    cases e : f x with
    | some y =>
      have := h x List.mem_cons_self (by rw [e]; rfl)
      subst this
      rw [hf] at e
      cases e; rfl
    | none =>
      rcases List.mem_cons.mp hm with rfl | hm
      · rw [hf] at e; cases e
      · exact findSome_one hm hf fun z hz => h z (List.mem_cons_of_mem _ hz)
theorem apart_self {l : List Int} {i : Nat} (h1 : 3 ≤ l.length ∧ l.length ≤ 12) (hb : ∀ x ∈ l, 0 ≤ x ∧ x ≤ W1) (hs : l.Pairwise (· ≤ ·)) (hi : i < l.length) : apartL (lotsOf (nN (madeL l).length) (madeL l)) (ownL l i) = some (l, l.idxOf (l.getD i 0)) := by
  obtain ⟨hh, en, hin⟩ := lot_in h1 hb hs rfl
  refine findSome_one hin ?_ fun x hx hsx => ?_
  · rw [findAt_self h1.1 hs hi]; rfl
  · cases ex : findAt x (ownL l i) with
    | none => rw [ex] at hsx; cases hsx
    | some k =>
      obtain ⟨k1, k2⟩ := findAt_some ex
      obtain ⟨x1, x2, x3, x4⟩ := lots_facts hh hx
      exact (own_one (by omega) (by omega) x2 hs x4 k1 hi k2).1
/-! ### whether papers are in a heap -/
def remAll : List Int → List Int → Option (List Int)
  | left, [] => some left
  | left, p :: r => if p ∈ left then remAll (left.erase p) r else none
theorem remAll_iff : ∀ {own left : List Int}, (remAll left own).isSome = true ↔ ∀ p ∈ own, own.count p ≤ left.count p
  | [], left => by
    unfold remAll
    simp
  | p :: r, left => by
    unfold remAll
    have cc : ∀ q, (p :: r).count q = r.count q + if (p == q) = true then 1 else 0 := fun q => List.count_cons
    have ce : ∀ q, (left.erase p).count q = left.count q - if (p == q) = true then 1 else 0 := fun q => by
      rw [List.count_erase]
    by_cases hp : p ∈ left
    · rw [if_pos hp, remAll_iff]
      have hpc : 1 ≤ left.count p := List.one_le_count_iff.mpr hp
      constructor
      · intro h q hq
        rw [cc]
        by_cases hqr : q ∈ r
        · have h1 := h q hqr
          rw [ce] at h1
          by_cases e : p = q
          · subst e
            simp only [beq_self_eq_true, if_true] at h1 ⊢
            omega
          · rw [if_neg (by simpa using e)] at h1 ⊢
            omega
        · have e : q = p := (List.mem_cons.mp hq).resolve_right hqr
          subst e
          rw [List.count_eq_zero.mpr hqr]
          simp only [beq_self_eq_true, if_true]
          omega
      · intro h q hq
        have h1 := h q (List.mem_cons_of_mem _ hq)
        rw [cc] at h1
        rw [ce]
        by_cases e : p = q
        · subst e
          simp only [beq_self_eq_true, if_true] at h1 ⊢
          omega
        · rw [if_neg (by simpa using e)] at h1 ⊢
          omega
    · rw [if_neg hp]
      constructor
      · intro h; cases h
      · intro h
        have h1 := h p List.mem_cons_self
        rw [cc, List.count_eq_zero.mpr hp] at h1
        simp only [beq_self_eq_true, if_true] at h1
        omega
theorem rem_own {l : List Int} {i : Nat} (hi : i < l.length) : (remAll (madeL l) (ownL l i)).isSome = true := by
  rw [remAll_iff]
  intro p _
  have pa := erase_perm hi
  have q1 : (ownL l i ++ prs (l.eraseIdx i)).Perm (madeL l) := (prs_congr pa).trans (srt_perm _).symm
  rw [← q1.count_eq p, List.count_append]
  omega
theorem own_len {l : List Int} {i : Nat} (hi : i < l.length) : (ownL l i).length = l.length - 1 := by
  unfold ownL
  rw [List.length_map, List.length_eraseIdx, if_pos hi]
theorem own_bd {l : List Int} {i : Nat} (hi : i < l.length) (hb : ∀ x ∈ l, 0 ≤ x ∧ x ≤ W1) : ∀ x ∈ ownL l i, 0 ≤ x ∧ x ≤ W2 := fun x hx => by
  unfold ownL at hx
  obtain ⟨y, hy, rfl⟩ := List.mem_map.mp hx
  have h1 := hb y ((List.eraseIdx_sublist _ _).subset hy)
  have h2 : 0 ≤ l.getD i 0 ∧ l.getD i 0 ≤ W1 := by rw [getD_some hi]; exact hb _ (List.getElem_mem hi)
  unfold W1 at h1 h2
  unfold W2
  show 0 ≤ l.getD i 0 + y ∧ l.getD i 0 + y ≤ _
  omega
theorem own_pw {l : List Int} {i : Nat} (hs : l.Pairwise (· ≤ ·)) : (ownL l i).Pairwise (· ≤ ·) := by
  unfold ownL
  rw [List.pairwise_map]
  exact (hs.sublist (List.eraseIdx_sublist _ _)).imp fun h => by omega
/-! ### what the defs tell -/
def itemsD : D → List Int
  | .tuple ds => intsD ds
  | _ => []
def needB (h : List Int) (d : D) : Bool := numsB d [nOf h.length - 1] && (remAll h (itemsD d)).isSome
def f_need_own (C : Addr) : List D → Except Addr Rs
  | [.tuple hs, d] => if needB (intsD hs) d = true then .ok (.val .none) else .error C
  | _ => .error 0
def p_need_own (ds : List D) : Prop := ∃ (h : List Int) (d : D), ds = [tupI h, d] ∧ heapB (tupI h) = true ∧ smallT d
def oApart : Option (List Int × Nat) → D
  | some (l, i) => .tuple [tupI l, .int (i : Int)]
  | none => .none
def f_own_apart (C : Addr) : List D → Except Addr Rs
  | [.tuple hs, d] => if needB (intsD hs) d = true then .ok (.val (oApart (apartL (lotsOf (nN hs.length) (intsD hs)) (itemsD d)))) else .error C
  | _ => .error 0
def f_law_own : List D → Except Addr Rs
  | [.tuple ds, .int i] => .ok (.val (.tuple ((ownL (intsD ds) i.toNat).map .int)))
  | _ => .error 0
def p_law_own (ds : List D) : Prop := ∃ (l : List Int) (i : Nat), ds = [tupI l, .int (i : Int)] ∧ l.length ≤ 12 ∧ i < l.length
def dueD : List Int × Nat → D := fun p => .tuple [tupI p.1, .int (p.2 : Int)]
def f_law_due : List D → Except Addr Rs
  | [.tuple hs, .tuple os] => .ok (.val (.list ((dueL (lotsOf (nN hs.length) (intsD hs)) (intsD os)).map dueD)))
  | _ => .error 0
def p_two_t (ds : List D) : Prop := ∃ (h o : List Int), ds = [tupI h, tupI o] ∧ heapB (tupI h) = true ∧ o.length ≤ 100
def inB (h o : List Int) : Bool := o.all fun p => decide (o.count p ≤ h.count p)
def f_law_in : List D → Except Addr Rs
  | [.tuple hs, .tuple os] => .ok (.val (.bool (inB (intsD hs) (intsD os))))
  | _ => .error 0
theorem inB_iff (h o : List Int) : inB h o = (remAll h o).isSome := by
  rw [Bool.eq_iff_iff, remAll_iff]
  unfold inB
  rw [List.all_eq_true]
  exact ⟨fun z p hp => of_decide_eq_true (z p hp), fun z p hp => decide_eq_true (z p hp)⟩
def f_law_word (w : Str) : List D → Except Addr Rs
  | [.tuple hs, d] => .ok (.val (if needB (intsD hs) d = true then oApart (apartL (lotsOf (nN hs.length) (intsD hs)) (itemsD d)) else .str w))
  | _ => .error 0
theorem numsB_inv {d : D} {ms : List Int} (h : numsB d ms = true) : ∃ ns : List Int, d = tupI ns ∧ ((ns.length : Int) ∈ ms) ∧ (∀ n ∈ ns, 0 ≤ n ∧ n ≤ W2) ∧ srtB ns = true := by
  unfold numsB at h
  split at h
  · rename_i ds
    rw [Bool.and_eq_true, Bool.and_eq_true] at h
    obtain ⟨h1, h2, h3⟩ := h
    have e := allWh_ints h2
    refine ⟨intsD ds, by show PyData.tuple ds = .tuple ((intsD ds).map .int); rw [← e], ?_, ?_, h3⟩
    · rw [show (intsD ds).length = ds.length by rw [e, intsD_map, List.length_map]]; exact of_decide_eq_true h1
    · intro n hn
      rw [e] at h2
      unfold allWh at h2
      rw [List.all_eq_true] at h2
      have := h2 (.int n) (List.mem_map_of_mem hn)
      rw [show isWh (.int n) 0 W2 = (decide (0 ≤ n) && decide (n ≤ W2)) from rfl, Bool.and_eq_true, decide_eq_true_eq, decide_eq_true_eq] at this
      exact this
  · cases h
theorem need_own_is {C : Addr} {h : List Int} {d : D} : f_need_own C [tupI h, d] = if needB h d = true then .ok (.val .none) else .error C := by
  show (if needB (intsD (h.map .int)) d = true then _ else _) = _
  rw [intsD_map]
theorem own_apart_is {C : Addr} {h : List Int} {d : D} : f_own_apart C [tupI h, d] = if needB h d = true then .ok (.val (oApart (apartL (lotsOf (nN h.length) h) (itemsD d)))) else .error C := by
  show (if needB (intsD (h.map .int)) d = true then Except.ok (Rs.val (oApart (apartL (lotsOf (nN (h.map PyData.int).length) (intsD (h.map .int))) (itemsD d)))) else _) = _
  rw [intsD_map, List.length_map]
def neD (k : Nat) : D → Bool
  | .tuple [.int i, _] => !decide (i = (k : Int))
  | _ => false
def plusD (w : Int) : D → D
  | .tuple [_, .int o] => .int (w + o)
  | d => d
theorem erase_range : ∀ (l : List Int) (k : Nat), ((List.range l.length).filter fun i => !decide (i = k)).map (fun i => l.getD i 0) = l.eraseIdx k
  | [], k => by cases k <;> rfl
  | a :: l, 0 => by
    rw [List.length_cons, List.range_succ_eq_map, List.filter_cons, if_neg (by simp), List.filter_map, List.map_map]
    rw [show (List.range l.length).filter ((fun i => !decide (i = 0)) ∘ Nat.succ) = List.range l.length from List.filter_eq_self.mpr fun x _ => by simp]
    show (List.range l.length).map (fun i => l.getD i 0) = l
    apply List.ext_getElem (by simp)
    intro i h1 h2
    rw [List.getElem_map, List.getElem_range]
    exact getD_some h2
  | a :: l, k + 1 => by
    have ih := erase_range l k
    rw [List.length_cons, List.range_succ_eq_map, List.filter_cons, if_pos (by simp), List.map_cons, List.filter_map, List.map_map]
    show a :: _ = a :: l.eraseIdx k
    congr 1
    rw [← ih]
    have ef : ((fun i => !decide (i = k + 1)) ∘ Nat.succ) = fun i => !decide (i = k) := by
      funext i
      show (!decide (i + 1 = k + 1)) = !decide (i = k)
      simp
    rw [ef]
    rfl
theorem own_comp (l : List Int) (k : Nat) (w : Int) : ((enD (l.map .int)).filter (neD k)).map (plusD w) = ((l.eraseIdx k).map (w + ·)).map .int := by
  unfold enD
  rw [List.length_map, List.filter_map, List.map_map, ← erase_range l k, List.map_map, List.map_map]
  have ef : (List.range l.length).filter (neD k ∘ fun i : Nat => .tuple [.int (i : Int), (l.map PyData.int).getD i .none]) = (List.range l.length).filter fun i => !decide (i = k) := by
    refine List.filter_congr fun i _ => ?_
    show (!decide ((i : Int) = (k : Int))) = !decide (i = k)
    congr 1
    exact decide_eq_decide.mpr Int.natCast_inj
  rw [ef]
  refine List.map_congr_left fun i hi => ?_
  have hil : i < l.length := List.mem_range.mp (List.mem_filter.mp hi).1
  have e : (l.map PyData.int).getD i .none = .int (l.getD i 0) := by
    rw [getD_some hil]
    rw [List.getD_eq_getElem?_getD, List.getElem?_map, List.getElem?_eq_getElem hil]
    rfl
  show plusD w (.tuple [.int (i : Int), (l.map PyData.int).getD i .none]) = .int (w + l.getD i 0)
  rw [e]
  rfl
theorem eqv_ints_l (a b : List Int) : PyData.eqv (.list (a.map .int)) (.list (b.map .int)) = decide (a = b) :=
  (show PyData.eqv (.list (a.map .int)) (.list (b.map .int)) = PyData.eqv (tupI a) (tupI b) from rfl).trans (eqv_ints a b)
def eqOwn (l ns : List Int) : D → Bool
  | .int i => decide (ownL l i.toNat = ns)
  | _ => false
def pairD (l : List Int) : D → D
  | .int i => .tuple [tupI l, .int i]
  | d => d
theorem good_due (l ns : List Int) : (((((rg0 l.length).filter (eqOwn l ns)).map id).take 1).map (pairD l)) = (((findAt l ns).map fun k => (l, k)).toList).map dueD := by
  rw [List.map_id]
  unfold rg0
  rw [List.filter_map, ← List.map_take, List.map_map, List.take_one, List.head?_filter]
  have e : (eqOwn l ns ∘ fun i : Nat => PyData.int (i : Int)) = fun i => decide (ownL l i = ns) := rfl
  rw [e]
  show List.map _ (findAt l ns).toList = _
  cases findAt l ns with
  | none => rfl
  | some k => rfl
theorem due_take {L : List (List Int)} {ns : List Int} {i : Nat} {l : List Int} (h : L[i]? = some l) : dueL (L.take (i + 1)) ns = dueL (L.take i) ns ++ ((findAt l ns).map fun k => (l, k)).toList := by
  unfold dueL
  rw [takeG h, List.filterMap_append]
  have e : [l].filterMap (fun l => (findAt l ns).map fun i => (l, i)) = ((findAt l ns).map fun k => (l, k)).toList := by
    cases h : findAt l ns with
    | none => rw [List.filterMap_cons, h]; rfl
    | some k => rw [List.filterMap_cons, h]; rfl
  rw [e]
def moreD (h ns : List Int) : D → Bool
  | .int p => decide (h.count p < ns.count p)
  | _ => false
theorem more_is (h ns : List Int) : (((ns.map PyData.int).filter (moreD h ns)).map id) = ((ns.filter fun p => decide (h.count p < ns.count p))).map .int := by
  rw [List.map_id, List.filter_map]
  rfl
theorem more_in (h ns : List Int) : decide ((ns.filter fun p => decide (h.count p < ns.count p)) = []) = inB h ns := by
  rw [Bool.eq_iff_iff, decide_eq_true_eq, List.filter_eq_nil_iff]
  unfold inB
  rw [List.all_eq_true]
  refine ⟨fun z p hp => decide_eq_true ?_, fun z p hp => ?_⟩
  · have := z p hp
    simpa using this
  · have := of_decide_eq_true (z p hp)
    simpa using this
theorem eqv_due (p : List Int × Nat) : PyData.eqv (dueD p) (dueD p) = true := by
  show (PyData.eqv (tupI p.1) (tupI p.1) && (PyData.eqv (.int (p.2 : Int)) (.int (p.2 : Int)) && true)) = true
  rw [eqv_ints, eqv_int, decide_eq_true rfl, decide_eq_true rfl]
  rfl
theorem sh_due {n : Nat} (p : List Int × Nat) : Sh (n + 2) (dueD p) := sh_tup fun d hd => by
  rcases List.mem_cons.mp hd with rfl | hd
  · exact sh_tupI p.1
  · rw [List.mem_singleton.mp hd]; exact sh_int
theorem sh_dues {n : Nat} (ps : List (List Int × Nat)) : Sh (n + 3) (.list (ps.map dueD)) := sh_lst fun d hd => by
  obtain ⟨p, _, rfl⟩ := List.mem_map.mp hd
  exact sh_due p
/-! ### what the law asks -/
def S_lots21 (l : List Int) : Prop := (3 ≤ l.length ∧ l.length ≤ 12) ∧ l.Pairwise (· ≤ ·) ∧ ∀ x ∈ l, 0 ≤ x ∧ x ≤ W1
theorem twin21 {i : Nat} {f s : List Int} (hi : i = 0 ∨ i = 1) (h : Dbl (i + 1) f s) : S_lots21 f ∧ S_lots21 s := by
  obtain ⟨l1, l2⟩ := dbl_len h
  obtain ⟨b1, b2⟩ := dbl_bd h
  obtain ⟨p1, p2⟩ := dbl_pw h
  have up : ∀ (n c : Int), c ≤ W1 → 0 ≤ n ∧ n ≤ c → 0 ≤ n ∧ n ≤ W1 := fun n c h1 h2 => by omega
  refine ⟨⟨by rw [l1]; rcases hi with rfl | rfl <;> decide, p1, fun x hx => up x _ (by rcases hi with rfl | rfl <;> decide) (b1 x hx)⟩, ⟨by rw [l2]; rcases hi with rfl | rfl <;> decide, p2, fun x hx => up x _ (by rcases hi with rfl | rfl <;> decide) (b2 x hx)⟩⟩
theorem need_of {h ns : List Int} (hn : numsB (tupI ns) [nOf h.length - 1] = true) : needB h (tupI ns) = inB h ns := by
  unfold needB
  rw [hn, Bool.true_and, inB_iff]
  show (remAll h (intsD (ns.map .int))).isSome = _
  rw [intsD_map]
theorem word_is {w : Str} {h ns : List Int} : f_law_word w [tupI h, tupI ns] = .ok (.val (if needB h (tupI ns) = true then oApart (apartL (lotsOf (nN h.length) h) ns) else .str w)) := by
  show Except.ok (Rs.val (if needB (intsD (h.map .int)) (tupI ns) = true then oApart (apartL (lotsOf (nN (h.map PyData.int).length) (intsD (h.map .int))) (intsD (ns.map .int))) else .str w)) = _
  rw [intsD_map, intsD_map, List.length_map]
theorem due_is {h ns : List Int} : f_law_due [tupI h, tupI ns] = .ok (.val (.list ((dueL (lotsOf (nN h.length) h) ns).map dueD))) := by
  show Except.ok (Rs.val (.list ((dueL (lotsOf (nN (h.map PyData.int).length) (intsD (h.map .int))) (intsD (ns.map .int))).map dueD))) = _
  rw [intsD_map, intsD_map, List.length_map]
theorem in_is {h ns : List Int} : f_law_in [tupI h, tupI ns] = .ok (.val (.bool (inB h ns))) := by
  show Except.ok (Rs.val (.bool (inB (intsD (h.map .int)) (intsD (ns.map .int))))) = _
  rw [intsD_map, intsD_map]
theorem own_is {l : List Int} {i : Nat} : f_law_own [tupI l, .int (i : Int)] = .ok (.val (tupI (ownL l i))) := by
  show Except.ok (Rs.val (.tuple ((ownL (intsD (l.map .int)) ((i : Int).toNat)).map .int))) = _
  rw [intsD_map, Int.toNat_natCast]

/-! ### tables -/
abbrev Stt := List (List Int) × List Int
def stk (s : Stt) : List D := s.1.map tupI ++ [tupI s.2]
theorem tupI_inj {a b : List Int} (h : tupI a = tupI b) : a = b := by
  have e := congrArg (fun d => match d with | PyData.tuple ds => intsD ds | _ => []) h
  have e : intsD (a.map .int) = intsD (b.map .int) := e
  rwa [intsD_map, intsD_map] at e
theorem stk_inj {s t : Stt} (h : stk s = stk t) : s = t := by
  obtain ⟨p, l⟩ := s
  obtain ⟨q, m⟩ := t
  unfold stk at h
  have hl : (p.map tupI).length = (q.map tupI).length := by
    have := congrArg List.length h
    simpa using this
  obtain ⟨h1, h2⟩ := List.append_inj h hl
  have e2 : l = m := tupI_inj (by injection h2)
  have e1 : p = q := by
    clear h h2 hl
    induction p generalizing q with
    | nil => cases q with
      | nil => rfl
      | cons b q => cases h1
    | cons a p ih => cases q with
      | nil => cases h1
      | cons b q =>
        injection h1 with h3 h4
        rw [tupI_inj h3, ih q h4]
  rw [e1, e2]
def okLot (l : List Int) : Prop := l.length ≤ 12 ∧ l.Pairwise (· ≤ ·) ∧ ∀ x ∈ l, 0 ≤ x ∧ x ≤ W1
def okS (s : Stt) : Prop := s.1.length ≤ 1000 ∧ (∀ l ∈ s.1, okLot l) ∧ okLot s.2
def numD : D → Int
  | .int n => n
  | _ => 0
def comeR (s : Stt) (d : D) : Except Nat Stt := if isWh d 0 W1 then (if s.2.length = 12 then .error 5 else .ok (s.1 ++ [s.2], srt (s.2 ++ [numD d]))) else .error 3
def goR (s : Stt) (d : D) : Except Nat Stt := if isWh d 0 W1 then (if numD d ∈ s.2 then .ok (s.1 ++ [s.2], s.2.erase (numD d)) else .error 4) else .error 3
def backR (s : Stt) : Except Nat Stt := match s.1.getLast? with
  | none => .error 7
  | some m => .ok (s.1.dropLast, m)
theorem stk_get (s : Stt) : (stk s).getLast? = some (tupI s.2) := by unfold stk; rw [List.getLast?_concat]
theorem stk_at (s : Stt) : atI (stk s) (-1) = some (tupI s.2) := atI_last _ _
theorem stk_len (s : Stt) : (stk s).length = s.1.length + 1 := by unfold stk; simp
theorem isWh_int {d : D} {lo hi : Int} (h : isWh d lo hi = true) : ∃ n, d = .int n ∧ lo ≤ n ∧ n ≤ hi := by
  cases d with
  | int n =>
    have h : (decide (lo ≤ n) && decide (n ≤ hi)) = true := h
    rw [Bool.and_eq_true, decide_eq_true_eq, decide_eq_true_eq] at h
    exact ⟨n, rfl, h.1, h.2⟩
  | _ => cases h
theorem okLot.come {l : List Int} {n : Int} (h : okLot l) (hl : l.length ≠ 12) (h0 : 0 ≤ n) (h1 : n ≤ W1) : okLot (srt (l ++ [n])) := by
  obtain ⟨a, b, c⟩ := h
  refine ⟨by rw [srt_len, List.length_append]; simp; omega, srt_pw _, perm_all (srt_perm _) fun x hx => ?_⟩
  rcases List.mem_append.mp hx with hx | hx
  · exact c x hx
  · rw [List.mem_singleton.mp hx]; exact ⟨h0, h1⟩
theorem okLot.go {l : List Int} {n : Int} (h : okLot l) : okLot (l.erase n) := by
  obtain ⟨a, b, c⟩ := h
  exact ⟨Nat.le_trans List.length_erase_le a, b.sublist List.erase_sublist, fun x hx => c x (List.mem_of_mem_erase hx)⟩
theorem stk_snoc (s : Stt) (l : List Int) : stk (s.1 ++ [s.2], l) = stk s ++ [tupI l] := by unfold stk; simp
theorem stk_drop {s : Stt} {m : List Int} (h : s.1.getLast? = some m) : stk (s.1.dropLast, m) = (stk s).dropLast := by
  obtain ⟨p, l⟩ := s
  unfold stk
  rw [List.dropLast_concat]
  have e : p = p.dropLast ++ [m] := by
    have hne : p ≠ [] := fun z => by rw [z] at h; cases h
    have e1 := List.dropLast_concat_getLast hne
    rw [List.getLast?_eq_getLast hne] at h
    cases h
    exact e1.symm
  show p.dropLast.map tupI ++ [tupI m] = p.map tupI
  conv => rhs; rw [e]
  rw [List.map_append]
  rfl
/-! what the methods promise -/
def S_meth2 (C : Addr) (e : Nat → Addr) (R : Stt → D → Except Nat Stt) : FS where
  n := 2
  pre := fun es => ∃ x l s d, es = [.tab C x l (stk s), .val d] ∧ okS s
  post := fun es r es' => ∃ x l s d s', es = [.tab C x l (stk s), .val d] ∧ R s d = .ok s' ∧ r = .val .none ∧ es' = [.tab C x l (stk s'), .val d]
  exc := fun es A es' => ∃ x l s d i, es = [.tab C x l (stk s), .val d] ∧ R s d = .error i ∧ A = e i ∧ es' = es
def S_meth1 (C : Addr) (e : Nat → Addr) (R : Stt → Except Nat Stt) : FS where
  n := 1
  pre := fun es => ∃ x l s, es = [.tab C x l (stk s)] ∧ okS s
  post := fun es r es' => ∃ x l s s', es = [.tab C x l (stk s)] ∧ R s = .ok s' ∧ r = .val .none ∧ es' = [.tab C x l (stk s')]
  exc := fun es A es' => ∃ x l s i, es = [.tab C x l (stk s)] ∧ R s = .error i ∧ A = e i ∧ es' = es
def S_tell (C : Addr) (f : List Int → D) : FS where
  n := 1
  pre := fun es => ∃ x l s, es = [.tab C x l (stk s)] ∧ okS s
  post := fun es r es' => es' = es ∧ ∃ x l s, es = [.tab C x l (stk s)] ∧ r = .val (f s.2)
def lotsD (l : List Int) : D := if 3 ≤ l.length then .int ((lotsOf (nN (madeL l).length) (madeL l)).length : Int) else .none
/-! deeds -/
inductive Deed where
  | come (d : D) | go (d : D) | back
def Deed.d : Deed → D
  | .come d => .tuple [.str "come", d]
  | .go d => .tuple [.str "go", d]
  | .back => .tuple [.str "back"]
def okD (d : D) : Prop := (∃ n, d = .int n) ∨ d = .bool true ∨ d = .none
def Deed.ok : Deed → Prop
  | .come d => okD d
  | .go d => okD d
  | .back => True
def deedR (s : Stt) : Deed → Except Nat Stt
  | .come d => comeR s d
  | .go d => goR s d
  | .back => backR s
def deedV (s : Stt) (q : Deed) : D := match deedR s q with
  | .ok _ => .none
  | .error i => .str (wrd i)
def deedS (s : Stt) (q : Deed) : Stt := match deedR s q with
  | .ok t => t
  | .error _ => s
theorem deedS_ok {s : Stt} {q : Deed} (h : okS s) (hl : s.1.length ≤ 999) : okS (deedS s q) ∧ (deedS s q).1.length ≤ s.1.length + 1 := by
  obtain ⟨h1, h2, h3⟩ := h
  have snoc : ∀ {l : List Int}, okLot l → okS (s.1 ++ [s.2], l) ∧ (s.1 ++ [s.2]).length ≤ s.1.length + 1 := fun {l} hl' => by
    refine ⟨⟨by simp; omega, fun m hm => ?_, hl'⟩, by simp⟩
    rcases List.mem_append.mp hm with hm | hm
    · exact h2 m hm
    · rw [List.mem_singleton.mp hm]; exact h3
  unfold deedS
  cases q with
  | come d =>
    show okS (match comeR s d with | .ok t => t | .error _ => s) ∧ (match comeR s d with | .ok t => t | .error _ => s).1.length ≤ _
    unfold comeR
    by_cases e : isWh d 0 W1 = true
    · rw [if_pos e]
      obtain ⟨n, rfl, a, b⟩ := isWh_int e
      by_cases e2 : s.2.length = 12
      · rw [if_pos e2]; exact ⟨⟨h1, h2, h3⟩, Nat.le_succ _⟩
      · rw [if_neg e2]; exact snoc (h3.come e2 a b)
    · rw [if_neg e]; exact ⟨⟨h1, h2, h3⟩, Nat.le_succ _⟩
  | go d =>
    show okS (match goR s d with | .ok t => t | .error _ => s) ∧ (match goR s d with | .ok t => t | .error _ => s).1.length ≤ _
    unfold goR
    by_cases e : isWh d 0 W1 = true
    · rw [if_pos e]
      by_cases e2 : numD d ∈ s.2
      · rw [if_pos e2]; exact snoc h3.go
      · rw [if_neg e2]; exact ⟨⟨h1, h2, h3⟩, Nat.le_succ _⟩
    · rw [if_neg e]; exact ⟨⟨h1, h2, h3⟩, Nat.le_succ _⟩
  | back =>
    show okS (match backR s with | .ok t => t | .error _ => s) ∧ (match backR s with | .ok t => t | .error _ => s).1.length ≤ _
    unfold backR
    cases e : s.1.getLast? with
    | none => exact ⟨⟨h1, h2, h3⟩, Nat.le_succ _⟩
    | some m =>
      refine ⟨⟨by simp; omega, fun l hl => h2 l (List.dropLast_subset _ hl), h2 m (List.mem_of_getLast? e)⟩, by simp; omega⟩

theorem head_app {a b : List (List Int)} (h : a ≠ []) : (a ++ b).head? = a.head? := by
  cases a with
  | nil => exact absurd rfl h
  | cons x a => rfl
def frst (s : Stt) : Prop := (s.1 ++ [s.2]).head? = some []
theorem frst_snoc {s : Stt} {l : List Int} (h : frst s) : frst (s.1 ++ [s.2], l) := by
  show ((s.1 ++ [s.2]) ++ [l]).head? = some []
  rw [head_app (by simp)]
  exact h
theorem frst_back {s : Stt} {m : List Int} (h : frst s) (e : s.1.getLast? = some m) : frst (s.1.dropLast, m) := by
  have hne : s.1 ≠ [] := fun z => by rw [z] at e; cases e
  have e1 := List.dropLast_concat_getLast hne
  rw [List.getLast?_eq_getLast hne] at e
  cases e
  show (s.1.dropLast ++ [s.1.getLast hne]).head? = some []
  rw [e1]
  have h : (s.1 ++ [s.2]).head? = some [] := h
  rw [head_app hne] at h
  exact h
theorem frst_nil {s : Stt} (h : frst s) (e : s.1 = []) : s.2 = [] := by
  have h : (s.1 ++ [s.2]).head? = some [] := h
  rw [e] at h
  exact Option.some.inj h
theorem frst_deed {s : Stt} {q : Deed} (h : frst s) : frst (deedS s q) := by
  unfold deedS
  cases q with
  | come d =>
    show frst (match comeR s d with | .ok t => t | .error _ => s)
    unfold comeR
    by_cases e : isWh d 0 W1 = true
    · rw [if_pos e]
      by_cases e2 : s.2.length = 12
      · rw [if_pos e2]; exact h
      · rw [if_neg e2]; exact frst_snoc h
    · rw [if_neg e]; exact h
  | go d =>
    show frst (match goR s d with | .ok t => t | .error _ => s)
    unfold goR
    by_cases e : isWh d 0 W1 = true
    · rw [if_pos e]
      by_cases e2 : numD d ∈ s.2
      · rw [if_pos e2]; exact frst_snoc h
      · rw [if_neg e2]; exact h
    · rw [if_neg e]; exact h
  | back =>
    show frst (match backR s with | .ok t => t | .error _ => s)
    unfold backR
    cases e : s.1.getLast? with
    | none => exact h
    | some m => exact frst_back h e
theorem backR_of {s : Stt} (h : s.1 ≠ []) : backR s = .ok (s.1.dropLast, s.1.getLast h) := by unfold backR; rw [List.getLast?_eq_getLast h]
theorem wrd_sh : ∀ i, i < 8 → SeqAt.shaped (.str (wrd i)) = true ∧ PyData.eqv (.str (wrd i)) (.str (wrd i)) = true := by
  intro i hi
  match i, hi with
  | 0, _ => decide +kernel
  | 1, _ => decide +kernel
  | 2, _ => decide +kernel
  | 3, _ => decide +kernel
  | 4, _ => decide +kernel
  | 5, _ => decide +kernel
  | 6, _ => decide +kernel
  | 7, _ => decide +kernel
  | n + 8, h => omega
theorem deedV_sh {s : Stt} {q : Deed} (hq : ∀ i, deedR s q = .error i → i < 8) : SeqAt.shaped (deedV s q) = true ∧ PyData.eqv (deedV s q) (deedV s q) = true := by
  unfold deedV
  cases e : deedR s q with
  | ok t => exact ⟨rfl, rfl⟩
  | error i => exact wrd_sh i (hq i e)
theorem lots_is51 {n : Nat} {h : List Int} {ls : List (List Int)} (hp : ls.Perm (found n h (uq ((h.take n).drop 2)))) (hs : ls.Pairwise (· ≤ ·)) : lotsOf n h = ls := (lsrt_uniq hp hs).symm
theorem lots_both51 : lotsOf (nN ([3, 5, 6, 8, 9, 11] : List Int).length) [3, 5, 6, 8, 9, 11] = [[0, 3, 5, 6], [1, 2, 4, 7]] := by
  rw [show nN ([3, 5, 6, 8, 9, 11] : List Int).length = 4 by decide +kernel]
  exact lots_is51 (by decide +kernel) (by decide +kernel)
theorem srt6530 : srt [6, 5, 3, 0] = [0, 3, 5, 6] := (srt_uniq (by decide +kernel) (by decide +kernel)).symm
theorem made6530 : madeL [0, 3, 5, 6] = [3, 5, 6, 8, 9, 11] := (srt_uniq (by decide +kernel) (by decide +kernel)).symm
theorem lots6530 : lotsD (srt [6, 5, 3, 0]) = .int 2 := by
  rw [srt6530]
  unfold lotsD
  rw [if_pos (by decide), made6530, lots_both51]
  rfl

section
variable {P : Program} {w : World} {K : Fg} {mg : Str → Option Value} {base : Heap}
theorem ok_is_whole (d : Def K mg "is_whole" s_is_whole ["thing", "low", "high"]) (bl : Bl mg) : Cal P w K mg base CX0 1 "is_whole" ["thing", "low", "high"] (pureG 3 p_is_whole f_is_whole) := by
  refine def_okG d sc_is_whole rfl (by rintro _ ⟨d, lo, hi, rfl⟩; rfl) fun fa cdv A outer s H E B ds hr pre hB => ?_
  obtain ⟨d, lo, hi, rfl⟩ := pre
  have fin : ∀ k es, k = isWh d lo hi → (pD f_is_whole 3 [d, .int lo, .int hi]).rt (.val (.bool k)) es := by
    rintro _ _ rfl
    exact ⟨_, rfl, rfl⟩
  refine ess_one ?_
  repeat walk_at "ev"
  refine ⟨_, rfl, fun h1 => ?_, fun h1 => ?_⟩
  · repeat walk_at "ev"
    refine ⟨_, rfl, _, rfl, fun h2 => ?_, fun h2 => ?_⟩
    · obtain ⟨n, rfl⟩ : ∃ n, d = .int n := by
        cases d <;> first | exact ⟨_, rfl⟩ | exact nomatch (show false = true from h1) | exact nomatch (show false = true from h2)
      repeat walk_at "ev"
      refine ⟨_, rfl, rfl, fun h3 => ?_, fun h3 => ?_⟩
      · repeat walk_at "ev"
        exact fin _ _ (by show _ = (decide (lo ≤ n) && decide (n ≤ hi)); rw [h3, Bool.true_and])
      · exact fin _ _ (by show _ = (decide (lo ≤ n) && decide (n ≤ hi)); rw [h3, Bool.false_and])
    · exact fin _ _ (by cases d <;> first | rfl | cases h2)
  · exact fin _ _ (by cases d <;> first | rfl | cases h1)
end


section
variable {P : Program} {w : World} {K : Fg} {mg : Str → Option Value} {base : Heap}
theorem ok_in_order (d : Def K mg "in_order" s_in_order ["some"]) (bl : Bl mg) : Cal P w K mg base CX0 1 "in_order" ["some"] (pureG 1 p_in_order f_in_order) := by
  refine def_okG d sc_in_order rfl (by rintro _ ⟨ns, rfl, _⟩; rfl) fun fa cdv A outer s H E B ds hr pre hB => ?_
  obtain ⟨ns, rfl, hz⟩ := pre
  have nd := sc_in_order.nd
  show EvSs _ _ _ [.val (.tuple (ns.map .int)), .no] _
  refine ess_one ?_
  repeat walk_at "ev"
  refine ee_map (own := [("k", 1)]) rfl nd (blkOk_by (N := N_in_order) (sc := defScope s_in_order) (by decide +kernel)) (leD ns) ?_
  refine ei_range1 (by rfl) bl.range ?_
  repeat walk_at "ev"
  refine ⟨_, rfl, by simp; omega, by simp; omega, blanked1 rfl, szl (by simp [rg0]; omega), fun d hd s H C cl fp => ?_, ?_⟩
  · obtain ⟨k, hk, rfl⟩ := mem_rg0 hd
    rw [List.length_map] at hk
    walk_at "tg"
    refine ⟨rfl, fun s H C cl fp => ?_⟩
    repeat walk_at "ev"
    refine o_ixT rfl (atI_ints (by omega)) ?_
    repeat walk_at "ev"
    refine o_ixT rfl (atI_ints (k := k + 1) (by omega)) ?_
    repeat walk_at "ev"
    exact ⟨rfl, rfl⟩
  · refine ea_nil (c_all rfl (ns := (List.range (ns.length - 1)).map (leAt ns)) ?_ ?_)
    · show some (PyData.list _) = _
      rw [rg0_map, List.map_map, List.length_map]
      have e : ((ns.length : Int) - 1).toNat = ns.length - 1 := by omega
      rw [e]
      rfl
    · refine ⟨_, rfl, ?_⟩
      show Except.ok (Rs.val (.bool (srtB (intsD (ns.map .int))))) = _
      rw [intsD_map]
      rfl
end

section
variable {P : Program} {w : World} {K : Fg} {mg : Str → Option Value} {base : Heap}
theorem ok_are_numbers {t : Tok} (d : Def K mg "are_numbers" s_are_numbers ["thing", "many"]) (bl : Bl mg) (gW : mg "MOST_WEIGHT" = some (.int W1 t))
    (c1 : Cal P w K mg base CX0 1 "is_whole" ["thing", "low", "high"] (pureG 3 p_is_whole f_is_whole)) (c2 : Cal P w K mg base CX0 1 "in_order" ["some"] (pureG 1 p_in_order f_in_order)) :
    Cal P w K mg base CX0 2 "are_numbers" ["thing", "many"] (pureG 2 p_are_numbers f_are_numbers) := by
  refine def_okG d sc_are_numbers rfl (by rintro _ ⟨d, ms, rfl, _⟩; rfl) fun fa cdv A outer s H E B ds hr pre hB => ?_
  obtain ⟨d, ms, rfl, hz⟩ := pre
  have nd := sc_are_numbers.nd
  show EvSs _ _ _ [.val d, .val (.list (ms.map .int)), .no] _
  have fin : ∀ k es, k = numsB d ms → (pD f_are_numbers 2 [d, .list (ms.map .int)]).rt (.val (.bool k)) es := by
    rintro _ _ rfl
    refine ⟨_, rfl, ?_⟩
    show Except.ok (Rs.val (.bool (numsB d (intsD (ms.map .int))))) = _
    rw [intsD_map]
  refine ess_cons ?_
  repeat walk_at "ev"
  refine ⟨_, rfl, fun h1 => ?_, fun h1 => ?_⟩
  · -- a tuple
    obtain ⟨ds, rfl⟩ : ∃ ds, d = .tuple ds := by
      cases d <;> first | exact ⟨_, rfl⟩ | exact nomatch (show true = false from h1)
    repeat walk_at "ev"
    refine o_notIn (units65 hr) rfl rfl rfl (shaped_intsL ms) ?_
    refine ⟨_, rfl, fun h2 => ?_, fun h2 => ?_⟩
    · rw [any_ints] at h2
      repeat walk_at "ev"
      exact fin _ _ (by show _ = (decide _ && _); rw [Bool.not_eq_true'] at h2; rw [h2]; rfl)
    · rw [any_ints] at h2
      have h2 : decide ((ds.length : Int) ∈ ms) = true := by simpa using h2
      refine ess_nil ?_
      repeat walk_at "ev"
      refine ee_map (own := [("one", 2)]) rfl nd (blkOk_by (N := N_are_numbers) (sc := defScope s_are_numbers) (by decide +kernel)) whD ?_
      refine ei_tup ?_
      repeat walk_at "ev"
      refine ⟨_, rfl, blanked1 rfl, szl (Nat.le_trans hz (by decide)), fun d' hd s H C cl fp => ?_, ?_⟩
      · walk_at "tg"
        refine ⟨rfl, fun s H C cl fp => ?_⟩
        refine cal1 hr c1 (by decide) (by rfl) pass0 ?_
        repeat walk_at "ev"
        refine o_mul (Or.inl ⟨by decide, by decide⟩) ?_
        repeat walk_at "ev"
        exact ⟨[d', .int 0, .int W2], _, rfl, rfl, ⟨d', 0, W2, rfl⟩, rfl, rfl, rfl⟩
      · refine ea_nil (c_all rfl (ns := ds.map fun d => isWh d 0 W2) ?_ ?_)
        · show some (PyData.list _) = _
          rw [List.map_map]; rfl
        · have ea : (ds.map fun d => isWh d 0 W2).all id = allWh ds := by unfold allWh; rw [List.all_map]; rfl
          rw [ea]
          refine ⟨_, rfl, fun h3 => ?_, fun h3 => ?_⟩
          · walk_at "ev"
            refine cal1 hr c2 (by decide) (by rfl) pass0 ?_
            repeat walk_at "ev"
            have e := allWh_ints h3
            have hl : (intsD ds).length ≤ 1000 := Nat.le_trans (intsD_len ds) hz
            refine ⟨[.tuple ds], _, rfl, rfl, ⟨intsD ds, by rw [← e], hl⟩, rfl, ?_⟩
            exact fin _ _ (by show _ = (decide _ && (allWh ds && srtB (intsD ds))); rw [h2, h3]; rfl)
          · exact fin _ _ (by show _ = (decide _ && (allWh ds && srtB (intsD ds))); rw [h2, h3]; rfl)
  · refine ⟨fun _ => ?_, fun h => nomatch h⟩
    repeat walk_at "ev"
    exact fin _ _ (by cases d <;> first | rfl | cases h1)
end

section
variable {P : Program} {w : World} {K : Fg} {mg : Str → Option Value} {base : Heap}
theorem ok_twos (d : Def K mg "twos" s_twos ["many"]) (bl : Bl mg) : Cal P w K mg base CX0 1 "twos" ["many"] (pureG 1 p_twos f_twos) := by
  refine def_okG d sc_twos rfl (by rintro _ ⟨d, rfl, _⟩; rfl) fun fa cdv A outer s H E B ds hr pre hB => ?_
  obtain ⟨n, rfl, h1, h2⟩ := pre
  refine ess_one ?_
  repeat walk_at "ev"
  refine o_mul (Or.inl ⟨by omega, by omega⟩) ?_
  repeat walk_at "ev"
  exact ⟨_, rfl, rfl⟩
end

section
variable {P : Program} {w : World} {K : Fg} {mg : Str → Option Value} {base : Heap}
theorem ok_is_heap {t3 t12 : Tok} (d : Def K mg "is_heap" s_is_heap ["thing"]) (bl : Bl mg) (g3 : mg "LEAST_THINGS" = some (.int 3 t3)) (g12 : mg "MOST_THINGS" = some (.int 12 t12))
    (c1 : Cal P w K mg base CX0 1 "twos" ["many"] (pureG 1 p_twos f_twos)) (c2 : Cal P w K mg base CX0 2 "are_numbers" ["thing", "many"] (pureG 2 p_are_numbers f_are_numbers)) :
    Cal P w K mg base CX0 3 "is_heap" ["thing"] (pureG 1 p_is_heap f_is_heap) := by
  refine def_okG d sc_is_heap rfl (by rintro _ ⟨d, rfl, _⟩; rfl) fun fa cdv A outer s H E B ds hr pre hB => ?_
  obtain ⟨d, rfl, hz⟩ := pre
  have nd := sc_is_heap.nd
  show EvSs _ _ _ [.val d, .no] _
  refine ess_one ?_
  repeat walk_at "ev"
  refine cal1 hr c2 (by decide) (by rfl) pass0 ?_
  repeat walk_at "ev"
  refine ee_map (own := [("many", 1)]) rfl nd (blkOk_by (N := N_is_heap) (sc := defScope s_is_heap) (by decide +kernel)) twD ?_
  refine ei_range2 (by rfl) bl.range ?_
  repeat walk_at "ev"
  refine ⟨_, _, rfl, rfl, by decide, blanked1 rfl, szl (by decide), fun d' hd s H C cl fp => ?_, ?_⟩
  · obtain ⟨k, hk1, hk2, rfl⟩ := mem_rgD hd
    have hk2 : k < 13 := by simpa using hk2
    walk_at "tg"
    refine ⟨rfl, fun s H C cl fp => ?_⟩
    refine cal1 hr c1 (by decide) (by rfl) pass0 ?_
    repeat walk_at "ev"
    exact ⟨[.int k], _, rfl, rfl, ⟨k, rfl, by omega, by omega⟩, rfl, rfl, rfl⟩
  · repeat walk_at "ev"
    refine ⟨[d, .list (heapL.map .int)], _, ?_, rfl, ⟨d, heapL, rfl, hz⟩, rfl, ⟨_, rfl, ?_⟩⟩
    · rfl
    · show Except.ok (Rs.val (.bool (numsB d heapL))) = Except.ok (Rs.val (.bool (numsB d (intsD (heapL.map .int)))))
      rw [intsD_map]
theorem ok_need_heap (d : Def K mg "need_heap" s_need_heap ["heap"]) (bl : Bl mg) (c1 : Cal P w K mg base CX0 3 "is_heap" ["thing"] (pureG 1 p_is_heap f_is_heap)) :
    Cal P w K mg base CX0 4 "need_heap" ["heap"] (pureG 1 p_need_heap f_need_heap) := by
  refine def_okG d sc_need_heap rfl (by rintro _ ⟨d, rfl, _⟩; rfl) fun fa cdv A outer s H E B ds hr pre hB => ?_
  obtain ⟨d, rfl, hz, hh⟩ := pre
  refine ess_one ?_
  walk_at "ev"
  refine et_not (et_val ?_)
  refine cal1 hr c1 (by decide) (by rfl) pass0 ?_
  repeat walk_at "ev"
  refine ⟨[d], _, rfl, rfl, ⟨d, rfl, hz⟩, rfl, _, rfl, fun h => ?_, fun _ => ?_⟩
  · rw [hh] at h; cases h
  · exact ess_nil rfl
theorem ok_things_of {t3 t12 : Tok} (d : Def K mg "things_of" s_things_of ["heap"]) (bl : Bl mg) (g3 : mg "LEAST_THINGS" = some (.int 3 t3)) (g12 : mg "MOST_THINGS" = some (.int 12 t12))
    (c1 : Cal P w K mg base CX0 1 "twos" ["many"] (pureG 1 p_twos f_twos)) :
    Cal P w K mg base CX0 2 "things_of" ["heap"] (pureG 1 p_things_of f_things_of) := by
  refine def_okG d sc_things_of rfl (by rintro _ ⟨d, rfl, _⟩; rfl) fun fa cdv A outer s H E B ds hr pre hB => ?_
  obtain ⟨ns, rfl, hz⟩ := pre
  have nd := sc_things_of.nd
  show EvSs _ _ _ [.val (.tuple (ns.map .int)), .no] _
  refine ess_one ?_
  repeat walk_at "ev"
  refine ee_filt (own := [("many", 1)]) rfl nd (blkOk_by (N := N_things_of) (sc := defScope s_things_of) (by decide +kernel)) (fun d => match d with | .int m => decide (twI m = (ns.length : Int)) | _ => false) id ?_
  refine ei_range2 (by rfl) bl.range ?_
  repeat walk_at "ev"
  refine ⟨_, _, rfl, rfl, by decide, blanked1 rfl, szl (by decide), fun d' hd s H C cl fp => ?_, ?_⟩
  · obtain ⟨k, hk1, hk2, rfl⟩ := mem_rgD hd
    have hk2 : k < 13 := by simpa using hk2
    walk_at "tg"
    intro s H C cl fp
    refine ets_one ?_
    refine et_cmp ?_
    refine cal1 hr c1 (by decide) (by rfl) pass0 ?_
    repeat walk_at "ev"
    refine ⟨[.int k], _, rfl, rfl, ⟨k, rfl, by omega, by omega⟩, rfl, ?_⟩
    repeat walk_at "ev"
    refine ⟨_, rfl, by rw [List.length_map], rfl, fun h s H C cl fp => ?_⟩
    walk_at "ev"
    exact ⟨rfl, rfl⟩
  · repeat walk_at "ev"
    obtain ⟨m, h12, h3, hl, hm, h66⟩ := heapL_nOf hz
    have e : ((rgD 3 (12 + 1 - 3 : Int).toNat).filter (fun d => match d with | .int m => decide (twI m = (ns.length : Int)) | _ => false)).map id = [PyData.int (nOf ns.length)] := by
      have h' : ns.length = 3 ∨ ns.length = 6 ∨ ns.length = 10 ∨ ns.length = 15 ∨ ns.length = 21 ∨ ns.length = 28 ∨ ns.length = 36 ∨ ns.length = 45 ∨ ns.length = 55 ∨ ns.length = 66 := by
        simp only [heapL, List.mem_cons, List.not_mem_nil, or_false] at hz
        omega
      rcases h' with h | h | h | h | h | h | h | h | h | h <;> rw [h] <;> rfl
    rw [e]
    refine o_ixL (ds := [.int (nOf ns.length)]) rfl (atI_nat (j := 0) rfl) ?_
    refine ⟨_, rfl, ?_⟩
    show Except.ok (Rs.val (.int (nOf (ns.map PyData.int).length))) = _
    rw [List.length_map]
end

section
variable {P : Program} {w : World} {K : Fg} {mg : Str → Option Value} {base : Heap}
theorem ok_is_weight {t : Tok} (d : Def K mg "is_weight" s_is_weight ["thing"]) (bl : Bl mg) (gW : mg "MOST_WEIGHT" = some (.int W1 t)) (c1 : Cal P w K mg base CX0 1 "is_whole" ["thing", "low", "high"] (pureG 3 p_is_whole f_is_whole)) :
    Cal P w K mg base CX0 2 "is_weight" ["thing"] (pureG 1 (fun ds => ∃ d, ds = [d]) f_is_weight) := by
  refine def_okG d sc_is_weight rfl (by rintro _ ⟨d, rfl⟩; rfl) fun fa cdv A outer s H E B ds hr pre hB => ?_
  obtain ⟨d, rfl⟩ := pre
  refine ess_one ?_
  walk_at "ev"
  refine cal1 hr c1 (by decide) (by rfl) pass0 ?_
  repeat walk_at "ev"
  exact ⟨[d, .int 0, .int W1], _, rfl, rfl, ⟨d, 0, W1, rfl⟩, rfl, ⟨_, rfl, rfl⟩⟩
end

section
variable {P : Program} {w : World} {K : Fg} {mg : Str → Option Value} {base : Heap}
theorem ok_lot_by (d : Def K mg "lot_by" s_lot_by ["heap", "third"]) (bl : Bl mg) (c1 : Cal P w K mg base CX0 2 "things_of" ["heap"] (pureG 1 p_things_of f_things_of)) (c3 : Cal P w K mg base CX0 2 "is_weight" ["thing"] (pureG 1 (fun ds => ∃ d, ds = [d]) f_is_weight)) :
    Cal P w K mg base CX0 3 "lot_by" ["heap", "third"] (pureG 2 p_lot_by f_lot_by) := by
  refine def_okG d sc_lot_by rfl (by rintro _ ⟨ns, t, rfl, _⟩; rfl) fun fa cdv A outer s H E B ds hr pre hB => ?_
  obtain ⟨ns, t, rfl, hh⟩ := pre
  have nd := sc_lot_by.nd
  obtain ⟨h66, hL, hb, hsm⟩ := heap_small hh
  obtain ⟨n1, n3, n12, nl, npw⟩ := heap_n hh
  have fin : ∀ d es, d = oTup (lotBy (nN ns.length) ns t) → (pD f_lot_by 2 [tupI ns, .int t]).rt (.val d) es := by
    rintro _ _ rfl
    refine ⟨_, rfl, ?_⟩
    show Except.ok (Rs.val (oTup (lotBy (nN (ns.map PyData.int).length) (intsD (ns.map .int)) t))) = _
    rw [intsD_map, List.length_map]
  generalize hn : nN ns.length = n at n1 n3 n12 nl fin
  have hns : 2 < ns.length := by
    have : 3 * 2 ≤ n * (n - 1) := Nat.mul_le_mul n3 (by omega)
    omega
  show EvSs _ _ _ [.val (tupI ns), .val (.int t), .no, .no, .no, .no, .no, .no, .no] _
  refine ess_cons ?_
  refine es_par (i := 2) (j := 3) rfl nd rfl rfl (by decide) rfl rfl ?_
  refine ea_cons ?_
  refine cal1 hr c1 (by decide) (by rfl) pass0 ?_
  repeat walk_at "ev"
  refine ⟨[_], _, rfl, rfl, ⟨ns, rfl, hL⟩, rfl, ?_⟩
  repeat walk_at "ev"
  refine o_ixT (ds := ns.map .int) rfl (atI_ints (k := 0) (by omega)) ?_
  repeat walk_at "ev"
  refine o_ixT (ds := ns.map .int) rfl (atI_ints (k := 1) (by omega)) ?_
  repeat walk_at "ev"
  refine ⟨_, _, rfl, rfl, rfl, ?_⟩
  rw [show nOf (ns.map PyData.int).length = (n : Int) by rw [List.length_map]; exact n1]
  generalize ho : ns.getD 0 0 + ns.getD 1 0 - t = odd
  show EvSs _ _ _ [.val (tupI ns), .val (.int t), .val (.int n), .val (.int odd), .no, .no, .no, .no, .no] _
  have hno : odd < 0 ∨ odd % 2 = 1 → lotBy n ns t = none := fun h => by
    unfold lotBy
    rw [ho, if_pos h]
  refine ess_cons ?_
  repeat walk_at "ev"
  refine ⟨_, rfl, fun h => ?_, fun h => ?_⟩
  · repeat walk_at "ev"
    refine ⟨_, rfl, fun h2 => ?_, fun h2 => ?_⟩
    · repeat walk_at "ev"
      exact fin _ _ (by rw [hno (.inr (of_decide_eq_true h2))]; rfl)
    refine ess_nil ?_
    have hyes : lotBy n ns t = lb (odd / 2) (n - 1) [odd / 2] ns := by
      unfold lotBy
      rw [ho, if_neg (by have := of_decide_eq_false h; have := of_decide_eq_false h2; omega)]
    refine ess_cons ?_
    walk_at "set"
    repeat walk_at "ev"
    refine ⟨_, rfl, rfl, ?_⟩
    generalize ha : odd / 2 = a at hyes
    show EvSs _ _ _ [.val (tupI ns), .val (.int t), .val (.int n), .val (.int odd), .val (.int a), .no, .no, .no, .no] _
    refine ess_cons ?_
    refine es_parG (i := 5) (j := 6) rfl nd rfl rfl (by decide) rfl rfl ?_
    repeat walk_at "ev"
    refine ⟨_, rfl, szl (show 1 ≤ _ by decide), ?_⟩
    repeat walk_at "ev"
    refine ⟨_, _, rfl, rfl, rfl, rfl, ?_⟩
    show EvSs _ _ _ [.val (tupI ns), .val (.int t), .val (.int n), .val (.int odd), .val (.int a), .own ([a].map .int), .own (ns.map .int), .no, .no] _
    refine ess_mid (fun es1 => ∃ lot left : List Int, es1 = [.val (tupI ns), .val (.int t), .val (.int n), .val (.int odd), .val (.int a), .own (lot.map .int), .own (left.map .int), .no, .no] ∧ lotBy n ns t = some lot) ?_ ?_
    · refine es_while PassesOwn.never hB [7, 8] (fun es1 => ∃ (lot left : List Int) (k : Nat), es1 = [.val (tupI ns), .val (.int t), .val (.int n), .val (.int odd), .val (.int a), .own (lot.map .int), .own (left.map .int), .no, .no] ∧ lot ≠ [] ∧ lot.length + k = n ∧ lb a k lot left = lotBy n ns t ∧ left.length + (prs lot).length = ns.length)
        (fun es1 : List En => match es1[5]? with | some (En.own ds) => n - ds.length | _ => 0) ⟨[a], ns, n - 1, rfl, by simp, by simp; omega, hyes.symm, rfl⟩ ?_ (by decide)
      rintro _ ⟨lot, left, k, rfl, hne, hk, hlb, hlen⟩
      repeat walk_at "ev"
      refine ⟨_, rfl, fun h3 => ?_, fun h3 => ?_⟩
      · have h3 := of_decide_eq_true h3
        rw [List.length_map] at h3
        obtain ⟨k, rfl⟩ : ∃ m, k = m + 1 := ⟨k - 1, by omega⟩
        have hl1 : 1 ≤ lot.length := by
          rcases Nat.eq_zero_or_pos lot.length with z | z
          · exact absurd (List.eq_nil_of_length_eq_zero z) hne
          · exact z
        cases left with
        | nil =>
          exfalso
          rw [prs_len] at hlen
          have := tri_lt (j := lot.length) (n := n) (by omega) hl1
          simp only [List.length_nil] at hlen
          omega
        | cons g l =>
          refine ess_cons ?_
          walk_at "set"
          repeat walk_at "ev"
          refine o_ixL (ds := (g :: l).map .int) rfl (atI_ints (k := 0) (by simp)) ?_
          repeat walk_at "ev"
          refine ⟨_, rfl, rfl, ?_⟩
          rw [show (g :: l).getD 0 0 = g from rfl]
          generalize hf : g - a = f
          rw [lb, hf] at hlb
          show EvSs _ _ _ [.val (tupI ns), .val (.int t), .val (.int n), .val (.int odd), .val (.int a), .own (lot.map .int), .own ((g :: l).map .int), .val (.int f), .no] _
          refine ess_cons ?_
          repeat walk_at "ev"
          refine o_ixL (ds := lot.map .int) rfl (atI_lastI hne) ?_
          repeat walk_at "ev"
          refine ⟨_, rfl, fun h4 => ?_, fun h4 => ?_⟩
          · have h4 := of_decide_eq_false h4
            refine ew_or1 (et_not (et_val ?_))
            refine cal1 hr c3 (by decide) (by rfl) pass0 ?_
            repeat walk_at "ev"
            refine ⟨[.int f], _, rfl, rfl, ⟨_, rfl⟩, rfl, _, rfl, fun h => ?_, fun h => ?_⟩
            · have h : isWh (.int f) 0 W1 = false := by simpa using h
              have h' : ¬ (0 ≤ f ∧ f ≤ W1) := fun z => by
                rw [show isWh (.int f) 0 W1 = (decide (0 ≤ f) && decide (f ≤ W1)) from rfl, decide_eq_true z.1, decide_eq_true z.2] at h
                cases h
              rw [if_neg (fun z => h' z.2)] at hlb
              repeat walk_at "ev"
              exact fin _ _ (by rw [← hlb]; rfl)
            have h : isWh (.int f) 0 W1 = true := by simpa using h
            have h' : 0 ≤ f ∧ f ≤ W1 := by
              rw [show isWh (.int f) 0 W1 = (decide (0 ≤ f) && decide (f ≤ W1)) from rfl, Bool.and_eq_true, decide_eq_true_eq, decide_eq_true_eq] at h
              exact h
            rw [if_pos ⟨by omega, h'⟩] at hlb
            refine ess_nil ?_
            refine ess_mid (fun es1 => ∃ l' : List Int, es1 = [.val (tupI ns), .val (.int t), .val (.int n), .val (.int odd), .val (.int a), .own (lot.map .int), .own (l'.map .int), .val (.int f), .no] ∧ rmAll f lot (g :: l) = some l') ?_ ?_
            · refine es_forO (vs := [8]) (i0 := 5) (ns := lot) PassesOwn.never rfl hB [8] ?_ (by decide)
              walk_at "nm"
              refine ⟨rfl, rfl, fun i es1 => ∃ l1 : List Int, es1 = [.val (tupI ns), .val (.int t), .val (.int n), .val (.int odd), .val (.int a), .own (lot.map .int), .own (l1.map .int), .val (.int f), .no] ∧ rmAll f (lot.drop i) l1 = rmAll f lot (g :: l), ⟨g :: l, rfl, by rw [List.drop_zero]⟩, ?_, ?_, ?_⟩
              · rintro i _ ⟨l1, rfl, _⟩; rfl
              · rintro B' hB' i hi _ ⟨l1, rfl, hl1⟩
                rw [List.drop_eq_getElem_cons hi, rmAll] at hl1
                walk_at "tg"
                refine ess_cons ?_
                repeat walk_at "ev"
                refine o_notIn (units65 hr) rfl rfl rfl (shaped_intsL l1) ?_
                rw [any_ints]
                refine ⟨_, rfl, fun h => ?_, fun h => ?_⟩
                · have h : ¬ (lot[i] + f ∈ l1) := by simpa using h
                  rw [if_neg h] at hl1
                  repeat walk_at "ev"
                  refine fin _ _ ?_
                  rw [← hlb, ← hl1]; rfl
                · have h : lot[i] + f ∈ l1 := by simpa using h
                  rw [if_pos h] at hl1
                  refine ess_nil ?_
                  refine ess_one ?_
                  walk_at "ev"
                  refine ee_bmL PySem.F.slot_list_remove PySem.F.type_list_remove ?_
                  repeat walk_at "ev"
                  refine ⟨⟨_, rfl⟩, ?_⟩
                  repeat walk_at "ev"
                  refine m_remove (ns := l1) rfl h ?_
                  exact ⟨l1.erase (lot[i] + f), rfl, hl1⟩
              · rintro _ ⟨l1, rfl, hl1⟩
                rw [List.drop_length] at hl1
                exact ⟨l1, rfl, hl1.symm⟩
            rintro _ ⟨l', rfl, hl1'⟩
            rw [hl1'] at hlb
            refine ess_one ?_
            walk_at "ev"
            refine ee_bmL PySem.F.slot_list_append PySem.F.type_list_append ?_
            repeat walk_at "ev"
            refine ⟨⟨_, rfl⟩, ?_⟩
            repeat walk_at "ev"
            refine m_append rfl (szt (by rw [List.length_map]; omega)) ?_
            refine ⟨⟨lot ++ [f], l', k, ?_, by simp, by rw [List.length_append, List.length_singleton]; omega, hlb, ?_⟩, ?_⟩
            · rw [List.map_append]; rfl
            · have p1 := (rmAll_inv f lot (g :: l) l' hl1').1.length_eq
              have p2 := (prs_snoc lot f).length_eq
              rw [List.length_append, List.length_map] at p1 p2
              omega
            · show n - ((lot.map PyData.int) ++ [PyData.int f]).length < n - (lot.map PyData.int).length
              rw [List.length_append, List.length_map, List.length_singleton]; omega
          · have h4 := of_decide_eq_true h4
            rw [if_neg (fun z => by omega)] at hlb
            refine ⟨fun _ => ?_, nofun⟩
            repeat walk_at "ev"
            exact fin _ _ (by rw [← hlb]; rfl)
      · have h3 := of_decide_eq_false h3
        rw [List.length_map] at h3
        have : k = 0 := by omega
        subst this
        refine ⟨lot, left, rfl, ?_⟩
        rw [← hlb]
        unfold lb
        rfl
    · rintro _ ⟨lot, left, rfl, hlot⟩
      refine ess_one ?_
      repeat walk_at "ev"
      exact fin _ _ (by rw [hlot]; rfl)
  · refine ⟨fun _ => ?_, nofun⟩
    repeat walk_at "ev"
    exact fin _ _ (by rw [hno (.inl (of_decide_eq_true h))]; rfl)
theorem ok_lots_of (d : Def K mg "lots_of" s_lots_of ["heap"]) (bl : Bl mg) (c1 : Cal P w K mg base CX0 2 "things_of" ["heap"] (pureG 1 p_things_of f_things_of)) (c2 : Cal P w K mg base CX0 3 "lot_by" ["heap", "third"] (pureG 2 p_lot_by f_lot_by)) :
    Cal P w K mg base CX0 4 "lots_of" ["heap"] (pureG 1 p_heap1 f_lots_of) := by
  refine def_okG d sc_lots_of rfl (by rintro _ ⟨ns, rfl, _⟩; rfl) fun fa cdv A outer s H E B ds hr pre hB => ?_
  obtain ⟨ns, rfl, hh⟩ := pre
  have nd := sc_lots_of.nd
  obtain ⟨h66, hL, hb, hsm⟩ := heap_small hh
  obtain ⟨n1, n3, n12, nl, npw⟩ := heap_n hh
  show EvSs _ _ _ [.val (tupI ns), .no, .no, .no] _
  refine ess_cons ?_
  walk_at "setO"
  repeat walk_at "ev"
  refine ⟨[], rfl, by decide, _, rfl, rfl, ?_⟩
  generalize hts : uq ((ns.take (nN ns.length)).drop 2) = ts
  refine ess_mid (fun es1 => es1 = [.val (tupI ns), .own ((found (nN ns.length) ns ts).map tupI), .no, .no]) ?_ ?_
  · refine es_for (vs := [2]) PassesOwn.never rfl (fun i a h => hB i a h) [2, 3] ?_ (by decide)
    refine ei_list ?_
    refine ee_sortedSet rfl (by rfl) bl.sorted (by rfl) bl.set ?_
    repeat walk_at "ev"
    refine ⟨_, rfl, ?_⟩
    refine eo_some ?_
    refine cal1 hr c1 (by decide) (by rfl) pass0 ?_
    repeat walk_at "ev"
    refine ⟨[_], _, rfl, rfl, ⟨ns, rfl, hL⟩, rfl, ?_⟩
    refine ⟨_, rfl, ?_⟩
    rw [show nOf (ns.map PyData.int).length = ((nN ns.length : Nat) : Int) by rw [List.length_map]; exact n1]
    refine .inr ⟨ns.map .int, rfl, ?_⟩
    rw [show (2 : Int) = ((2 : Nat) : Int) from rfl, cut_at, ← List.map_take, ← List.map_drop]
    refine ⟨(ns.take (nN ns.length)).drop 2, rfl, by rw [List.length_drop, List.length_take]; omega, fun out h1 h2 => ?_⟩
    have eo : out = ts := by
      rw [← hts]
      refine strict_uniq h1 (uq_pw _ ((npw.sublist (List.take_sublist _ _)).sublist (List.drop_sublist _ _))) fun x => ?_
      rw [h2, uq_mem]
    have h4 : ts.length ≤ ((ns.take (nN ns.length)).drop 2).length := by
      rw [← hts]; exact uq_len _
    subst eo
    refine ⟨_, rfl, fun i es1 => es1 = [.val (tupI ns), .own ((found (nN ns.length) ns (out.take i)).map tupI), .no, .no], rfl, ?_, fun es2 h => ?_⟩
    · rintro i d' _ hi rfl
      obtain ⟨t, ht, rfl⟩ : ∃ t, out[i]? = some t ∧ d' = .int t := by
        rw [List.getElem?_map] at hi
        cases e : out[i]? with
        | none => rw [e] at hi; cases hi
        | some l => rw [e] at hi; exact ⟨l, rfl, (Option.some.inj hi).symm⟩
      have hstep : found (nN ns.length) ns (out.take (i + 1)) = found (nN ns.length) ns (out.take i) ++ found (nN ns.length) ns [t] := by
        unfold found
        rw [takeG ht, List.filterMap_append]
      have hil : i < 70 := by
        have h3 := (List.getElem?_eq_some_iff.mp ht).1
        rw [List.length_drop, List.length_take] at h4
        omega
      have hfl : (found (nN ns.length) ns (out.take i)).length ≤ i := by
        unfold found
        refine Nat.le_trans (List.length_filterMap_le _ _) ?_
        rw [List.length_take]; omega
      walk_at "tg"
      refine ess_cons ?_
      walk_at "set"
      refine cal1 hr c2 (by decide) (by rfl) pass0 ?_
      repeat walk_at "ev"
      refine ⟨[tupI ns, .int t], _, rfl, rfl, ⟨ns, t, rfl, hh⟩, rfl, ?_⟩
      rw [show lotBy (nN (ns.map PyData.int).length) (intsD (ns.map .int)) t = lotBy (nN ns.length) ns t by rw [intsD_map, List.length_map]]
      refine ⟨_, rfl, rfl, ?_⟩
      refine ess_one ?_
      cases hlot : lotBy (nN ns.length) ns t with
      | none =>
        have e1 : found (nN ns.length) ns [t] = [] := by
          unfold found
          rw [List.filterMap_cons, hlot]
          rfl
        rw [e1, List.append_nil] at hstep
        repeat walk_at "ev"
        refine ⟨_, rfl, nofun, fun _ => ⟨nofun, fun _ => ess_nil ?_⟩⟩
        exact congrArg (fun z => [En.val (tupI ns), .own (z.map tupI), .no, .no]) hstep.symm
      | some l =>
        have hll := lotBy_len n3 nl npw hlot
        repeat walk_at "ev"
        refine ⟨_, rfl, fun _ => ?_, nofun⟩
        repeat walk_at "ev"
        refine o_ixT (ds := l.map .int) rfl (atI_ints (k := 1) (by omega)) ?_
        repeat walk_at "ev"
        refine o_ixT (ds := l.map .int) rfl (atI_ints (k := 2) (by omega)) ?_
        repeat walk_at "ev"
        refine ⟨_, rfl, fun h5 => ?_, fun h5 => ?_⟩
        · have e1 : found (nN ns.length) ns [t] = [l] := by
            unfold found
            rw [List.filterMap_cons, hlot]
            rw [show keepT t (some l) = some l from if_pos (of_decide_eq_true h5)]
            rfl
          rw [e1] at hstep
          refine ess_one ?_
          walk_at "ev"
          refine ee_bmL PySem.F.slot_list_append PySem.F.type_list_append ?_
          repeat walk_at "ev"
          refine ⟨⟨_, rfl⟩, ?_⟩
          repeat walk_at "ev"
          refine m_append rfl (szt (by rw [List.length_map]; omega)) ?_
          have e3 : (found (nN ns.length) ns (out.take i)).map tupI ++ [tupI l] = (found (nN ns.length) ns (out.take (i + 1))).map tupI := by
            rw [hstep, List.map_append]; rfl
          exact congrArg (fun z => [En.val (tupI ns), .own z, .no, .no]) e3
        · have e1 : found (nN ns.length) ns [t] = [] := by
            unfold found
            rw [List.filterMap_cons, hlot]
            rw [show keepT t (some l) = none from if_neg (of_decide_eq_false h5)]
            rfl
          rw [e1, List.append_nil] at hstep
          refine ess_nil ?_
          exact congrArg (fun z => [En.val (tupI ns), .own (z.map tupI), .no, .no]) hstep.symm
    · rw [h, List.length_map, List.take_length]
  · rintro _ rfl
    refine ess_one ?_
    repeat walk_at "ev"
    refine c_sortedL (units65 hr) (ls := found (nN ns.length) ns ts) (fun l hl => ?_) rfl fun ls' pm pw => ?_
    · obtain ⟨t, _, e, _⟩ := mem_found.mp hl
      have := lotBy_len n3 nl npw e
      intro z; rw [z] at this; simp at this; omega
    · refine ⟨_, rfl, ?_⟩
      show Except.ok (Rs.new ((lotsOf (nN (ns.map PyData.int).length) (intsD (ns.map .int))).map tupI)) = _
      rw [intsD_map, List.length_map, lsrt_uniq pm pw, ← hts]
      rfl
theorem ok_all_lots (d : Def K mg "all_lots" s_all_lots ["heap"]) (bl : Bl mg) (c1 : Cal P w K mg base CX0 4 "need_heap" ["heap"] (pureG 1 p_need_heap f_need_heap)) (c2 : Cal P w K mg base CX0 4 "lots_of" ["heap"] (pureG 1 p_heap1 f_lots_of)) :
    Cal P w K mg base CX0 5 "all_lots" ["heap"] (pureG 1 p_heap1 f_lots_of) := by
  refine def_okG d sc_all_lots rfl (by rintro _ ⟨ns, rfl, _⟩; rfl) fun fa cdv A outer s H E B ds hr pre hB => ?_
  obtain ⟨ns, rfl, hh⟩ := pre
  obtain ⟨h66, hL, hb, hsm⟩ := heap_small hh
  refine ess_cons ?_
  walk_at "ev"
  refine cal1 hr c1 (by decide) (by rfl) pass0 ?_
  repeat walk_at "ev"
  refine ⟨[_], _, rfl, rfl, ⟨_, rfl, hsm, hh⟩, rfl, ?_⟩
  refine ess_one ?_
  walk_at "ev"
  refine cal1 hr c2 (by decide) (by rfl) pass0 ?_
  repeat walk_at "ev"
  exact ⟨[_], _, rfl, rfl, ⟨ns, rfl, hh⟩, rfl, ⟨_, rfl, rfl⟩⟩
end

section
variable {P : Program} {w : World} {K : Fg} {mg : Str → Option Value} {base : Heap} {e : Nat → Addr} {m : Addr}
theorem ok_kinds (d : Def K mg "_law_kinds" s__law_kinds ["e"]) (bl : Bl mg) (eo : ErrsOk K mg e m) : CalE P w K mg base 1 "_law_kinds" ["e"] (S_kinds e) := by
  refine def_okE d sc__law_kinds (fun _ => rfl) fun fa cdv A outer s H E B es0 p hr hp pre hB => ?_
  obtain ⟨rfl, i, hi, hz, hf⟩ := pre
  have nd := sc__law_kinds.nd
  show EvSs _ _ _ [.raw (.ref p.1), .no, .no, .no, .no] _
  refine ess_cons ?_
  walk_at "set"
  refine ee_lst ?_
  refine ea_cons ?_
  walk_at "bi"
  refine ea_cons ?_
  walk_at "nm"
  refine ea_cons ?_
  refine ee_globR (by with_unfolding_all rfl) eo.n0 ?_
  refine ea_nil ?_
  refine c_isP hp (eo.ec i hi) hz hf (eo.kit i hi 0 (by decide)) ?_
  refine ea_cons ?_
  walk_at "bi"
  refine ea_cons ?_
  walk_at "nm"
  refine ea_cons ?_
  refine ee_globR (by with_unfolding_all rfl) eo.n1 ?_
  refine ea_nil ?_
  refine c_isP hp (eo.ec i hi) hz hf (eo.kit i hi 1 (by decide)) ?_
  refine ea_cons ?_
  walk_at "bi"
  refine ea_cons ?_
  walk_at "nm"
  refine ea_cons ?_
  refine ee_globR (by with_unfolding_all rfl) eo.n2 ?_
  refine ea_nil ?_
  refine c_isP hp (eo.ec i hi) hz hf (eo.kit i hi 2 (by decide)) ?_
  refine ea_cons ?_
  walk_at "bi"
  refine ea_cons ?_
  walk_at "nm"
  refine ea_cons ?_
  refine ee_globR (by with_unfolding_all rfl) eo.n3 ?_
  refine ea_nil ?_
  refine c_isP hp (eo.ec i hi) hz hf (eo.kit i hi 3 (by decide)) ?_
  refine ea_nil ?_
  refine ⟨_, rfl, szl (show 4 ≤ _ by decide), _, rfl, rfl, ?_⟩
  refine ess_cons ?_
  walk_at "set"
  refine ee_bin ?_
  walk_at "nm"
  refine ee_lst ?_
  refine ea_cons ?_
  walk_at "bi"
  refine ea_cons ?_
  walk_at "nm"
  refine ea_cons ?_
  refine ee_globR (by with_unfolding_all rfl) eo.n4 ?_
  refine ea_nil ?_
  refine c_isP hp (eo.ec i hi) hz hf (eo.kit i hi 4 (by decide)) ?_
  refine ea_cons ?_
  walk_at "bi"
  refine ea_cons ?_
  walk_at "nm"
  refine ea_cons ?_
  refine ee_globR (by with_unfolding_all rfl) eo.n5 ?_
  refine ea_nil ?_
  refine c_isP hp (eo.ec i hi) hz hf (eo.kit i hi 5 (by decide)) ?_
  refine ea_cons ?_
  walk_at "bi"
  refine ea_cons ?_
  walk_at "nm"
  refine ea_cons ?_
  refine ee_globR (by with_unfolding_all rfl) eo.n6 ?_
  refine ea_nil ?_
  refine c_isP hp (eo.ec i hi) hz hf (eo.kit i hi 6 (by decide)) ?_
  refine ea_cons ?_
  walk_at "bi"
  refine ea_cons ?_
  walk_at "nm"
  refine ea_cons ?_
  refine ee_globR (by with_unfolding_all rfl) eo.n7 ?_
  refine ea_nil ?_
  refine c_isP hp (eo.ec i hi) hz hf (eo.kit i hi 7 (by decide)) ?_
  refine ea_nil ?_
  refine ⟨_, rfl, szl (show 4 ≤ _ by decide), ?_⟩
  refine o_cat rfl rfl rfl rfl (szl (show 8 ≤ _ by decide)) ?_
  refine ⟨_, rfl, rfl, ?_⟩
  refine ess_cons ?_
  walk_at "set"
  refine ee_bin ?_
  walk_at "nm"
  refine ee_lst ?_
  refine ea_cons ?_
  walk_at "bi"
  refine ea_cons ?_
  walk_at "nm"
  refine ea_cons ?_
  refine ee_globR (by with_unfolding_all rfl) eo.nm ?_
  refine ea_nil ?_
  refine c_isP hp (eo.ec i hi) hz hf (eo.km i hi) ?_
  refine ea_cons ?_
  walk_at "bi"
  refine ea_cons ?_
  walk_at "nm"
  refine ea_cons ?_
  refine ee_bltn (x := "ValueError") (v := .ty "ValueError") (by with_unfolding_all rfl) eo.nv b_ValueError rfl ?_
  refine ea_nil ?_
  refine c_isPty hp (eo.ec i hi) hz hf (eo.kv i hi) ?_
  refine ea_nil ?_
  refine ⟨_, rfl, szl (show 2 ≤ _ by decide), ?_⟩
  refine o_cat rfl rfl rfl rfl (szl (show 10 ≤ _ by decide)) ?_
  refine ⟨_, rfl, rfl, ?_⟩
  show EvSs _ _ _ [.raw (.ref p.1), .val (.list ((goods i).map .bool)), .no, .no, .no] _
  refine ess_cons ?_
  walk_at "set"
  repeat walk_at "ev"
  refine ⟨_, rfl, rfl, ?_⟩
  refine ess_one ?_
  walk_at "ev"
  refine ee_filtH (own := [("word", 3), ("good", 4)]) hp nd (blkOk_by (N := N__law_kinds) (sc := defScope s__law_kinds) (by decide +kernel)) goodD wordD ?_
  refine ei_zipH (by with_unfolding_all rfl) bl.zip ?_
  refine ea_cons ?_
  refine ee_split ?_
  walk_at "nm"
  refine ⟨_, rfl, ?_⟩
  walk_at "ev"
  refine ⟨_, rfl, by decide +kernel, by decide +kernel, ?_⟩
  rw [split_words]
  refine ea_cons ?_
  walk_at "nm"
  refine ea_nil ?_
  refine ⟨wordsL.map .str, (goods i).map .bool, rfl, rfl, ?_⟩
  refine ⟨blanked2 rfl rfl, szl (show 10 ≤ 100000 by decide), fun d' hd s H C cl fp => ?_, ?_⟩
  · obtain ⟨x, y, hx, hy, rfl⟩ := mem_zipD hd
    obtain ⟨wd, _, rfl⟩ := List.mem_map.mp hx
    obtain ⟨b, _, rfl⟩ := List.mem_map.mp hy
    refine eg_tupH (HX.hotBlk hp.1) (egs_cons ?_)
    walk_at "tg"
    refine egs_cons ?_
    walk_at "tg"
    refine egs_nil fun s H C cl fp => ?_
    refine ets_one (et_val ?_)
    walk_at "nm"
    refine ⟨_, rfl, rfl, rfl, fun _ s H C cl fp => ?_⟩
    walk_at "nm"
    exact ⟨rfl, rfl⟩
  · rw [kinds_of hi]
    exact ⟨_, rfl, rfl, i, hi, hz.1, rfl⟩
theorem ok_refusal (d : Def K mg "_law_refusal" s__law_refusal ["e"]) (bl : Bl mg) (c1 : CalE P w K mg base 1 "_law_kinds" ["e"] (S_kinds e)) : CalE P w K mg base 2 "_law_refusal" ["e"] (S_refusal e) := by
  refine def_okE d sc__law_refusal (fun _ => rfl) fun fa cdv A outer s H E B es0 p hr hp pre hB => ?_
  obtain ⟨rfl, hie⟩ := pre
  have nd := sc__law_refusal.nd
  show EvSs _ _ _ [.raw (.ref p.1), .no] _
  refine ess_cons ?_
  walk_at "set"
  refine ee_calE c1 hr (by decide) hp (by with_unfolding_all rfl) ?_
  refine ea_cons ?_
  walk_at "nm"
  refine ea_nil ?_
  refine ⟨rfl, [.raw (.ref p.1)], rfl, rfl, ⟨rfl, hie⟩, fun _ _ z => z, ?_⟩
  rintro r es' ⟨rfl, i, hi, hcls, rfl⟩
  refine ⟨_, rfl, rfl, ?_⟩
  show EvSs _ _ _ [.raw (.ref p.1), .val (.list [.str (wrd i), .str "mine", .str "value"])] _
  refine ess_one ?_
  walk_at "ev"
  refine ee_if (et_cmp ?_)
  refine ee_slice ?_
  walk_at "nm"
  refine eo_some ?_
  walk_at "ev"
  refine ⟨_, rfl, ?_⟩
  refine eo_none ?_
  refine .inl ⟨_, rfl, ?_⟩
  rw [show cutD [.str (wrd i), .str "mine", .str "value"] (some 1) none = [.str "mine", .str "value"] from rfl]
  repeat walk_at "ev"
  refine ⟨[.str "mine", .str "value"], rfl, szl (show 2 ≤ _ by decide), ?_⟩
  refine o_eq (units65H hr) (d1 := .list [.str "mine", .str "value"]) (d2 := .list [.str "mine", .str "value"]) rfl rfl (by decide +kernel) (by decide +kernel) ?_
  rw [show PyData.eqv (.list [.str "mine", .str "value"]) (.list [.str "mine", .str "value"]) = true by decide +kernel]
  refine ⟨_, rfl, fun _ => ?_, nofun⟩
  repeat walk_at "ev"
  refine o_ixL (ds := [.str (wrd i), .str "mine", .str "value"]) rfl (atI_nat (j := 0) rfl) ?_
  exact ⟨_, rfl, rfl, i, hi, hcls, rfl⟩
end

section
variable {P : Program} {w : World} {K : Fg} {mg : Str → Option Value} {base : Heap}
theorem ok_well (d : Def K mg "_law_well" s__law_well ["script", "k"]) (bl : Bl mg) : Cal P w K mg base CX0 1 "_law_well" ["script", "k"] S_well := by
  refine def_ok d sc__law_well rfl fun fa cdv A outer s H E B es0 hr pre hB => ?_
  obtain ⟨ns, k, rfl, h1, h2⟩ := pre
  have nd := sc__law_well.nd
  show EvSs _ _ _ [.scr ns, .val (.int k), .no, .no, .no] _
  refine ess_cons ?_
  walk_at "set"
  repeat walk_at "ev"
  refine ⟨_, rfl, rfl, ?_⟩
  refine ess_mid (fun es1 => ∃ cell : Int, es1 = [.scr ns, .val (.int k), .val (.int cell), .no, .no]) ?_ ?_
  · repeat walk_at "ev"
    refine ⟨_, rfl, fun h => ?_, fun h => ?_⟩
    · refine ess_one ?_
      walk_at "set"
      repeat walk_at "ev"
      have hk : k < ns.length := by have := of_decide_eq_true h; rwa [List.length_map] at this
      refine o_ixL (ds := ns.map .int) rfl (by rw [show k = ((k.toNat : Nat) : Int) by omega]; exact atI_ints (by omega)) ?_
      exact ⟨_, rfl, rfl, _, rfl⟩
    · exact ess_nil ⟨_, rfl⟩
  · rintro _ ⟨cell, rfl⟩
    obtain ⟨c, pc, c1, c2⟩ := prime_at h1
    refine ess_cons ?_
    walk_at "setO"
    repeat walk_at "ev"
    refine ⟨primesL.map .int, rfl, by decide, _, rfl, rfl, ?_⟩
    refine ess_cons ?_
    walk_at "set"
    repeat walk_at "ev"
    refine o_mul (Or.inl ⟨by decide, by decide⟩) ?_
    repeat walk_at "ev"
    refine o_mul (Or.inr ⟨by omega, by omega⟩) ?_
    repeat walk_at "ev"
    refine ⟨_, rfl, rfl, ?_⟩
    generalize hs : (cell % 2147483489 + 1) * (48271 + 2 * k) % 2147483489 = sd
    have s1 : 0 ≤ sd ∧ sd < 2147483489 := by omega
    refine ess_cons ?_
    walk_at "set"
    repeat walk_at "ev"
    refine o_mul (Or.inl ⟨by omega, by omega⟩) ?_
    repeat walk_at "ev"
    refine ⟨_, rfl, rfl, ?_⟩
    generalize hs2 : sd * sd % 2147483477 + k + 1 = sd2
    have s2 : 0 ≤ sd2 ∧ sd2 < 2 ^ 32 := by
      have : 0 ≤ sd * sd % 2147483477 ∧ sd * sd % 2147483477 < 2147483477 := by omega
      omega
    have fin : ∀ a, 0 ≤ a → ∀ es, (fnD S_well [.scr ns, .val (.int k)]).rt (.new [.int a, .int sd2, .int c]) ([.scr ns, .val (.int k)] ++ es) := by
      intro a ha es
      exact ⟨_, rfl, rfl, _, rfl, a, sd2, c, rfl, ha, s2.1, s2.2, c1, c2⟩
    walk_at "ev"
    walk_at "ev"
    refine et_cmp ?_
    repeat walk_at "ev"
    refine o_pow ⟨by decide, by decide, by decide⟩ ?_
    repeat walk_at "ev"
    refine ⟨_, rfl, fun h => ?_, fun h => ?_⟩
    · repeat walk_at "ev"
      refine o_ixL (ds := primesL.map .int) rfl pc ?_
      repeat walk_at "ev"
      refine ⟨_, rfl, szl (show 3 ≤ _ by decide), ?_⟩
      refine fin cell ?_ _
      have := of_decide_eq_true h
      have e : (10 : Int) ^ (18 : Int).toNat = 1000000000000000000 := by decide
      omega
    · refine ess_nil ?_
      repeat walk_at "ev"
      refine o_ixL (ds := primesL.map .int) rfl pc ?_
      repeat walk_at "ev"
      refine ⟨_, rfl, szl (show 3 ≤ _ by decide), ?_⟩
      exact fin 0 (by decide) _
theorem ok_take (d : Def K mg "_law_take" s__law_take ["well", "many"]) (bl : Bl mg) : Cal P w K mg base CX0 1 "_law_take" ["well", "many"] S_take := by
  refine def_ok d sc__law_take rfl fun fa cdv A outer s H E B es0 hr pre hB => ?_
  obtain ⟨ds, m, rfl, hw, h1, h2⟩ := pre
  obtain ⟨a, b, c, rfl, ha, hb, hb2, hc, hc2⟩ := hw
  have nd := sc__law_take.nd
  show EvSs _ _ _ [.own [.int a, .int b, .int c], .val (.int m), .no] _
  refine ess_cons ?_
  repeat walk_at "ev"
  refine o_ixL (ds := [.int a, .int b, .int c]) rfl (atI_nat (j := 0) rfl) ?_
  repeat walk_at "ev"
  refine ⟨_, rfl, fun h => ?_, fun h => ?_⟩
  · refine ess_cons ?_
    walk_at "set"
    repeat walk_at "ev"
    refine o_ixL (ds := [.int a, .int b, .int c]) rfl (atI_nat (j := 0) rfl) ?_
    repeat walk_at "ev"
    refine ⟨_, rfl, rfl, ?_⟩
    refine ess_cons ?_
    refine es_put (sl := 0) ?_
    repeat walk_at "ev"
    refine o_ixL (ds := [.int a, .int b, .int c]) rfl (atI_nat (j := 0) rfl) ?_
    repeat walk_at "ev"
    refine ⟨_, rfl, ?_⟩
    repeat walk_at "ev"
    refine ⟨rfl, ?_⟩
    repeat walk_at "ev"
    refine ⟨[.int a, .int b, .int c], 0, 0, rfl, rfl, rfl, ?_⟩
    refine ess_one ?_
    repeat walk_at "ev"
    refine ⟨_, rfl, [.int a, .int b, .int c], [.int (a / m), .int b, .int c], m, a % m, rfl, rfl, ⟨a / m, b, c, rfl, Int.ediv_nonneg ha (by omega), hb, hb2, hc, hc2⟩, rfl, Int.emod_nonneg _ (by omega), Int.emod_lt_of_pos _ h1⟩
  · refine ess_nil ?_
    refine ess_cons ?_
    refine es_put (sl := 0) ?_
    repeat walk_at "ev"
    refine o_ixL (ds := [.int a, .int b, .int c]) rfl (atI_nat (j := 1) rfl) ?_
    repeat walk_at "ev"
    refine o_mul (Or.inr ⟨by decide, by decide⟩) ?_
    repeat walk_at "ev"
    refine o_ixL (ds := [.int a, .int b, .int c]) rfl (atI_nat (j := 2) rfl) ?_
    repeat walk_at "ev"
    refine ⟨_, rfl, ?_⟩
    repeat walk_at "ev"
    refine ⟨rfl, ?_⟩
    repeat walk_at "ev"
    refine ⟨[.int a, .int b, .int c], 1, 1, rfl, rfl, rfl, ?_⟩
    generalize hb' : b * 48271 % c + 1 = b'
    have hb1 : 0 ≤ b' ∧ b' < 2 ^ 32 := by
      have : 0 ≤ b * 48271 % c := Int.emod_nonneg _ (by omega)
      have : b * 48271 % c < c := Int.emod_lt_of_pos _ hc
      omega
    refine ess_one ?_
    repeat walk_at "ev"
    refine o_ixL (ds := [.int a, .int b', .int c]) rfl (atI_nat (j := 1) rfl) ?_
    repeat walk_at "ev"
    refine o_ixL (ds := [.int a, .int b', .int c]) rfl (atI_nat (j := 1) rfl) ?_
    refine o_mul (Or.inl ⟨by omega, by omega⟩) ?_
    repeat walk_at "ev"
    refine ⟨_, rfl, [.int a, .int b, .int c], [.int a, .int b', .int c], m, _, rfl, rfl, ⟨a, b', c, rfl, ha, hb1.1, hb1.2, hc, hc2⟩, rfl, Int.emod_nonneg _ (by omega), Int.emod_lt_of_pos _ h1⟩
end

section
variable {P : Program} {w : World} {K : Fg} {mg : Str → Option Value} {base : Heap}
theorem ok_law_made (d : Def K mg "_law_made" s__law_made ["lot"]) (bl : Bl mg) : Cal P w K mg base CX0 1 "_law_made" ["lot"] (pureG 1 (p_ints 24) f_law_made) := by
  refine def_okG d sc__law_made rfl (by rintro _ ⟨ns, rfl, _⟩; rfl) fun fa cdv A outer s H E B ds hr pre hB => ?_
  obtain ⟨ns, rfl, hz⟩ := pre
  have nd := sc__law_made.nd
  show EvSs _ _ _ [.val (.tuple (ns.map .int)), .no, .no, .no, .no] _
  refine ess_cons ?_
  walk_at "set"
  repeat walk_at "ev"
  refine ⟨[], rfl, by decide, _, rfl, rfl, ?_⟩
  refine ess_mid (fun es1 => es1 = [.val (.tuple (ns.map .int)), .val (.list ((prs ns).map .int)), .no, .no, .no]) ?_ ?_
  · refine es_for (vs := [2, 3]) PassesOwn.never rfl (fun i a h => hB i a h) [2, 3, 4] ?_ (by decide)
    refine ei_enumT (by rfl) bl.enumerate ?_
    repeat walk_at "ev"
    refine ⟨_, rfl, fun i es1 => ∃ acc : List Int, es1 = [.val (.tuple (ns.map .int)), .val (.list (acc.map .int)), .no, .no, .no] ∧ acc ++ prs (ns.drop i) = prs ns, ⟨[], rfl, rfl⟩, ?_, ?_⟩
    · rintro i d' _ hi ⟨acc, rfl, ha⟩
      obtain ⟨x, hx, rfl⟩ := enD_get hi
      have hil : i < ns.length := by
        have := (List.getElem?_eq_some_iff.mp hx).1
        rwa [List.length_map] at this
      obtain rfl : x = .int ns[i] := by
        rw [List.getElem?_map, List.getElem?_eq_getElem hil] at hx
        exact (Option.some.inj hx).symm
      refine eg_tup rfl (egs_cons ?_)
      walk_at "tg"
      refine egs_cons ?_
      walk_at "tg"
      refine egs_nil ?_
      have hal : acc.length ≤ 276 := by
        have h1 := prs_len_le ns hz
        have h2 := congrArg List.length ha
        rw [List.length_append] at h2
        omega
      refine ess_one ?_
      walk_at "set"
      repeat walk_at "ev"
      refine ee_map (own := [("other", 4)]) rfl nd (blkOk_by (N := N__law_made) (sc := defScope s__law_made) (by decide +kernel)) (addD ns[i]) ?_
      refine ei_tup ?_
      repeat walk_at "ev"
      refine ⟨_, rfl, ?_⟩
      repeat walk_at "ev"
      refine .inr ⟨ns.map .int, rfl, ?_⟩
      rw [show ((i : Int) + 1) = ((i + 1 : Nat) : Int) by omega, cut_from, ← List.map_drop]
      refine ⟨_, rfl, blanked1 rfl, szl (by rw [List.length_map, List.length_drop]; omega), fun d' hd s H C cl fp => ?_, ?_⟩
      · obtain ⟨k, hk, rfl⟩ := List.mem_map.mp hd
        walk_at "tg"
        refine ⟨rfl, fun s H C cl fp => ?_⟩
        repeat walk_at "ev"
        exact ⟨rfl, rfl⟩
      · refine o_cat rfl rfl rfl rfl (szl (by simp only [List.length_map, List.length_drop]; omega)) ?_
        refine ⟨_, rfl, rfl, acc ++ (ns.drop (i + 1)).map (ns[i] + ·), ?_, ?_⟩
        · have e : (acc ++ (ns.drop (i + 1)).map (ns[i] + ·)).map PyData.int = acc.map .int ++ List.map (addD ns[i]) (List.map PyData.int (List.drop (i + 1) ns)) := by
            rw [List.map_append, List.map_map, List.map_map]; rfl
          rw [e]
          rfl
        · rw [List.append_assoc, ← ha, List.drop_eq_getElem_cons hil, prs]
    · rintro es2 ⟨acc, rfl, ha⟩
      rw [enD_len, List.length_map, List.drop_length, prs, List.append_nil] at ha
      rw [ha]
  · rintro _ rfl
    refine ess_one ?_
    repeat walk_at "ev"
    refine c_sortedI rfl fun ns' pm pw => ?_
    repeat walk_at "ev"
    refine ⟨_, rfl, ?_⟩
    show Except.ok (Rs.val (.tuple ((madeL (intsD (ns.map .int))).map .int))) = _
    rw [intsD_map, srt_uniq pm pw]
    rfl
end

section
variable {P : Program} {w : World} {K : Fg} {mg : Str → Option Value} {base : Heap}
theorem ok_far (d : Def K mg "_law_far" s__law_far ["well", "top"]) (bl : Bl mg) (c1 : Cal P w K mg base CX0 1 "_law_take" ["well", "many"] S_take) : Cal P w K mg base CX0 2 "_law_far" ["well", "top"] S_far := by
  refine def_ok d sc__law_far rfl fun fa cdv A outer s H E B es0 hr pre hB => ?_
  obtain ⟨ds, m, rfl, hw, h1⟩ := pre
  have nd := sc__law_far.nd
  show EvSs _ _ _ [.own ds, .val (.int m), .no, .no] _
  refine ess_cons ?_
  walk_at "set"
  repeat walk_at "ev"
  refine ⟨_, rfl, rfl, ?_⟩
  refine ess_mid (fun es1 => ∃ (ds' : List D) (f : Int), es1 = [.own ds', .val (.int m), .val (.int f), .no] ∧ wellOk ds') ?_ ?_
  · refine es_for (vs := [3]) PassesOwn.never rfl hB [3] ?_ (by decide)
    refine ei_range1 (by rfl) bl.range ?_
    repeat walk_at "ev"
    refine ⟨_, rfl, by decide, by decide, fun _ es1 => ∃ (ds' : List D) (f : Int), es1 = [.own ds', .val (.int m), .val (.int f), .no] ∧ wellOk ds', ⟨ds, 0, rfl, hw⟩, ?_, fun es2 h => h⟩
    rintro i d' _ hi ⟨ds1, f, rfl, hw1⟩
    walk_at "tg"
    refine ess_one ?_
    walk_at "set"
    repeat walk_at "ev"
    refine o_mul (Or.inr ⟨by decide, by decide⟩) ?_
    refine cal2 hr c1 (by decide) (by rfl) pass0 ?_
    repeat walk_at "ev"
    refine ⟨rfl, _, rfl, rfl, ⟨ds1, 1000003, rfl, hw1, by decide, by decide⟩, fun _ _ h => h, ?_⟩
    rintro r es' ⟨_, ds2, _, k, e1, rfl, hw2, rfl, hk⟩
    cases e1
    repeat walk_at "ev"
    refine ⟨_, rfl, rfl, ds2, _, rfl, hw2⟩
  · rintro _ ⟨ds', f, rfl, hw'⟩
    refine ess_one ?_
    repeat walk_at "ev"
    refine ⟨_, rfl, ds, ds', m, _, rfl, rfl, hw', rfl, Int.emod_nonneg _ (by omega), ?_⟩
    have := Int.emod_lt_of_pos f (show 0 < m + 1 by omega)
    omega
theorem ok_made_of (d : Def K mg "made_of" s_made_of ["lot"]) (bl : Bl mg) : Cal P w K mg base CX0 1 "made_of" ["lot"] (pureG 1 (p_ints 24) f_made_of) := by
  refine def_okG d sc_made_of rfl (by rintro _ ⟨ns, rfl, _⟩; rfl) fun fa cdv A outer s H E B ds hr pre hB => ?_
  obtain ⟨ns, rfl, hz⟩ := pre
  have nd := sc_made_of.nd
  have hpl := prs_len_le ns hz
  show EvSs _ _ _ [.val (tupI ns), .no, .no] _
  refine ess_one ?_
  repeat walk_at "ev"
  refine ee_lc2 (own := [("to", 1), ("at", 2)]) rfl nd (blkOk_by (N := N_made_of) (sc := defScope s_made_of) (by decide +kernel)) [2] (by decide) rowsD (addAtD ns) ?_
  refine ei_range1 (by rfl) bl.range ?_
  repeat walk_at "ev"
  refine ⟨_, rfl, by rw [List.length_map]; omega, by rw [List.length_map]; omega, ?_⟩
  rw [show (((ns.map PyData.int).length : Int)).toNat = ns.length by rw [List.length_map, Int.toNat_natCast], mo_data ns _ rfl]
  refine ⟨blanked2 rfl rfl, szl (by rw [List.length_map, mo_len]; omega), fun d' hd s H C cl fp => ?_, ?_⟩
  · obtain ⟨t, ht, rfl⟩ := mem_rg0 hd
    walk_at "tg"
    refine ⟨rfl, blanked1 rfl, fun s H C cl fp => ?_⟩
    refine ei_range1 (by rfl) bl.range ?_
    repeat walk_at "ev"
    refine ⟨_, rfl, by omega, by omega, rfl, rfl, fun d2 hd2 => ?_⟩
    obtain ⟨a, ha, rfl⟩ := mem_rg0 hd2
    have ha : a < t := by rw [Int.toNat_natCast] at ha; exact ha
    refine ⟨nofun, fun s H C cl fp => ?_⟩
    walk_at "tg"
    intro s H C cl fp
    repeat walk_at "ev"
    refine o_ixT (ds := ns.map .int) rfl (atI_ints (k := a) (by omega)) ?_
    repeat walk_at "ev"
    refine o_ixT (ds := ns.map .int) rfl (atI_ints (k := t) (by omega)) ?_
    repeat walk_at "ev"
    refine ⟨?_, rfl⟩
    show _ = Rs.val (.int (ns.getD ((a : Int)).toNat 0 + ns.getD ((t : Int)).toNat 0))
    rw [Int.toNat_natCast, Int.toNat_natCast]
  · repeat walk_at "ev"
    refine c_sortedI rfl fun t1 pm1 pw1 => ?_
    obtain rfl := srt_uniq pm1 pw1
    repeat walk_at "ev"
    refine ⟨_, rfl, ?_⟩
    show Except.ok (Rs.val (tupI (madeL (intsD (ns.map .int))))) = _
    rw [intsD_map, srt_congr (mo_perm _ ns rfl)]
    rfl
theorem ok_is_int (d : Def K mg "_law_is_int" s__law_is_int ["thing", "low", "high"]) (bl : Bl mg) : Cal P w K mg base CX0 1 "_law_is_int" ["thing", "low", "high"] (pureG 3 p_is_whole f_is_whole) := by
  refine def_okG d sc__law_is_int rfl (by rintro _ ⟨d, lo, hi, rfl⟩; rfl) fun fa cdv A outer s H E B ds hr pre hB => ?_
  obtain ⟨x, lo, hi, rfl⟩ := pre
  have nd := sc__law_is_int.nd
  show EvSs _ _ _ [.val x, .val (.int lo), .val (.int hi)] _
  refine ess_one ?_
  refine es_ret ?_
  refine ee_and ?_
  repeat walk_at "ev"
  cases x with
  | int n =>
    refine ⟨_, rfl, fun _ => ?_, nofun⟩
    refine ee_and ?_
    refine ee_not ?_
    repeat walk_at "ev"
    refine ⟨_, rfl, _, rfl, fun _ => ?_, nofun⟩
    refine ee_and ?_
    repeat walk_at "ev"
    refine ⟨_, rfl, fun h1 => ?_, fun h1 => ⟨_, rfl, ?_⟩⟩
    · refine ee_one ?_
      repeat walk_at "ev"
      refine ⟨_, rfl, ?_⟩
      show Except.ok (Rs.val (.bool (decide (lo ≤ n) && decide (n ≤ hi)))) = _
      rw [h1]
      rfl
    · show Except.ok (Rs.val (.bool (decide (lo ≤ n) && decide (n ≤ hi)))) = _
      rw [h1]
      rfl
  | bool b =>
    refine ⟨_, rfl, fun _ => ?_, nofun⟩
    refine ee_and ?_
    refine ee_not ?_
    repeat walk_at "ev"
    exact ⟨_, rfl, _, rfl, nofun, fun _ => ⟨_, rfl, rfl⟩⟩
  | _ => exact ⟨_, rfl, nofun, fun _ => ⟨_, rfl, rfl⟩⟩
end

section
variable {P : Program} {w : World} {K : Fg} {mg : Str → Option Value} {base : Heap} {C : Addr}
theorem atI_of {ds : List D} {d : D} (h : ds.getLast? = some d) : atI ds (-1) = some d := by
  have hne : ds ≠ [] := fun z => by rw [z] at h; cases h
  have e := List.dropLast_concat_getLast hne
  rw [List.getLast?_eq_getLast hne] at h
  cases h
  have z := atI_last ds.dropLast (ds.getLast hne)
  rw [e] at z
  exact z
theorem ok_t_init {f : Addr} {fd : FuncData} (Fu : Fun K "__init__" "Table.__init__" s_Table_init f fd) (T : TabK K C) : FnOk P w K mg base CX0 1 f fd ["self"] (spInit C) := by
  refine Fu.ok sc_Table_init (fun vs H Q E h => by obtain ⟨x, dx, rfl, _⟩ := h; rfl) fun cdv A outer s H vs Q E hr h => ?_
  obtain ⟨x, dx, rfl, hx, k⟩ := h
  refine ⟨_, pss_one (ps_fld (pe_var (i := 0) rfl (Or.inl rfl)) (pe_lst (pa_cons (pe_tupF pa_nil) pa_nil)) rfl), ?_⟩
  refine ⟨Nat.zero_le _, fun p ob np hc hd => ⟨szl (show 1 ≤ _ by decide), fun l nl => ⟨.ref x, rfl, x, C, dx, [], rfl, ?_, T.ins.cl, T.rows, by decide, ?_⟩⟩⟩
  · have e1 : x ≠ p := fun z => by rw [← z, hx] at np; cases np
    have e2 : x ≠ l := fun z => by rw [← z, upd_ne e1, hx] at nl; cases nl
    rw [upd_ne e2, upd_ne e1]; exact hx
  · have hlp : l ≠ p := fun z => by rw [z, upd_same] at nl; cases nl
    refine k p ob l np hc hd (by rw [upd_ne hlp] at nl; exact nl) hlp
theorem ok_t_len (d : MDef K C "__len__" "Table.__len__" s_Table_len ["self"]) (bl : Bl mg) (T : TabK K C) : RCal P w K mg base CX0 1 C "__len__" ["self"] 1 (lenG C) := by
  refine mdef_okR d sc_Table_len rfl fun f cdv A outer s H E B vs dd hr hg hl hB => ?_
  obtain ⟨x, dx, l, ds, zs, rfl, hx, rp, gl, hz, rfl⟩ := hg
  have nd := sc_Table_len.nd
  show EvSs _ _ _ [.raw (.ref x)] _
  refine ess_one ?_
  refine es_ret ?_
  walk_at "bi"
  refine ea_cons ?_
  refine ee_ix ?_
  refine ee_rowsR ?_
  walk_at "nm"
  refine ⟨x, C, dx, l, ds, rfl, by rw [hB]; exact hx, T, by rw [hB]; exact rp, ?_⟩
  repeat walk_at "ev"
  refine o_ixL (ds := ds) rfl (atI_of gl) ?_
  repeat walk_at "ev"
  exact rfl
theorem ok_t_eq (d : MDef K C "__eq__" "Table.__eq__" s_Table_eq ["self", "other"]) (bl : Bl mg) (T : TabK K C) (gT : mg "Table" = some (.ref C)) : RCal P w K mg base CX0 1 C "__eq__" ["self", "other"] 2 (eqG C) := by
  refine mdef_okR d sc_Table_eq rfl fun f cdv A outer s H E B vs dd hr hg hl hB => ?_
  obtain ⟨x, dx, l, ds, y, ns, rfl, hx, rp, gl, c⟩ := hg
  have nd := sc_Table_eq.nd
  show EvSs _ _ _ [.raw (.ref x), .raw y] _
  refine ess_cons ?_
  refine es_if ?_
  refine et_not (et_val ?_)
  refine ee_isTab b_isinstance (by rfl) bl.isinstance T ?_
  refine ea_cons ?_
  walk_at "nm"
  refine ea_cons ?_
  refine ee_globR (by rfl) gT ?_
  refine ea_nil ?_
  refine ⟨y, rfl, ?_⟩
  rcases c with ⟨ys, ry, rfl⟩ | ⟨x2, dx2, l2, ds2, ms, rfl, hx2, rp2, gl2, rfl⟩
  · refine .inr ⟨ys, by rw [hB]; exact ry, _, rfl, fun _ => ?_, nofun⟩
    repeat walk_at "ev"
    exact rfl
  · refine .inl ⟨x2, dx2, _, rfl, by rw [hB]; exact hx2, _, rfl, nofun, fun _ => ess_nil ?_⟩
    refine ess_one ?_
    refine es_ret ?_
    refine ee_cmp ?_
    refine ee_ix ?_
    refine ee_rowsR ?_
    walk_at "nm"
    refine ⟨x, C, dx, l, ds, rfl, by rw [hB]; exact hx, T, by rw [hB]; exact rp, ?_⟩
    repeat walk_at "ev"
    refine o_ixL (ds := ds) rfl (atI_of gl) ?_
    refine ee_ix ?_
    refine ee_rowsR ?_
    walk_at "nm"
    refine ⟨x2, C, dx2, l2, ds2, rfl, by rw [hB]; exact hx2, T, by rw [hB]; exact rp2, ?_⟩
    repeat walk_at "ev"
    refine o_ixL (ds := ds2) rfl (atI_of gl2) ?_
    refine o_eq (units65 hr) (d1 := tupI ns) (d2 := tupI ms) rfl rfl (shaped_intsT ns) (shaped_intsT ms) ?_
    rw [eqv_ints]
    show Rs.val (.bool (decide (ns = ms))) = Rs.val (.bool (ns == ms))
    congr 2
    by_cases e : ns = ms
    · rw [decide_eq_true e, beq_iff_eq.mpr e]
    · rw [decide_eq_false e]; exact (Bool.eq_false_iff.mpr fun z => e (beq_iff_eq.mp z)).symm
end

section
variable {P : Program} {w : World} {K : Fg} {mg : Str → Option Value} {base : Heap} {C : Addr} {e : Nat → Addr} {t : Tok}
theorem ok_come (d : MDef K C "come" "Table.come" s_Table_come ["self", "weight"]) (bl : Bl mg) (T : TabK K C) (T3 : ExT K mg "NoWeight" (e 3)) (T5 : ExT K mg "Full" (e 5)) (gM : mg "MOST_THINGS" = some (.int 12 t))
    (c1 : Cal P w K mg base CX0 2 "is_weight" ["thing"] (pureG 1 (fun ds => ∃ d, ds = [d]) f_is_weight)) (c2 : RCal P w K mg base CX0 1 C "__len__" ["self"] 1 (lenG C)) : MCal P w K mg base (L2N.CX P w) 3 C "come" ["self", "weight"] (S_meth2 C e comeR) := by
  refine mdef_okN d sc_Table_come rfl fun f cdv A outer s H E B es0 hr pre hB hx => ?_
  obtain ⟨x, l, st, dd, rfl, ho⟩ := pre
  have nd := sc_Table_come.nd
  show EvSs _ _ _ [.tab C x l (stk st), .val dd] _
  refine ess_cons ?_
  refine es_if ?_
  refine et_not (et_val ?_)
  refine cal1 hr c1 (by decide) (by rfl) pass0 ?_
  repeat walk_at "ev"
  refine ⟨[dd], _, rfl, rfl, ⟨dd, rfl⟩, rfl, ?_⟩
  refine ⟨_, rfl, fun h1 => ?_, fun h1 => ess_nil ?_⟩
  · refine ess_one ?_
    refine es_raiseN rfl hx T3 (by with_unfolding_all rfl) ?_
    have h1 : isWh dd 0 W1 = false := by simpa using h1
    exact ⟨x, l, st, dd, 3, rfl, by unfold comeR; rw [h1]; rfl, rfl, rfl⟩
  have h1 : isWh dd 0 W1 = true := by simpa using h1
  obtain ⟨n, rfl, n0, n1⟩ := isWh_int h1
  have hl12 : st.2.length ≤ 12 := ho.2.2.1
  refine ess_cons ?_
  refine es_if (et_cmp ?_)
  walk_at "bi"
  refine ea_cons ?_
  walk_at "nm"
  refine ea_nil ?_
  refine c_lenM (k := 1) hr c2 (by decide) pass0 rfl (stk_get st) (by rw [List.length_map]; omega) ?_
  repeat walk_at "ev"
  have hlen : decide ((((st.2.map PyData.int).length : Nat) : Int) = 12) = decide (st.2.length = 12) := by rw [List.length_map]; exact decide_eq_decide.mpr (by omega)
  rw [hlen]
  refine ⟨_, rfl, fun h2 => ?_, fun h2 => ess_nil ?_⟩
  · have h2 : st.2.length = 12 := of_decide_eq_true h2
    refine ess_one ?_
    refine es_raiseN rfl hx T5 (by with_unfolding_all rfl) ?_
    exact ⟨x, l, st, _, 5, rfl, by unfold comeR; rw [if_pos h1, if_pos h2], rfl, rfl⟩
  have h2 : st.2.length ≠ 12 := of_decide_eq_false h2
  refine ess_one ?_
  walk_at "ev"
  refine ee_bmL PySem.F.slot_list_append PySem.F.type_list_append ?_
  refine ee_rows ?_
  walk_at "nm"
  refine ⟨0, C, x, l, stk st, rfl, rfl, T, ⟨_, if_pos rfl⟩, ?_⟩
  refine ea_cons ?_
  walk_at "bi"
  refine ea_cons ?_
  walk_at "bi"
  refine ea_cons ?_
  refine ee_bin ?_
  refine ee_ix ?_
  refine ee_rows ?_
  walk_at "nm"
  refine ⟨0, C, x, l, stk st, rfl, rfl, T, ?_⟩
  repeat walk_at "ev"
  refine o_ixL (ds := stk st) (if_pos rfl) (stk_at st) ?_
  repeat walk_at "ev"
  refine ⟨[.int n], rfl, szl (show 1 ≤ _ by decide), ?_⟩
  refine o_catT (ds := st.2.map .int) (zs := [.int n]) rfl rfl (szl (by rw [List.length_map]; show st.2.length + 1 ≤ _; omega)) ?_
  refine ea_nil ?_
  refine c_sortedT (ns := st.2 ++ [n]) (by rw [List.map_append]; rfl) fun t1 pm1 pw1 => ?_
  obtain rfl := srt_uniq pm1 pw1
  repeat walk_at "ev"
  refine m_appendF (C := C) (x := x) (ds := stk st) rfl (Nat.lt_of_le_of_lt (show (stk st).length ≤ 1001 by rw [stk_len]; have := ho.1; omega) (by decide)) ?_
  refine ⟨x, l, st, _, (st.1 ++ [st.2], srt (st.2 ++ [n])), rfl, by unfold comeR; rw [if_pos h1, if_neg h2]; rfl, rfl, ?_⟩
  rw [stk_snoc]
  rfl
theorem ok_go (d : MDef K C "go" "Table.go" s_Table_go ["self", "weight"]) (bl : Bl mg) (T : TabK K C) (T3 : ExT K mg "NoWeight" (e 3)) (T4 : ExT K mg "NotThere" (e 4))
    (c1 : Cal P w K mg base CX0 2 "is_weight" ["thing"] (pureG 1 (fun ds => ∃ d, ds = [d]) f_is_weight)) : MCal P w K mg base (L2N.CX P w) 3 C "go" ["self", "weight"] (S_meth2 C e goR) := by
  refine mdef_okN d sc_Table_go rfl fun f cdv A outer s H E B es0 hr pre hB hx => ?_
  obtain ⟨x, l, st, dd, rfl, ho⟩ := pre
  have nd := sc_Table_go.nd
  show EvSs _ _ _ [.tab C x l (stk st), .val dd, .no] _
  refine ess_cons ?_
  refine es_if ?_
  refine et_not (et_val ?_)
  refine cal1 hr c1 (by decide) (by rfl) pass0 ?_
  repeat walk_at "ev"
  refine ⟨[dd], _, rfl, rfl, ⟨dd, rfl⟩, rfl, ?_⟩
  refine ⟨_, rfl, fun h1 => ?_, fun h1 => ess_nil ?_⟩
  · refine ess_one ?_
    refine es_raiseN rfl hx T3 (by with_unfolding_all rfl) ?_
    have h1 : isWh dd 0 W1 = false := by simpa using h1
    exact ⟨x, l, st, dd, 3, rfl, by unfold goR; rw [h1]; rfl, rfl, rfl⟩
  have h1 : isWh dd 0 W1 = true := by simpa using h1
  obtain ⟨n, rfl, n0, n1⟩ := isWh_int h1
  have hl12 : st.2.length ≤ 12 := ho.2.2.1
  refine ess_cons ?_
  refine es_if (et_cmp ?_)
  walk_at "nm"
  refine ee_ix ?_
  refine ee_rows ?_
  walk_at "nm"
  refine ⟨0, C, x, l, stk st, rfl, rfl, T, ?_⟩
  repeat walk_at "ev"
  refine o_ixL (ds := stk st) (if_pos rfl) (stk_at st) ?_
  refine o_notInT (units65 hr) (d1 := .int n) (ds := st.2.map .int) rfl rfl rfl (shaped_intsT st.2) ?_
  rw [any_ints]
  refine ⟨_, rfl, fun h2 => ?_, fun h2 => ess_nil ?_⟩
  · have h2 : n ∉ st.2 := by simpa using h2
    refine ess_one ?_
    refine es_raiseN rfl hx T4 (by with_unfolding_all rfl) ?_
    exact ⟨x, l, st, _, 4, rfl, by unfold goR; rw [if_pos h1]; exact if_neg h2, rfl, rfl⟩
  have h2 : n ∈ st.2 := by simpa using h2
  refine ess_cons ?_
  walk_at "setO"
  walk_at "bi"
  refine ea_cons ?_
  refine ee_ix ?_
  refine ee_rows ?_
  walk_at "nm"
  refine ⟨0, C, x, l, stk st, rfl, rfl, T, ?_⟩
  repeat walk_at "ev"
  refine o_ixL (ds := stk st) (if_pos rfl) (stk_at st) ?_
  repeat walk_at "ev"
  refine ⟨st.2.map .int, rfl, rfl, ?_⟩
  refine ess_cons ?_
  walk_at "ev"
  refine ee_bmL PySem.F.slot_list_remove PySem.F.type_list_remove ?_
  walk_at "nm"
  refine ⟨⟨_, rfl⟩, ?_⟩
  repeat walk_at "ev"
  refine m_remove (ns := st.2) rfl h2 ?_
  refine ess_one ?_
  walk_at "ev"
  refine ee_bmL PySem.F.slot_list_append PySem.F.type_list_append ?_
  refine ee_rows ?_
  walk_at "nm"
  refine ⟨0, C, x, l, stk st, rfl, rfl, T, ⟨_, if_pos rfl⟩, ?_⟩
  repeat walk_at "ev"
  refine m_appendF (C := C) (x := x) (ds := stk st) rfl (Nat.lt_of_le_of_lt (show (stk st).length ≤ 1001 by rw [stk_len]; have := ho.1; omega) (by decide)) ?_
  refine ⟨x, l, st, _, (st.1 ++ [st.2], st.2.erase n), rfl, by unfold goR; rw [if_pos h1]; exact if_pos h2, rfl, ?_⟩
  rw [stk_snoc]
  rfl
theorem ok_back (d : MDef K C "back" "Table.back" s_Table_back ["self"]) (bl : Bl mg) (T : TabK K C) (T7 : ExT K mg "NothingLeft" (e 7)) : MCal P w K mg base (L2N.CX P w) 1 C "back" ["self"] (S_meth1 C e backR) := by
  refine mdef_okN d sc_Table_back rfl fun f cdv A outer s H E B es0 hr pre hB hx => ?_
  obtain ⟨x, l, st, rfl, ho⟩ := pre
  have nd := sc_Table_back.nd
  show EvSs _ _ _ [.tab C x l (stk st)] _
  refine ess_cons ?_
  refine es_if (et_cmp ?_)
  walk_at "bi"
  refine ea_cons ?_
  refine ee_rows ?_
  walk_at "nm"
  refine ⟨0, C, x, l, stk st, rfl, rfl, T, ?_⟩
  refine ea_nil ?_
  refine c_len (ds := stk st) (.inl (if_pos rfl)) ?_
  repeat walk_at "ev"
  rw [stk_len]
  refine ⟨_, rfl, fun h2 => ?_, fun h2 => ess_nil ?_⟩
  · have h2 : st.1.length = 0 := by have := of_decide_eq_true h2; omega
    have h3 : st.1 = [] := List.length_eq_zero_iff.mp h2
    refine ess_one ?_
    refine es_raiseN rfl hx T7 (by with_unfolding_all rfl) ?_
    exact ⟨x, l, st, 7, rfl, by unfold backR; rw [h3]; rfl, rfl, rfl⟩
  have h2 : st.1 ≠ [] := fun z => by have := of_decide_eq_false h2; rw [z] at this; exact this rfl
  refine ess_one ?_
  walk_at "ev"
  refine ee_bmL0 PySem.F.slot_list_pop PySem.F.type_list_pop ?_
  refine ee_rows ?_
  walk_at "nm"
  refine ⟨0, C, x, l, stk st, rfl, rfl, T, ⟨_, if_pos rfl⟩, ?_⟩
  have hg : st.1.getLast? = some (st.1.getLast h2) := List.getLast?_eq_getLast h2
  refine m_popF (C := C) (x := x) (ds := stk st) (d := tupI st.2) rfl (by rw [← List.getLast?_eq_getElem?]; exact stk_get st) ?_
  refine ⟨x, l, st, (st.1.dropLast, st.1.getLast h2), rfl, by unfold backR; rw [hg], rfl, ?_⟩
  rw [stk_drop hg]
  rfl
theorem ok_lot (d : MDef K C "lot" "Table.lot" s_Table_lot ["self"]) (bl : Bl mg) (T : TabK K C) : MCal P w K mg base CX0 1 C "lot" ["self"] (S_tell C tupI) := by
  refine mdef_ok d sc_Table_lot rfl fun f cdv A outer s H E B es0 hr pre hB => ?_
  obtain ⟨x, l, st, rfl, ho⟩ := pre
  have nd := sc_Table_lot.nd
  show EvSs _ _ _ [.tab C x l (stk st)] _
  refine ess_one ?_
  refine es_ret ?_
  refine ee_ix ?_
  refine ee_rows ?_
  walk_at "nm"
  refine ⟨0, C, x, l, stk st, rfl, rfl, T, ?_⟩
  repeat walk_at "ev"
  refine o_ixL (ds := stk st) (if_pos rfl) (stk_at st) ?_
  exact ⟨_, rfl, rfl, x, l, st, rfl, rfl⟩
theorem ok_heap_m (d : MDef K C "heap" "Table.heap" s_Table_heap ["self"]) (bl : Bl mg) (T : TabK K C) (c1 : Cal P w K mg base CX0 1 "made_of" ["lot"] (pureG 1 (p_ints 24) f_made_of)) : MCal P w K mg base CX0 2 C "heap" ["self"] (S_tell C fun l => tupI (madeL l)) := by
  refine mdef_ok d sc_Table_heap rfl fun f cdv A outer s H E B es0 hr pre hB => ?_
  obtain ⟨x, l, st, rfl, ho⟩ := pre
  have nd := sc_Table_heap.nd
  have hl12 : st.2.length ≤ 12 := ho.2.2.1
  show EvSs _ _ _ [.tab C x l (stk st)] _
  refine ess_one ?_
  refine es_ret ?_
  refine cal1 hr c1 (by decide) (by rfl) pass0 ?_
  refine ea_cons ?_
  refine ee_ix ?_
  refine ee_rows ?_
  walk_at "nm"
  refine ⟨0, C, x, l, stk st, rfl, rfl, T, ?_⟩
  repeat walk_at "ev"
  refine o_ixL (ds := stk st) (if_pos rfl) (stk_at st) ?_
  repeat walk_at "ev"
  refine ⟨[tupI st.2], _, rfl, rfl, ⟨st.2, rfl, by omega⟩, rfl, ?_⟩
  refine ⟨_, rfl, rfl, x, l, st, rfl, ?_⟩
  show Rs.val (tupI (madeL (intsD (st.2.map .int)))) = _
  rw [intsD_map]
theorem ok_lots_m (d : MDef K C "lots" "Table.lots" s_Table_lots ["self"]) (bl : Bl mg) (T : TabK K C) (gL : mg "LEAST_THINGS" = some (.int 3 t)) (c1 : Cal P w K mg base CX0 4 "lots_of" ["heap"] (pureG 1 p_heap1 f_lots_of)) (c2 : RCal P w K mg base CX0 1 C "__len__" ["self"] 1 (lenG C))
    (c3 : MCal P w K mg base CX0 2 C "heap" ["self"] (S_tell C fun l => tupI (madeL l))) : MCal P w K mg base CX0 5 C "lots" ["self"] (S_tell C lotsD) := by
  refine mdef_ok d sc_Table_lots rfl fun f cdv A outer s H E B es0 hr pre hB => ?_
  obtain ⟨x, l, st, rfl, ho⟩ := pre
  have nd := sc_Table_lots.nd
  have hl12 : st.2.length ≤ 12 := ho.2.2.1
  show EvSs _ _ _ [.tab C x l (stk st)] _
  refine ess_one ?_
  refine es_ret ?_
  refine ee_if (et_cmp ?_)
  walk_at "bi"
  refine ea_cons ?_
  walk_at "nm"
  refine ea_nil ?_
  refine c_lenM (k := 3) hr c2 (by decide) pass0 rfl (stk_get st) (by rw [List.length_map]; omega) ?_
  repeat walk_at "ev"
  have hlen : decide ((((st.2.map PyData.int).length : Nat) : Int) ≥ 3) = decide (3 ≤ st.2.length) := by rw [List.length_map]; exact decide_eq_decide.mpr (by omega)
  rw [hlen]
  refine ⟨_, rfl, fun h2 => ?_, fun h2 => ?_⟩
  · have h2 : 3 ≤ st.2.length := of_decide_eq_true h2
    walk_at "bi"
    refine ea_cons ?_
    refine cal1 hr c1 (by decide) (by rfl) pass0 ?_
    refine ea_cons ?_
    refine ee_methC0 hr pass0 c3 (by decide) T ?_
    walk_at "nm"
    refine ⟨0, x, l, stk st, rfl, rfl, rfl, ⟨x, l, st, rfl, ho⟩, ?_, nofun⟩
    rintro r es' ⟨rfl, x2, l2, st2, e2, rfl⟩
    have e3 : st2 = st := stk_inj (by injection e2 with e2; injection e2 with _ _ _ e2; exact e2.symm)
    subst e3
    show EvA _ _ _ [.tab C x l (stk st2)] _
    refine ea_nil ?_
    refine ⟨[tupI (madeL st2.2)], _, rfl, rfl, ⟨madeL st2.2, rfl, (made_heap h2 hl12 ho.2.2.2.2).1⟩, rfl, ?_⟩
    repeat walk_at "ev"
    refine ⟨_, rfl, rfl, x, l, st2, rfl, ?_⟩
    unfold lotsD
    rw [if_pos h2, List.length_map, List.length_map, intsD_map]
  · have h2 : ¬ 3 ≤ st.2.length := of_decide_eq_false h2
    repeat walk_at "ev"
    refine ⟨_, rfl, rfl, x, l, st, rfl, ?_⟩
    unfold lotsD
    rw [if_neg h2]
end

section
variable {P : Program} {w : World} {K : Fg} {mg : Str → Option Value} {base : Heap} {C : Addr} {e : Nat → Addr} {m : Addr} {t : Tok}
def S_done (C : Addr) : FS where
  n := 2
  pre := fun es => ∃ x l st q, es = [.tab C x l (stk st), .val (Deed.d q)] ∧ okS st
  post := fun es r es' => ∃ x l st q, es = [.tab C x l (stk st), .val (Deed.d q)] ∧ r = .val (deedV st q) ∧ es' = [.tab C x l (stk (deedS st q)), .val (Deed.d q)]
theorem deed_err {st : Stt} {q : Deed} {i : Nat} (h : deedR st q = .error i) : i < 8 := by
  cases q with
  | come d =>
    have h : comeR st d = .error i := h
    unfold comeR at h
    split at h
    · split at h
      · cases h; decide
      · cases h
    · cases h; decide
  | go d =>
    have h : goR st d = .error i := h
    unfold goR at h
    split at h
    · split at h
      · cases h
      · cases h; decide
    · cases h; decide
  | back =>
    have h : backR st = .error i := h
    unfold backR at h
    split at h
    · cases h; decide
    · cases h
theorem tab_inj {C x l C' x' l' : Addr} {st st' : Stt} (h : En.tab C x l (stk st) = En.tab C' x' l' (stk st')) : x = x' ∧ l = l' ∧ st = st' := by
  injection h with h1 h2 h3 h4
  exact ⟨h2, h3, stk_inj h4⟩
theorem ok_done (d : Def K mg "_law_done" s__law_done ["table", "deed"]) (bl : Bl mg) (T : TabK K C) (eo : ErrsOk K mg e m) (cR : CalE P w K mg base 2 "_law_refusal" ["e"] (S_refusal e))
    (c1 : MCal P w K mg base (L2N.CX P w) 3 C "come" ["self", "weight"] (S_meth2 C e comeR)) (c2 : MCal P w K mg base (L2N.CX P w) 3 C "go" ["self", "weight"] (S_meth2 C e goR)) (c3 : MCal P w K mg base (L2N.CX P w) 1 C "back" ["self"] (S_meth1 C e backR)) :
    Cal P w K mg base CX0 4 "_law_done" ["table", "deed"] (S_done C) := by
  refine def_ok d sc__law_done rfl fun fa cdv A outer s H E B es0 hr pre hB => ?_
  obtain ⟨x, l, st, q, rfl, ho⟩ := pre
  have nd := sc__law_done.nd
  show EvSs _ _ _ [.tab C x l (stk st), .val q.d, .no] _
  refine ess_one ?_
  refine es_try (i := 2) (Ce := m) (ex := fun A es1 => es1 = [.tab C x l (stk st), .val q.d, .no] ∧ ∃ i, deedR st q = .error i ∧ A = e i) rfl rfl nd (by with_unfolding_all rfl) (by with_unfolding_all rfl) ⟨by with_unfolding_all rfl, by decide, .inl eo.nm⟩ cR (L2H.roomH_of hr) (by decide) (by with_unfolding_all rfl) (fun _ => rfl) (by with_unfolding_all walk_at "vis")
    (fun A es1 hC => ?_) (fun pn xe hx po => ?_)
  · obtain ⟨rfl, i, hi, rfl⟩ := hC
    have hi8 := deed_err hi
    refine ⟨eo.ex i hi8, fun p hzc hf => ⟨⟨rfl, i, hi8, hzc, hf⟩, fun _ _ z => z, ?_⟩⟩
    rintro r es' ⟨_, j, hj, hcls, rfl⟩
    have hc2 := hzc.1
    rw [hcls] at hc2
    injection hc2 with hc2
    have := eo.inj hj hi8 hc2
    subst this
    refine ⟨_, rfl, x, l, st, q, rfl, ?_, ?_⟩
    · unfold deedV; rw [hi]
    · unfold deedS; rw [hi]; rfl
  · have fin : ∀ {st' : Stt}, deedR st q = .ok st' → (fnD (S_done C) [.tab C x l (stk st), .val q.d]).rt (.val .none) [.tab C x l (stk st'), .val q.d, .no] := fun {st'} h => by
      refine ⟨_, rfl, x, l, st, q, rfl, ?_, ?_⟩
      · unfold deedV; rw [h]
      · unfold deedS; rw [h]; rfl
    refine ess_cons ?_
    refine es_if (et_cmp ?_)
    cases q with
    | come dd =>
      refine ee_ix ?_
      walk_at "nm"
      repeat walk_at "ev"
      refine o_ixT (ds := [.str "come", dd]) rfl (atI_nat (j := 0) rfl) ?_
      repeat walk_at "ev"
      refine o_eq (units65 hr) (d1 := .str "come") (d2 := .str "come") rfl rfl (by decide +kernel) (by decide +kernel) ?_
      refine ⟨true, rfl, fun _ => ?_, nofun⟩
      refine ess_one ?_
      refine es_ret ?_
      refine ee_methN (X := (Bx CX0 P w K mg base N__law_done "_law_done" s__law_done fa cdv A outer s H E).nox.tr pn xe) hr hx c1 (by decide) T ?_
      walk_at "nm"
      refine ⟨0, x, l, stk st, rfl, rfl, ?_⟩
      refine ea_cons ?_
      refine ee_ix ?_
      walk_at "nm"
      repeat walk_at "ev"
      refine o_ixT (ds := [.str "come", dd]) rfl (atI_nat (j := 1) rfl) ?_
      refine ea_nil ?_
      refine ⟨[.val dd], _, rfl, rfl, rfl, rfl, ⟨x, l, st, dd, rfl, ho⟩, ?_, ?_⟩
      · rintro r es' ⟨x2, l2, st2, d2, st', e2, hR, rfl, rfl⟩
        injection e2 with e2 e3
        obtain ⟨rfl, rfl, rfl⟩ := tab_inj e2
        injection e3 with e3
        injection e3 with e3
        subst e3
        exact fin hR
      · rintro A es' ⟨x2, l2, st2, d2, i, e2, hR, rfl, rfl⟩
        injection e2 with e2 e3
        obtain ⟨rfl, rfl, rfl⟩ := tab_inj e2
        injection e3 with e3
        injection e3 with e3
        subst e3
        exact ⟨rfl, i, hR, rfl⟩
    | go dd =>
      refine ee_ix ?_
      walk_at "nm"
      repeat walk_at "ev"
      refine o_ixT (ds := [.str "go", dd]) rfl (atI_nat (j := 0) rfl) ?_
      repeat walk_at "ev"
      refine o_eq (units65 hr) (d1 := .str "go") (d2 := .str "come") rfl rfl (by decide +kernel) (by decide +kernel) ?_
      refine ⟨false, rfl, nofun, fun _ => ess_nil ?_⟩
      refine ess_one ?_
      refine es_ret ?_
      refine ee_if (et_cmp ?_)
      refine ee_ix ?_
      walk_at "nm"
      repeat walk_at "ev"
      refine o_ixT (ds := [.str "go", dd]) rfl (atI_nat (j := 0) rfl) ?_
      repeat walk_at "ev"
      refine o_eq (units65 hr) (d1 := .str "go") (d2 := .str "go") rfl rfl (by decide +kernel) (by decide +kernel) ?_
      refine ⟨true, rfl, fun _ => ?_, nofun⟩
      refine ee_methN (X := (Bx CX0 P w K mg base N__law_done "_law_done" s__law_done fa cdv A outer s H E).nox.tr pn xe) hr hx c2 (by decide) T ?_
      walk_at "nm"
      refine ⟨0, x, l, stk st, rfl, rfl, ?_⟩
      refine ea_cons ?_
      refine ee_ix ?_
      walk_at "nm"
      repeat walk_at "ev"
      refine o_ixT (ds := [.str "go", dd]) rfl (atI_nat (j := 1) rfl) ?_
      refine ea_nil ?_
      refine ⟨[.val dd], _, rfl, rfl, rfl, rfl, ⟨x, l, st, dd, rfl, ho⟩, ?_, ?_⟩
      · rintro r es' ⟨x2, l2, st2, d2, st', e2, hR, rfl, rfl⟩
        injection e2 with e2 e3
        obtain ⟨rfl, rfl, rfl⟩ := tab_inj e2
        injection e3 with e3
        injection e3 with e3
        subst e3
        exact fin hR
      · rintro A es' ⟨x2, l2, st2, d2, i, e2, hR, rfl, rfl⟩
        injection e2 with e2 e3
        obtain ⟨rfl, rfl, rfl⟩ := tab_inj e2
        injection e3 with e3
        injection e3 with e3
        subst e3
        exact ⟨rfl, i, hR, rfl⟩
    | back =>
      refine ee_ix ?_
      walk_at "nm"
      repeat walk_at "ev"
      refine o_ixT (ds := [.str "back"]) rfl (atI_nat (j := 0) rfl) ?_
      repeat walk_at "ev"
      refine o_eq (units65 hr) (d1 := .str "back") (d2 := .str "come") rfl rfl (by decide +kernel) (by decide +kernel) ?_
      refine ⟨false, rfl, nofun, fun _ => ess_nil ?_⟩
      refine ess_one ?_
      refine es_ret ?_
      refine ee_if (et_cmp ?_)
      refine ee_ix ?_
      walk_at "nm"
      repeat walk_at "ev"
      refine o_ixT (ds := [.str "back"]) rfl (atI_nat (j := 0) rfl) ?_
      repeat walk_at "ev"
      refine o_eq (units65 hr) (d1 := .str "back") (d2 := .str "go") rfl rfl (by decide +kernel) (by decide +kernel) ?_
      refine ⟨false, rfl, nofun, fun _ => ?_⟩
      refine ee_methN0 (X := (Bx CX0 P w K mg base N__law_done "_law_done" s__law_done fa cdv A outer s H E).nox.tr pn xe) hr hx c3 (by decide) T ?_
      walk_at "nm"
      refine ⟨0, x, l, stk st, rfl, rfl, rfl, ⟨x, l, st, rfl, ho⟩, ?_, ?_⟩
      · rintro r es' ⟨x2, l2, st2, st', e2, hR, rfl, rfl⟩
        injection e2 with e2 e3
        obtain ⟨rfl, rfl, rfl⟩ := tab_inj e2
        exact fin hR
      · rintro A es' ⟨x2, l2, st2, i, e2, hR, rfl, rfl⟩
        injection e2 with e2 e3
        obtain ⟨rfl, rfl, rfl⟩ := tab_inj e2
        exact ⟨rfl, i, hR, rfl⟩
end

section
variable {P : Program} {w : World} {K : Fg} {mg : Str → Option Value} {base : Heap} {C : Addr} {e : Nat → Addr} {m : Addr} {t : Tok}
def S_whole (C : Addr) : FS where
  n := 1
  pre := fun es => ∃ ws : List Int, es = [.val (tupI ws)] ∧ ws.length ≤ 12 ∧ ∀ n ∈ ws, 0 ≤ n ∧ n ≤ W1
  post := fun es r es' => es' = es ∧ ∃ ws : List Int, ∃ x l st, es = [.val (tupI ws)] ∧ r = .newT C x l (stk st) ∧ okS st ∧ st.2 = srt ws
theorem stk0 : [PyData.tuple []] = stk ([], []) := rfl
theorem ok_whole (d : Def K mg "_law_whole" s__law_whole ["weights"]) (bl : Bl mg) (T : TabK K C) (gT : mg "Table" = some (.ref C)) (c0 : ICal P w K mg base CX0 1 C ["self"]) (c1 : MCal P w K mg base (L2N.CX P w) 3 C "come" ["self", "weight"] (S_meth2 C e comeR)) :
    Cal P w K mg base CX0 4 "_law_whole" ["weights"] (S_whole C) := by
  refine def_ok d sc__law_whole rfl fun fa cdv A outer s H E B es0 hr pre hB => ?_
  obtain ⟨ws, rfl, hw, hws⟩ := pre
  have nd := sc__law_whole.nd
  show EvSs _ _ _ [.val (tupI ws), .no, .no] _
  refine ess_cons ?_
  refine es_setOX (i := 1) nd (by with_unfolding_all rfl) (by with_unfolding_all walk_at "loc") ?_
  refine ee_makeM (k := 2) hr c0 (by decide) (by with_unfolding_all rfl) gT pass0 fun x l => ?_
  refine ⟨some (C, x, l), _, rfl, rfl, ?_⟩
  show EvSs _ _ _ [.val (tupI ws), .tab C x l [.tuple []], .no] _
  refine ess_mid (fun es1 => ∃ st, es1 = [.val (tupI ws), .tab C x l (stk st), .no] ∧ okS st ∧ st.2 = srt ws) ?_ ?_
  · refine es_for (vs := [2]) PassesOwn.never rfl (fun i a h => hB i a h) [2] ?_ (fun i hi => by rw [List.mem_singleton.mp hi]; exact (by decide : (1 : Nat) ≤ 2))
    refine ei_tup ?_
    walk_at "nm"
    refine ⟨_, rfl, fun i es1 => ∃ st, es1 = [.val (tupI ws), .tab C x l (stk st), .no] ∧ (∀ l ∈ st.1, okLot l) ∧ okLot st.2 ∧ st.1.length = i ∧ st.2 = srt (ws.take i), ⟨([], []), rfl, nofun, ⟨Nat.zero_le _, .nil, nofun⟩, rfl, by show ([] : List Int) = srt (ws.take 0); rw [List.take_zero]; exact (List.length_eq_zero_iff.mp (srt_len [])).symm⟩, ?_, ?_⟩
    · rintro i d' _ hi ⟨st, rfl, h1, h2, h3, h4⟩
      have hil : i < ws.length := by
        have := (List.getElem?_eq_some_iff.mp hi).1
        rwa [List.length_map] at this
      obtain rfl : d' = .int ws[i] := by
        rw [List.getElem?_map, List.getElem?_eq_getElem hil] at hi
        exact (Option.some.inj hi).symm
      have hwi := hws _ (List.getElem_mem hil)
      have ho : okS st := ⟨by omega, h1, h2⟩
      have hwh : isWh (.int ws[i]) 0 W1 = true := by
        show (decide (0 ≤ ws[i]) && decide (ws[i] ≤ W1)) = true
        rw [decide_eq_true hwi.1, decide_eq_true hwi.2]; rfl
      have hl2 : st.2.length = i := by rw [h4, srt_len, List.length_take]; omega
      have hne : ¬ st.2.length = 12 := by omega
      have hR : comeR st (.int ws[i]) = .ok (st.1 ++ [st.2], srt (st.2 ++ [ws[i]])) := by unfold comeR; rw [if_pos hwh, if_neg hne]; rfl
      walk_at "tg"
      refine ess_one ?_
      walk_at "ev"
      refine ee_methC hr passN c1 (by decide) T ?_
      walk_at "nm"
      refine ⟨1, x, l, stk st, rfl, rfl, ?_⟩
      refine ea_cons ?_
      walk_at "nm"
      refine ea_nil ?_
      refine ⟨[.val (.int ws[i])], _, rfl, rfl, rfl, rfl, ⟨x, l, st, _, rfl, ho⟩, ?_, ?_⟩
      · rintro r es' ⟨x2, l2, st2, d2, st', e2, hR2, rfl, rfl⟩
        injection e2 with e2 e3
        obtain ⟨rfl, rfl, rfl⟩ := tab_inj e2
        injection e3 with e3
        injection e3 with e3
        subst e3
        rw [hR] at hR2
        cases hR2
        refine ⟨_, rfl, fun m hm => ?_, h2.come hne hwi.1 hwi.2, by simp [h3], ?_⟩
        · rcases List.mem_append.mp hm with hm | hm
          · exact h1 m hm
          · rw [List.mem_singleton.mp hm]; exact h2
        · show srt (st.2 ++ [ws[i]]) = srt (ws.take (i + 1))
          rw [h4, List.take_succ_eq_append_getElem hil]
          exact srt_congr ((srt_perm _).append_right _)
      · rintro A es' ⟨x2, l2, st2, d2, i2, e2, hR2, _, _⟩
        injection e2 with e2 e3
        obtain ⟨rfl, rfl, rfl⟩ := tab_inj e2
        injection e3 with e3
        injection e3 with e3
        subst e3
        rw [hR] at hR2
        cases hR2
    · rintro es2 ⟨st, rfl, h1, h2, h3, h4⟩
      rw [List.length_map] at h3 h4
      rw [List.take_length] at h4
      exact ⟨st, rfl, ⟨by omega, h1, h2⟩, h4⟩
  rintro _ ⟨st, rfl, ho, h4⟩
  refine ess_one ?_
  refine es_ret ?_
  walk_at "nm"
  exact ⟨_, rfl, rfl, ws, x, l, st, rfl, rfl, ho, h4⟩
end

section
variable {P : Program} {w : World} {K : Fg} {mg : Str → Option Value} {base : Heap} {C : Addr} {e : Nat → Addr} {m : Addr} {t : Tok}
def S_stands (C : Addr) : FS where
  n := 2
  pre := fun es => ∃ x l st, es = [.tab C x l (stk st), .val (tupI st.2)] ∧ okS st
  post := fun es r es' => es' = es ∧ r = .val (.bool true)
theorem ok_stands (d : Def K mg "_law_stands" s__law_stands ["table", "lot"]) (bl : Bl mg) (T : TabK K C) (cl : MCal P w K mg base CX0 1 C "lot" ["self"] (S_tell C tupI)) (ch : MCal P w K mg base CX0 2 C "heap" ["self"] (S_tell C fun l => tupI (madeL l)))
    (cs : MCal P w K mg base CX0 5 C "lots" ["self"] (S_tell C lotsD)) (cn : RCal P w K mg base CX0 1 C "__len__" ["self"] 1 (lenG C)) (cm : Cal P w K mg base CX0 1 "_law_made" ["lot"] (pureG 1 (p_ints 24) f_law_made)) (ca : Cal P w K mg base CX0 5 "all_lots" ["heap"] (pureG 1 p_heap1 f_lots_of)) :
    Cal P w K mg base CX0 6 "_law_stands" ["table", "lot"] (S_stands C) := by
  refine def_ok d sc__law_stands rfl fun fa cdv A outer s H E B es0 hr pre hB => ?_
  obtain ⟨x, l, st, rfl, ho⟩ := pre
  have nd := sc__law_stands.nd
  have hl12 : st.2.length ≤ 12 := ho.2.2.1
  have fm : f_law_made [tupI st.2] = .ok (.val (tupI (madeL st.2))) := by
    show Except.ok (Rs.val (tupI (madeL (intsD (st.2.map .int))))) = _
    rw [intsD_map]
  show EvSs _ _ _ [.tab C x l (stk st), .val (tupI st.2)] _
  have tl : ∀ {f : List Int → D} {r : Rs} {es' : List En}, (S_tell C f).post [.tab C x l (stk st)] r es' → es' = [.tab C x l (stk st)] ∧ r = .val (f st.2) := by
    rintro f r es' ⟨rfl, x2, l2, st2, e2, rfl⟩
    injection e2 with e2 _
    obtain ⟨rfl, rfl, rfl⟩ := tab_inj e2
    exact ⟨rfl, rfl⟩
  refine ess_cons ?_
  refine es_if (et_w (ew_or (et_cmp ?_)))
  refine ee_methC0 hr pass0 cl (by decide) T ?_
  walk_at "nm"
  refine ⟨0, x, l, stk st, rfl, rfl, rfl, ⟨x, l, st, rfl, ho⟩, fun r es' hp => ?_, nofun⟩
  obtain ⟨rfl, rfl⟩ := tl hp
  show EvE _ _ _ [.tab C x l (stk st), .val (tupI st.2)] _
  walk_at "nm"
  refine o_ne (units65 hr) (d1 := tupI st.2) (d2 := tupI st.2) rfl rfl (shaped_intsT _) (shaped_intsT _) ?_
  rw [eqv_ints, decide_eq_true rfl]
  refine ⟨_, rfl, fun _ => ?_, nofun⟩
  refine ew_or (et_cmp ?_)
  refine ee_methC0 hr pass0 ch (by decide) T ?_
  walk_at "nm"
  refine ⟨0, x, l, stk st, rfl, rfl, rfl, ⟨x, l, st, rfl, ho⟩, fun r es' hp => ?_, nofun⟩
  obtain ⟨rfl, rfl⟩ := tl hp
  show EvE _ _ _ [.tab C x l (stk st), .val (tupI st.2)] _
  refine cal1 hr cm (by decide) (by rfl) pass0 ?_
  repeat walk_at "ev"
  refine ⟨[tupI st.2], _, rfl, rfl, ⟨st.2, rfl, by omega⟩, fm, ?_⟩
  refine o_ne (units65 hr) (d1 := tupI (madeL st.2)) (d2 := tupI (madeL st.2)) rfl rfl (shaped_intsT _) (shaped_intsT _) ?_
  rw [eqv_ints, decide_eq_true rfl]
  refine ⟨_, rfl, fun _ => ?_, nofun⟩
  refine ew_or1 (et_cmp ?_)
  walk_at "bi"
  refine ea_cons ?_
  walk_at "nm"
  refine ea_nil ?_
  refine c_lenM (k := 4) hr cn (by decide) pass0 rfl (stk_get st) (by rw [List.length_map]; omega) ?_
  repeat walk_at "ev"
  rw [decide_eq_true rfl]
  refine ⟨_, rfl, nofun, fun _ => ess_nil ?_⟩
  refine ess_one ?_
  refine es_ret ?_
  refine ee_cmp ?_
  refine ee_methC0 hr pass0 cs (by decide) T ?_
  walk_at "nm"
  refine ⟨0, x, l, stk st, rfl, rfl, rfl, ⟨x, l, st, rfl, ho⟩, fun r es' hp => ?_, nofun⟩
  obtain ⟨rfl, rfl⟩ := tl hp
  show EvE _ _ _ [.tab C x l (stk st), .val (tupI st.2)] _
  refine ee_if (et_cmp ?_)
  repeat walk_at "ev"
  have hlen : decide ((((st.2.map PyData.int).length : Nat) : Int) > 2) = decide (3 ≤ st.2.length) := by rw [List.length_map]; exact decide_eq_decide.mpr (by omega)
  rw [hlen]
  refine ⟨_, rfl, fun h2 => ?_, fun h2 => ?_⟩
  · have h2 : 3 ≤ st.2.length := of_decide_eq_true h2
    walk_at "bi"
    refine ea_cons ?_
    refine cal1 hr ca (by decide) (by rfl) pass0 ?_
    refine ea_cons ?_
    refine cal1 hr cm (by decide) (by rfl) pass0 ?_
    repeat walk_at "ev"
    refine ⟨[tupI st.2], _, rfl, rfl, ⟨st.2, rfl, by omega⟩, fm, ?_⟩
    repeat walk_at "ev"
    refine ⟨[tupI (madeL st.2)], _, rfl, rfl, ⟨madeL st.2, rfl, (made_heap h2 hl12 ho.2.2.2.2).1⟩, rfl, ?_⟩
    repeat walk_at "ev"
    have hd : lotsD st.2 = .int ((((lotsOf (nN ((madeL st.2).map PyData.int).length) (intsD ((madeL st.2).map .int))).map tupI).length : Nat) : Int) := by
      unfold lotsD
      rw [if_pos h2, List.length_map, List.length_map, intsD_map]
    rw [hd]
    generalize ((((lotsOf (nN ((madeL st.2).map PyData.int).length) (intsD ((madeL st.2).map .int))).map tupI).length : Nat) : Int) = nn
    refine o_eq (units65 hr) (d1 := .int nn) (d2 := .int nn) rfl rfl rfl rfl ?_
    rw [eqv_int, decide_eq_true rfl]
    exact ⟨_, rfl, rfl, rfl⟩
  · have h2 : ¬ 3 ≤ st.2.length := of_decide_eq_false h2
    repeat walk_at "ev"
    have hd : lotsD st.2 = .none := by unfold lotsD; rw [if_neg h2]
    rw [hd]
    refine o_eq (units65 hr) (d1 := .none) (d2 := .none) rfl rfl rfl rfl ?_
    exact ⟨_, rfl, rfl, rfl⟩
end

section
variable {P : Program} {w : World} {K : Fg} {mg : Str → Option Value} {base : Heap} {C : Addr} {e : Nat → Addr} {m : Addr} {t : Tok}
def S_due : FS where
  n := 2
  pre := fun es => ∃ st q, es = [.own (stk st), .val (Deed.d q)] ∧ okS st
  post := fun es r es' => ∃ st q, es = [.own (stk st), .val (Deed.d q)] ∧ r = .val (deedV st q) ∧ es' = [.own (stk (deedS st q)), .val (Deed.d q)]
theorem erase_cut {l : List Int} {n : Int} : l.take (l.idxOf n) ++ l.drop (l.idxOf n + 1) = l.erase n := by
  rw [← List.eraseIdx_eq_take_drop_succ, List.erase_eq_eraseIdx_of_idxOf rfl]
theorem ok_due (d : Def K mg "_law_due" s__law_due ["rows", "deed"]) (bl : Bl mg) (c1 : Cal P w K mg base CX0 1 "_law_is_int" ["thing", "low", "high"] (pureG 3 p_is_whole f_is_whole)) : Cal P w K mg base CX0 2 "_law_due" ["rows", "deed"] S_due := by
  refine def_ok d sc__law_due rfl fun fa cdv A outer s H E B es0 hr pre hB => ?_
  obtain ⟨st, q, rfl, ho⟩ := pre
  have nd := sc__law_due.nd
  have hl12 : st.2.length ≤ 12 := ho.2.2.1
  show EvSs _ _ _ [.own (stk st), .val q.d, .no, .no] _
  have fin : ∀ {st' : Stt} {en : En}, deedR st q = .ok st' → (fnD S_due [.own (stk st), .val q.d]).rt (.val .none) [.own (stk st'), .val q.d, .val (tupI st.2), en] := fun {st' en} h => by
    refine ⟨_, rfl, st, q, rfl, ?_, ?_⟩
    · unfold deedV; rw [h]
    · unfold deedS; rw [h]; rfl
  have ref : ∀ {i : Nat} {en : En}, deedR st q = .error i → (fnD S_due [.own (stk st), .val q.d]).rt (.val (.str (wrd i))) [.own (stk st), .val q.d, .val (tupI st.2), en] := fun {i en} h => by
    refine ⟨_, rfl, st, q, rfl, ?_, ?_⟩
    · unfold deedV; rw [h]
    · unfold deedS; rw [h]; rfl
  have hsz : (stk st).length < sizeLine := Nat.lt_of_le_of_lt (show (stk st).length ≤ 1001 by rw [stk_len]; have := ho.1; omega) (by decide)
  refine ess_cons ?_
  walk_at "set"
  refine ee_ix ?_
  repeat walk_at "ev"
  refine o_ixL (ds := stk st) rfl (stk_at st) ?_
  refine ⟨_, rfl, rfl, ?_⟩
  show EvSs _ _ _ [.own (stk st), .val q.d, .val (tupI st.2), .no] _
  have W10 : (10 : Int) ^ (18 : Int).toNat = W1 := by decide +kernel
  refine ess_cons ?_
  refine es_if (et_cmp ?_)
  cases q with
  | back =>
    refine ee_ix ?_
    walk_at "nm"
    repeat walk_at "ev"
    refine o_ixT (ds := [.str "back"]) rfl (atI_nat (j := 0) rfl) ?_
    repeat walk_at "ev"
    refine o_eq (units65 hr) (d1 := .str "back") (d2 := .str "back") rfl rfl (by decide +kernel) (by decide +kernel) ?_
    refine ⟨true, rfl, fun _ => ?_, nofun⟩
    refine ess_cons ?_
    refine es_if (et_cmp ?_)
    repeat walk_at "ev"
    rw [stk_len]
    refine ⟨_, rfl, fun h2 => ?_, fun h2 => ess_nil ?_⟩
    · have h2 : st.1.length = 0 := by have := of_decide_eq_true h2; omega
      have h3 : st.1 = [] := List.length_eq_zero_iff.mp h2
      repeat walk_at "ev"
      exact ref (i := 7) (by show backR st = _; unfold backR; rw [h3]; rfl)
    · have h2 : st.1 ≠ [] := fun z => by have := of_decide_eq_false h2; rw [z] at this; exact this rfl
      have hg : st.1.getLast? = some (st.1.getLast h2) := List.getLast?_eq_getLast h2
      refine ess_cons ?_
      walk_at "ev"
      refine ee_bmL0 PySem.F.slot_list_pop PySem.F.type_list_pop ?_
      walk_at "nm"
      refine ⟨⟨_, rfl⟩, ?_⟩
      refine m_pop (ds := stk st) (d := tupI st.2) rfl (by rw [← List.getLast?_eq_getElem?]; exact stk_get st) ?_
      rw [← stk_drop hg]
      repeat walk_at "ev"
      exact fin (st' := (st.1.dropLast, st.1.getLast h2)) (by show backR st = _; unfold backR; rw [hg])
  | come dd =>
    refine ee_ix ?_
    walk_at "nm"
    repeat walk_at "ev"
    refine o_ixT (ds := [.str "come", dd]) rfl (atI_nat (j := 0) rfl) ?_
    repeat walk_at "ev"
    refine o_eq (units65 hr) (d1 := .str "come") (d2 := .str "back") rfl rfl (by decide +kernel) (by decide +kernel) ?_
    refine ⟨false, rfl, nofun, fun _ => ess_nil ?_⟩
    refine ess_cons ?_
    refine es_if (et_not (et_val ?_))
    refine cal1 hr c1 (by decide) (by rfl) pass0 ?_
    refine ea_cons ?_
    refine ee_ix ?_
    walk_at "nm"
    repeat walk_at "ev"
    refine o_ixT (ds := [.str "come", dd]) rfl (atI_nat (j := 1) rfl) ?_
    repeat walk_at "ev"
    refine o_pow ⟨by decide, by decide, by decide⟩ ?_
    rw [W10]
    repeat walk_at "ev"
    refine ⟨[dd, .int 0, .int W1], _, rfl, rfl, ⟨dd, 0, W1, rfl⟩, rfl, ?_⟩
    refine ⟨_, rfl, fun h1 => ?_, fun h1 => ess_nil ?_⟩
    · have h1 : isWh dd 0 W1 = false := by simpa using h1
      repeat walk_at "ev"
      exact ref (i := 3) (by show comeR st dd = _; unfold comeR; rw [h1]; rfl)
    have h1 : isWh dd 0 W1 = true := by simpa using h1
    obtain ⟨n, rfl, n0, n1⟩ := isWh_int h1
    refine ess_cons ?_
    refine es_if (et_cmp ?_)
    refine ee_ix ?_
    walk_at "nm"
    repeat walk_at "ev"
    refine o_ixT (ds := [.str "come", .int n]) rfl (atI_nat (j := 0) rfl) ?_
    repeat walk_at "ev"
    refine o_eq (units65 hr) (d1 := .str "come") (d2 := .str "come") rfl rfl (by decide +kernel) (by decide +kernel) ?_
    refine ⟨true, rfl, fun _ => ?_, nofun⟩
    refine ess_cons ?_
    refine es_if (et_cmp ?_)
    repeat walk_at "ev"
    have hlen : decide ((((st.2.map PyData.int).length : Nat) : Int) = 12) = decide (st.2.length = 12) := by rw [List.length_map]; exact decide_eq_decide.mpr (by omega)
    rw [hlen]
    refine ⟨_, rfl, fun h2 => ?_, fun h2 => ess_nil ?_⟩
    · have h2 : st.2.length = 12 := of_decide_eq_true h2
      repeat walk_at "ev"
      exact ref (i := 5) (by show comeR st _ = _; unfold comeR; rw [if_pos h1, if_pos h2])
    have h2 : st.2.length ≠ 12 := of_decide_eq_false h2
    refine ess_cons ?_
    walk_at "ev"
    refine ee_bmL PySem.F.slot_list_append PySem.F.type_list_append ?_
    walk_at "nm"
    refine ⟨⟨_, rfl⟩, ?_⟩
    refine ea_cons ?_
    walk_at "bi"
    refine ea_cons ?_
    walk_at "bi"
    refine ea_cons ?_
    refine ee_bin ?_
    walk_at "nm"
    refine ee_tup ?_
    refine ea_cons ?_
    refine ee_ix ?_
    walk_at "nm"
    repeat walk_at "ev"
    refine o_ixT (ds := [.str "come", .int n]) rfl (atI_nat (j := 1) rfl) ?_
    refine ea_nil ?_
    refine ⟨[.int n], rfl, szl (show 1 ≤ _ by decide), ?_⟩
    refine o_catT (ds := st.2.map .int) (zs := [.int n]) rfl rfl (szl (by rw [List.length_map]; show st.2.length + 1 ≤ _; omega)) ?_
    refine ea_nil ?_
    refine c_sortedT (ns := st.2 ++ [n]) (by rw [List.map_append]; rfl) fun t1 pm1 pw1 => ?_
    obtain rfl := srt_uniq pm1 pw1
    repeat walk_at "ev"
    refine m_append (ds := stk st) rfl hsz ?_
    rw [← stk_snoc]
    repeat walk_at "ev"
    exact fin (st' := (st.1 ++ [st.2], srt (st.2 ++ [n]))) (by show comeR st _ = _; unfold comeR; rw [if_pos h1, if_neg h2]; rfl)
  | go dd =>
    refine ee_ix ?_
    walk_at "nm"
    repeat walk_at "ev"
    refine o_ixT (ds := [.str "go", dd]) rfl (atI_nat (j := 0) rfl) ?_
    repeat walk_at "ev"
    refine o_eq (units65 hr) (d1 := .str "go") (d2 := .str "back") rfl rfl (by decide +kernel) (by decide +kernel) ?_
    refine ⟨false, rfl, nofun, fun _ => ess_nil ?_⟩
    refine ess_cons ?_
    refine es_if (et_not (et_val ?_))
    refine cal1 hr c1 (by decide) (by rfl) pass0 ?_
    refine ea_cons ?_
    refine ee_ix ?_
    walk_at "nm"
    repeat walk_at "ev"
    refine o_ixT (ds := [.str "go", dd]) rfl (atI_nat (j := 1) rfl) ?_
    repeat walk_at "ev"
    refine o_pow ⟨by decide, by decide, by decide⟩ ?_
    rw [W10]
    repeat walk_at "ev"
    refine ⟨[dd, .int 0, .int W1], _, rfl, rfl, ⟨dd, 0, W1, rfl⟩, rfl, ?_⟩
    refine ⟨_, rfl, fun h1 => ?_, fun h1 => ess_nil ?_⟩
    · have h1 : isWh dd 0 W1 = false := by simpa using h1
      repeat walk_at "ev"
      exact ref (i := 3) (by show goR st dd = _; unfold goR; rw [h1]; rfl)
    have h1 : isWh dd 0 W1 = true := by simpa using h1
    obtain ⟨n, rfl, n0, n1⟩ := isWh_int h1
    refine ess_cons ?_
    refine es_if (et_cmp ?_)
    refine ee_ix ?_
    walk_at "nm"
    repeat walk_at "ev"
    refine o_ixT (ds := [.str "go", .int n]) rfl (atI_nat (j := 0) rfl) ?_
    repeat walk_at "ev"
    refine o_eq (units65 hr) (d1 := .str "go") (d2 := .str "come") rfl rfl (by decide +kernel) (by decide +kernel) ?_
    refine ⟨false, rfl, nofun, fun _ => ess_nil ?_⟩
    refine ess_cons ?_
    refine es_if (et_cmp ?_)
    refine ee_ix ?_
    walk_at "nm"
    repeat walk_at "ev"
    refine o_ixT (ds := [.str "go", .int n]) rfl (atI_nat (j := 1) rfl) ?_
    walk_at "nm"
    refine o_notInT (units65 hr) (d1 := .int n) (ds := st.2.map .int) rfl rfl rfl (shaped_intsT st.2) ?_
    rw [any_ints]
    refine ⟨_, rfl, fun h2 => ?_, fun h2 => ess_nil ?_⟩
    · have h2 : n ∉ st.2 := by simpa using h2
      repeat walk_at "ev"
      exact ref (i := 4) (by show goR st _ = _; unfold goR; rw [if_pos h1]; exact if_neg h2)
    have h2 : n ∈ st.2 := by simpa using h2
    refine ess_cons ?_
    walk_at "set"
    refine ee_tindex ?_
    walk_at "nm"
    refine ⟨st.2, rfl, ?_⟩
    refine ee_ix ?_
    walk_at "nm"
    repeat walk_at "ev"
    refine o_ixT (ds := [.str "go", .int n]) rfl (atI_nat (j := 1) rfl) ?_
    refine ⟨n, rfl, h2, ?_⟩
    have hidx : st.2.idxOf n < st.2.length := List.idxOf_lt_length_iff.mpr h2
    refine ⟨_, rfl, rfl, ?_⟩
    refine ess_cons ?_
    walk_at "ev"
    refine ee_bmL PySem.F.slot_list_append PySem.F.type_list_append ?_
    walk_at "nm"
    refine ⟨⟨_, rfl⟩, ?_⟩
    refine ea_cons ?_
    refine ee_bin ?_
    refine ee_slice ?_
    walk_at "nm"
    refine eo_none ?_
    refine eo_some ?_
    walk_at "nm"
    refine ⟨_, rfl, .inr ⟨st.2.map .int, rfl, ?_⟩⟩
    rw [cut_to, ← List.map_take]
    refine ee_slice ?_
    walk_at "nm"
    refine eo_some ?_
    repeat walk_at "ev"
    refine ⟨_, rfl, ?_⟩
    refine eo_none ?_
    refine .inr ⟨st.2.map .int, rfl, ?_⟩
    rw [show ((st.2.idxOf n : Nat) : Int) + 1 = ((st.2.idxOf n + 1 : Nat) : Int) by omega, cut_from, ← List.map_drop]
    refine o_catT (ds := (st.2.take (st.2.idxOf n)).map .int) (zs := (st.2.drop (st.2.idxOf n + 1)).map .int) rfl rfl (szl (by simp only [List.length_map, List.length_take, List.length_drop]; omega)) ?_
    rw [← List.map_append, erase_cut]
    repeat walk_at "ev"
    refine m_append (ds := stk st) rfl hsz ?_
    rw [show PyData.tuple ((st.2.erase n).map PyData.int) = tupI (st.2.erase n) from rfl, ← stk_snoc]
    repeat walk_at "ev"
    exact fin (st' := (st.1 ++ [st.2], st.2.erase n)) (by show goR st _ = _; unfold goR; rw [if_pos h1]; exact if_pos h2)
end

section
variable {P : Program} {w : World} {K : Fg} {mg : Str → Option Value} {base : Heap} {C : Addr} {e : Nat → Addr} {m : Addr} {t : Tok}
def S_deed : FS where
  n := 2
  pre := fun es => ∃ ds, ∃ l : List Int, es = [.own ds, .val (tupI l)] ∧ wellOk ds ∧ l.length ≤ 12
  post := fun es r es' => ∃ q : Deed, r = .val q.d
theorem ok_deed (d : Def K mg "_law_deed" s__law_deed ["well", "lot"]) (bl : Bl mg) (ct : Cal P w K mg base CX0 1 "_law_take" ["well", "many"] S_take) (cf : Cal P w K mg base CX0 2 "_law_far" ["well", "top"] S_far) : Cal P w K mg base CX0 3 "_law_deed" ["well", "lot"] S_deed := by
  refine def_ok d sc__law_deed rfl fun fa cdv A outer s H E B es0 hr pre hB => ?_
  obtain ⟨ds, l, rfl, hw, hl⟩ := pre
  have nd := sc__law_deed.nd
  have W10 : (10 : Int) ^ (18 : Int).toNat = W1 := by decide +kernel
  show EvSs _ _ _ [.own ds, .val (tupI l), .no, .no] _
  refine ess_mid (fun es1 => ∃ (ds1 : List D) (y : Int), es1 = [.own ds1, .val (tupI l), .val (.int y), .no] ∧ wellOk ds1 ∧ 0 ≤ y ∧ y < 14) ?_ ?_
  · walk_at "set"
    refine cal2 hr ct (by decide) (by rfl) pass0 ?_
    repeat walk_at "ev"
    refine ⟨rfl, _, rfl, rfl, ⟨ds, 14, rfl, hw, by decide, by decide⟩, fun _ _ h => h, ?_⟩
    rintro r es' ⟨_, ds1, _, y, e1, rfl, hw1, rfl, hy⟩
    cases e1
    exact ⟨_, rfl, rfl, ds1, y, rfl, hw1, hy⟩
  rintro _ ⟨ds1, y, rfl, hw1, hy0, hy1⟩
  refine ess_cons ?_
  refine es_if (et_cmp ?_)
  repeat walk_at "ev"
  refine ⟨_, rfl, fun _ => ?_, fun _ => ess_nil ?_⟩
  · refine ess_mid (fun es1 => ∃ (ds2 zs : List D), es1 = [.own ds2, .val (tupI l), .val (.int y), .own zs] ∧ wellOk ds2 ∧ zs.length = 7) ?_ ?_
    · walk_at "setO"
      refine ee_lst ?_
      refine ea_cons ?_
      refine cal2 hr ct (by decide) (by rfl) pass0 ?_
      repeat walk_at "ev"
      refine ⟨rfl, _, rfl, rfl, ⟨ds1, 8, rfl, hw1, by decide, by decide⟩, fun _ _ h => h, ?_⟩
      rintro r es' ⟨_, ds2, _, k1, e1, rfl, hw2, rfl, _⟩
      cases e1
      refine ea_cons ?_
      refine cal2 hr ct (by decide) (by rfl) pass0 ?_
      repeat walk_at "ev"
      refine ⟨rfl, _, rfl, rfl, ⟨ds2, 8, rfl, hw2, by decide, by decide⟩, fun _ _ h => h, ?_⟩
      rintro r es' ⟨_, ds3, _, k2, e1, rfl, hw3, rfl, _⟩
      cases e1
      refine ea_cons ?_
      refine cal2 hr cf (by decide) (by rfl) pass0 ?_
      refine ea_cons ?_
      walk_at "nm"
      repeat walk_at "ev"
      refine o_pow ⟨by decide, by decide, by decide⟩ ?_
      rw [W10]
      refine ea_nil ?_
      refine ⟨rfl, _, rfl, rfl, ⟨ds3, W1, rfl, hw3, by decide⟩, fun _ _ h => h, ?_⟩
      rintro r es' ⟨_, ds4, _, k3, e1, rfl, hw4, rfl, _⟩
      cases e1
      refine ea_cons ?_
      refine ee_bin ?_
      repeat walk_at "ev"
      refine o_pow ⟨by decide, by decide, by decide⟩ ?_
      repeat walk_at "ev"
      refine ⟨_, rfl, szl (show 7 ≤ _ by decide), ?_⟩
      exact ⟨_, rfl, rfl, ds4, _, rfl, hw4, rfl⟩
    rintro _ ⟨ds2, zs, rfl, hw2, hz⟩
    refine ess_one ?_
    refine es_ret ?_
    refine ee_tup ?_
    refine ea_cons ?_
    refine ee_str ?_
    refine ea_cons ?_
    refine ee_ix ?_
    walk_at "nm"
    walk_at "bi"
    refine ea_cons ?_
    refine ee_int ?_
    refine ea_cons ?_
    refine ee_bin ?_
    refine cal2 hr ct (by decide) (by rfl) pass0 ?_
    repeat walk_at "ev"
    refine ⟨rfl, _, rfl, rfl, ⟨ds2, 12, rfl, hw2, by decide, by decide⟩, fun _ _ h => h, ?_⟩
    rintro r es' ⟨_, ds3, _, k, e1, rfl, hw3, rfl, hk⟩
    cases e1
    repeat walk_at "ev"
    obtain ⟨j, hj, hj7⟩ : ∃ j : Nat, (if k - 5 > 0 then k - 5 else 0) = (j : Int) ∧ j < 7 := by
      by_cases h : k - 5 > 0
      · rw [if_pos h]; exact ⟨(k - 5).toNat, by omega, by omega⟩
      · rw [if_neg h]; exact ⟨0, rfl, by decide⟩
    rw [hj]
    refine o_ixL (ds := zs) rfl (atI_nat (List.getElem?_eq_getElem (by omega : j < zs.length))) ?_
    refine ea_nil ?_
    refine ⟨_, rfl, szl (show 2 ≤ _ by decide), ?_⟩
    exact ⟨_, rfl, .come _, rfl⟩
  refine ess_cons ?_
  refine es_if (et_cmp ?_)
  repeat walk_at "ev"
  refine ⟨_, rfl, fun _ => ?_, fun _ => ess_nil ?_⟩
  · refine ess_mid (fun es1 => ∃ (ds2 zs : List D), es1 = [.own ds2, .val (tupI l), .val (.int y), .own zs] ∧ wellOk ds2 ∧ zs.length = l.length + 3) ?_ ?_
    · walk_at "setO"
      refine ee_bin ?_
      walk_at "bi"
      refine ea_cons ?_
      walk_at "nm"
      refine ea_nil ?_
      refine c_list (ds := l.map .int) (.inr rfl) ?_
      refine ee_lst ?_
      refine ea_cons ?_
      refine cal2 hr ct (by decide) (by rfl) pass0 ?_
      repeat walk_at "ev"
      refine ⟨rfl, _, rfl, rfl, ⟨ds1, 9, rfl, hw1, by decide, by decide⟩, fun _ _ h => h, ?_⟩
      rintro r es' ⟨_, ds2, _, k1, e1, rfl, hw2, rfl, _⟩
      cases e1
      refine ea_cons ?_
      refine ee_bin ?_
      repeat walk_at "ev"
      refine o_pow ⟨by decide, by decide, by decide⟩ ?_
      repeat walk_at "ev"
      refine ⟨_, rfl, szl (show 3 ≤ _ by decide), ?_⟩
      refine o_cat (ds := l.map .int) (zs := [_, _, _]) rfl rfl rfl rfl (szl (by rw [List.length_map]; show l.length + 3 ≤ _; omega)) ?_
      exact ⟨_, rfl, rfl, ds2, _, rfl, hw2, by rw [List.length_append, List.length_map]; rfl⟩
    rintro _ ⟨ds2, zs, rfl, hw2, hz⟩
    refine ess_one ?_
    refine es_ret ?_
    refine ee_tup ?_
    refine ea_cons ?_
    refine ee_str ?_
    refine ea_cons ?_
    refine ee_ix ?_
    walk_at "nm"
    refine cal2 hr ct (by decide) (by rfl) pass0 ?_
    repeat walk_at "ev"
    refine ⟨rfl, _, rfl, rfl, ⟨ds2, (zs.length : Int), rfl, hw2, by omega, by omega⟩, fun _ _ h => h, ?_⟩
    rintro r es' ⟨_, ds3, m3, k, e1, rfl, hw3, rfl, hk⟩
    injection e1 with e1 e2
    injection e2 with e2 _
    injection e2 with e2
    injection e2 with e2
    obtain ⟨j, rfl⟩ : ∃ j : Nat, k = (j : Int) := ⟨k.toNat, by omega⟩
    refine o_ixL (ds := zs) rfl (atI_nat (List.getElem?_eq_getElem (by omega : j < zs.length))) ?_
    refine ea_nil ?_
    refine ⟨_, rfl, szl (show 2 ≤ _ by decide), ?_⟩
    exact ⟨_, rfl, .go _, rfl⟩
  refine ess_one ?_
  refine es_ret ?_
  refine ee_if (et_cmp ?_)
  repeat walk_at "ev"
  refine ⟨_, rfl, fun _ => ?_, fun _ => ?_⟩
  · repeat walk_at "ev"
    refine ⟨_, rfl, szl (show 1 ≤ _ by decide), ?_⟩
    exact ⟨_, rfl, .back, rfl⟩
  · refine ee_tup ?_
    refine ea_cons ?_
    refine ee_str ?_
    refine ea_cons ?_
    refine cal2 hr ct (by decide) (by rfl) pass0 ?_
    repeat walk_at "ev"
    refine ⟨rfl, _, rfl, rfl, ⟨ds1, 5, rfl, hw1, by decide, by decide⟩, fun _ _ h => h, ?_⟩
    rintro r es' ⟨_, ds2, _, k1, e1, rfl, hw2, rfl, _⟩
    cases e1
    refine ea_nil ?_
    refine ⟨_, rfl, szl (show 2 ≤ _ by decide), ?_⟩
    exact ⟨_, rfl, .come _, rfl⟩
end

section
variable {P : Program} {w : World} {K : Fg} {mg : Str → Option Value} {base : Heap} {C : Addr} {e : Nat → Addr} {m : Addr} {t : Tok}
theorem deed_inj : ∀ {q q' : Deed}, q.d = q'.d → q = q'
  | .come _, .come _, h => by injection h with h; injection h with _ h; injection h with h; rw [h]
  | .go _, .go _, h => by injection h with h; injection h with _ h; injection h with h; rw [h]
  | .back, .back, _ => rfl
  | .come _, .go _, h => by injection h with h; injection h with h _; injection h with h; exact absurd h (by decide)
  | .go _, .come _, h => by injection h with h; injection h with h _; injection h with h; exact absurd h (by decide)
  | .come _, .back, h => by injection h with h; injection h with h _; injection h with h; exact absurd h (by decide)
  | .go _, .back, h => by injection h with h; injection h with h _; injection h with h; exact absurd h (by decide)
  | .back, .come _, h => by injection h with h; injection h with h _; injection h with h; exact absurd h (by decide)
  | .back, .go _, h => by injection h with h; injection h with h _; injection h with h; exact absurd h (by decide)
theorem done_post {x l : Addr} {st : Stt} {q : Deed} {r : Rs} {es' : List En} (h : (S_done C).post [.tab C x l (stk st), .val q.d] r es') : r = .val (deedV st q) ∧ es' = [.tab C x l (stk (deedS st q)), .val q.d] := by
  obtain ⟨x2, l2, st2, q2, e2, rfl, rfl⟩ := h
  injection e2 with e2 e3
  obtain ⟨rfl, rfl, rfl⟩ := tab_inj e2
  injection e3 with e3
  injection e3 with e3
  obtain rfl := deed_inj e3
  exact ⟨rfl, rfl⟩
theorem due_post {st : Stt} {q : Deed} {r : Rs} {es' : List En} (h : S_due.post [.own (stk st), .val q.d] r es') : r = .val (deedV st q) ∧ es' = [.own (stk (deedS st q)), .val q.d] := by
  obtain ⟨st2, q2, e2, rfl, rfl⟩ := h
  injection e2 with e2 e3
  injection e2 with e2
  obtain rfl := stk_inj e2
  injection e3 with e3
  injection e3 with e3
  obtain rfl := deed_inj e3
  exact ⟨rfl, rfl⟩
theorem tell_post {f : List Int → D} {x l : Addr} {st : Stt} {r : Rs} {es' : List En} (h : (S_tell C f).post [.tab C x l (stk st)] r es') : es' = [.tab C x l (stk st)] ∧ r = .val (f st.2) := by
  obtain ⟨rfl, x2, l2, st2, e2, rfl⟩ := h
  injection e2 with e2 _
  obtain ⟨rfl, rfl, rfl⟩ := tab_inj e2
  exact ⟨rfl, rfl⟩
def muE : Option En → Nat
  | some (.own ds) => ds.length
  | _ => 0
def muR (es : List En) : Nat := muE (es[1]?)
theorem ok_law {f : Addr} {fd : FuncData} (d : Fun K "law" "law" s_law f fd) (bl : Bl mg) (T : TabK K C) (gT : mg "Table" = some (.ref C)) (cw : Cal P w K mg base CX0 1 "_law_well" ["script", "k"] S_well) (cQ : Cal P w K mg base CX0 3 "_law_deed" ["well", "lot"] S_deed)
    (cD : Cal P w K mg base CX0 4 "_law_done" ["table", "deed"] (S_done C)) (cU : Cal P w K mg base CX0 2 "_law_due" ["rows", "deed"] S_due) (cS : Cal P w K mg base CX0 6 "_law_stands" ["table", "lot"] (S_stands C)) (cW : Cal P w K mg base CX0 4 "_law_whole" ["weights"] (S_whole C))
    (c0 : ICal P w K mg base CX0 1 C ["self"]) (cE : RCal P w K mg base CX0 1 C "__eq__" ["self", "other"] 2 (eqG C)) (cB : MCal P w K mg base (L2N.CX P w) 1 C "back" ["self"] (S_meth1 C e backR)) (cL : MCal P w K mg base CX0 5 C "lots" ["self"] (S_tell C lotsD)) :
    FnOk P w K mg base CX0 7 f fd ["script"] (spOf K S_law) := by
  refine fn_ok d sc_law rfl fun cdv A outer s H E B es0 hr pre hB => ?_
  obtain ⟨ns, rfl, hl⟩ := pre
  have nd := sc_law.nd
  show EvSs _ _ _ [.scr ns, .no, .no, .no, .no, .no, .no, .no] _
  refine ess_mid (fun es1 => ∃ x l, es1 = [.scr ns, .own (stk ([], [])), .tab C x l (stk ([], [])), .no, .no, .no, .no, .no]) ?_ ?_
  · refine es_parG (i := 1) (j := 2) rfl nd (by with_unfolding_all rfl) (by with_unfolding_all rfl) (by decide) (by with_unfolding_all rfl) (by with_unfolding_all rfl) ?_
    refine ee_lst ?_
    refine ea_cons ?_
    refine ee_tup ?_
    refine ea_nil ?_
    refine ⟨[], rfl, Nat.zero_le _, ?_⟩
    refine ea_nil ?_
    refine ⟨[.tuple []], rfl, szl (show 1 ≤ _ by decide), ?_⟩
    refine ee_makeM (k := 5) hr c0 (by decide) (by with_unfolding_all rfl) gT pass0 fun x l => ?_
    exact ⟨_, _, rfl, rfl, rfl, rfl, x, l, rfl⟩
  rintro _ ⟨x, l, rfl⟩
  refine ess_mid (fun es1 => ∃ st, es1 = [.scr ns, .own (stk st), .tab C x l (stk st), .no, .no, .no, .no, .no] ∧ okS st ∧ frst st) ?_ ?_
  · refine es_for (vs := [3]) PassesOwn.never rfl hB [3, 4] ?_ (by decide)
    refine ei_range1 (by rfl) bl.range ?_
    repeat walk_at "ev"
    refine ⟨_, rfl, by simp only [List.length_map]; split <;> split <;> omega, by simp only [List.length_map]; split <;> split <;> omega, fun i es1 => ∃ st, es1 = [.scr ns, .own (stk st), .tab C x l (stk st), .no, .no, .no, .no, .no] ∧ okS st ∧ st.1.length ≤ i ∧ frst st, ⟨([], []), rfl, ⟨Nat.zero_le _, nofun, Nat.zero_le _, .nil, nofun⟩, Nat.zero_le _, rfl⟩, ?_, ?_⟩
    · rintro i d' _ hi ⟨st, rfl, ho, hlen, hf⟩
      have hi2 := (List.getElem?_eq_some_iff.mp hi).1
      rw [rg0_len] at hi2
      have hi64 : i < 64 := by
        simp only [List.length_map] at hi2
        split at hi2 <;> split at hi2 <;> omega
      obtain ⟨k, hk, rfl⟩ := mem_rg0 (List.mem_of_getElem? hi)
      have hk : (k : Int) < 64 := by
        simp only [List.length_map] at hk
        split at hk <;> split at hk <;> omega
      walk_at "tg"
      refine ess_mid (fun es1 => ∃ q : Deed, es1 = [.scr ns, .own (stk st), .tab C x l (stk st), .val (.int k), .val q.d, .no, .no, .no]) ?_ ?_
      · walk_at "set"
        refine ee_calNew cQ hr (by decide) (by rfl) pass0 rfl ?_
        refine cal2 hr cw (by decide) (by rfl) pass0 ?_
        repeat walk_at "ev"
        refine ⟨rfl, _, rfl, rfl, ⟨ns, k, rfl, by omega, hk⟩, fun _ _ h => h, ?_⟩
        rintro r es' ⟨rfl, ds, rfl, hw⟩
        refine ee_ix ?_
        repeat walk_at "ev"
        refine o_ixL (ds := stk st) rfl (stk_at st) ?_
        refine ⟨ds, tupI st.2, rfl, rfl, ⟨ds, st.2, rfl, hw, ho.2.2.1⟩, fun _ _ h => h, ?_⟩
        rintro r es' ⟨q, rfl⟩
        exact ⟨_, rfl, rfl, q, rfl⟩
      rintro _ ⟨q, rfl⟩
      obtain ⟨sh, sq⟩ := deedV_sh (s := st) (q := q) fun i h => deed_err h
      obtain ⟨ho2, hle⟩ := deedS_ok (q := q) ho (by omega)
      have hf2 : frst (deedS st q) := frst_deed hf
      refine ess_mid (fun es1 => es1 = [.scr ns, .own (stk (deedS st q)), .tab C x l (stk (deedS st q)), .val (.int k), .val q.d, .no, .no, .no]) ?_ ?_
      · refine es_if (et_w (ew_or (et_cmp ?_)))
        refine cal2 hr cD (by decide) (by rfl) pass0 ?_
        repeat walk_at "ev"
        refine ⟨rfl, _, rfl, rfl, ⟨x, l, st, q, rfl, ho⟩, fun _ _ h => h, fun r es' hp => ?_⟩
        obtain ⟨rfl, rfl⟩ := done_post hp
        show EvE _ _ _ [.scr ns, .own (stk st), .tab C x l (stk (deedS st q)), .val (.int k), .val q.d, .no, .no, .no] _
        refine cal2 hr cU (by decide) (by rfl) pass0 ?_
        repeat walk_at "ev"
        refine ⟨rfl, _, rfl, rfl, ⟨st, q, rfl, ho⟩, fun _ _ h => h, fun r es' hp => ?_⟩
        obtain ⟨rfl, rfl⟩ := due_post hp
        refine o_ne (units65 hr) (d1 := deedV st q) (d2 := deedV st q) rfl rfl sh sh ?_
        rw [sq]
        refine ⟨_, rfl, fun _ => ?_, nofun⟩
        show EvW _ _ _ [.scr ns, .own (stk (deedS st q)), .tab C x l (stk (deedS st q)), .val (.int k), .val q.d, .no, .no, .no] _
        refine ew_or1 (et_not (et_val ?_))
        refine cal2 hr cS (by decide) (by rfl) pass0 ?_
        refine ea_cons ?_
        walk_at "nm"
        refine ea_cons ?_
        refine ee_ix ?_
        repeat walk_at "ev"
        refine o_ixL (ds := stk (deedS st q)) rfl (stk_at _) ?_
        refine ea_nil ?_
        refine ⟨rfl, _, rfl, rfl, ⟨x, l, deedS st q, rfl, ho2⟩, fun _ _ h => h, ?_⟩
        rintro r es' ⟨rfl, rfl⟩
        exact ⟨_, rfl, nofun, fun _ => ess_nil rfl⟩
      rintro _ rfl
      generalize deedS st q = st' at *
      refine ess_one ?_
      refine es_if (et_w (ew_or (et_cmp ?_)))
      walk_at "nm"
      refine ee_ix ?_
      repeat walk_at "ev"
      refine o_ixL (ds := stk st') rfl (stk_at _) ?_
      refine o_eqM hr cE (by decide) pass0 T (i := 2) rfl (stk_get st') (.inl ⟨_, rfl, rfl⟩) ?_
      refine ⟨false, rfl, fun _ => ?_, nofun⟩
      refine ew_or (et_cmp ?_)
      refine ee_cmp ?_
      walk_at "nm"
      refine ee_makeM (k := 5) hr c0 (by decide) (by with_unfolding_all rfl) gT pass0 fun x2 l2 => ?_
      refine o_eqM hr cE (by decide) pass0 T (i := 2) rfl (stk_get st') (.inr ⟨x2, l2, _, [], rfl, rfl, rfl⟩) ?_
      refine ee_cmp ?_
      refine ee_ix ?_
      repeat walk_at "ev"
      refine o_ixL (ds := stk st') rfl (stk_at _) ?_
      refine ee_tup ?_
      refine ea_nil ?_
      refine ⟨[], rfl, Nat.zero_le _, ?_⟩
      refine o_eq (units65 hr) (d1 := tupI st'.2) (d2 := tupI []) rfl rfl (shaped_intsT _) (shaped_intsT []) ?_
      rw [eqv_ints]
      refine o_ne (units65 hr) (d1 := .bool (st'.2 == [])) (d2 := .bool (decide (st'.2 = []))) rfl rfl rfl rfl ?_
      have hbb : PyData.eqv (.bool (st'.2 == [])) (.bool (decide (st'.2 = []))) = true := by
        cases st'.2 <;> rfl
      rw [hbb]
      refine ⟨_, rfl, fun _ => ?_, nofun⟩
      refine ew_or1 (et_not (et_cmp ?_))
      walk_at "nm"
      refine cal2 hr cW (by decide) (by rfl) pass0 ?_
      refine ea_cons ?_
      refine ee_revT ?_
      refine ee_ix ?_
      repeat walk_at "ev"
      refine o_ixL (ds := stk st') rfl (stk_at _) ?_
      refine ⟨st'.2.map .int, rfl, by rw [List.length_map]; have := ho2.2.2.1; omega, ?_⟩
      rw [← List.map_reverse]
      refine ea_nil ?_
      refine ⟨rfl, _, rfl, rfl, ⟨st'.2.reverse, rfl, by rw [List.length_reverse]; exact ho2.2.2.1, fun n hn => ho2.2.2.2.2 n (List.mem_reverse.mp hn)⟩, fun _ _ h => h, ?_⟩
      rintro r es' ⟨rfl, ws, x3, l3, st3, e3, rfl, ho3, hs3⟩
      obtain rfl : st'.2.reverse = ws := tupI_inj (by injection e3 with e3 _; injection e3)
      have he : st3.2 = st'.2 := by rw [hs3]; exact (srt_uniq (List.reverse_perm _).symm ho2.2.2.2.1).symm
      refine o_eqM hr cE (by decide) pass0 T (i := 2) rfl (stk_get st') (.inr ⟨x3, l3, _, st3.2, rfl, stk_get st3, rfl⟩) ?_
      rw [he, show (st'.2 == st'.2) = true from beq_self_eq_true _]
      exact ⟨_, rfl, nofun, fun _ => ess_nil ⟨st', rfl, ho2, by omega, hf2⟩⟩
    · rintro es2 ⟨st, rfl, ho, _, hf⟩
      exact ⟨st, rfl, ho, hf⟩
  rintro _ ⟨st0, rfl, ho0, hf0⟩
  refine ess_mid (fun es1 => es1 = [.scr ns, .own (stk ([], [])), .tab C x l (stk ([], [])), .no, .no, .no, .no, .no]) ?_ ?_
  · refine es_while PassesOwn.never hB [] (fun es1 => ∃ st, es1 = [.scr ns, .own (stk st), .tab C x l (stk st), .no, .no, .no, .no, .no] ∧ okS st ∧ frst st) muR ⟨st0, rfl, ho0, hf0⟩ ?_ nofun
    rintro _ ⟨st, rfl, ho, hf⟩
    refine et_cmp ?_
    repeat walk_at "ev"
    refine ⟨_, rfl, fun h1 => ?_, fun h1 => ?_⟩
    · have h1 := of_decide_eq_true h1
      rw [stk_len] at h1
      have hne : st.1 ≠ [] := fun z => by rw [z] at h1; simp at h1
      have hg : st.1.getLast? = some (st.1.getLast hne) := List.getLast?_eq_getLast hne
      have ho2 : okS (st.1.dropLast, st.1.getLast hne) := ⟨by simp; have := ho.1; omega, fun l hl => ho.2.1 l (List.dropLast_subset _ hl), ho.2.1 _ (List.getLast_mem hne)⟩
      have hf2 := frst_back hf hg
      refine ess_cons ?_
      walk_at "ev"
      refine ee_bmL0 PySem.F.slot_list_pop PySem.F.type_list_pop ?_
      walk_at "nm"
      refine ⟨⟨_, rfl⟩, ?_⟩
      refine m_pop (ds := stk st) (d := tupI st.2) rfl (by rw [← List.getLast?_eq_getElem?]; exact stk_get st) ?_
      rw [← stk_drop hg]
      show EvSs _ _ _ [.scr ns, .own (stk (st.1.dropLast, st.1.getLast hne)), .tab C x l (stk st), .no, .no, .no, .no, .no] _
      refine ess_one ?_
      refine es_if (et_w (ew_or (et_cmp ?_)))
      refine ee_methC0 hr passN cB (by decide) T ?_
      walk_at "nm"
      refine ⟨2, x, l, stk st, rfl, rfl, rfl, ⟨x, l, st, rfl, ho⟩, ?_, ?_⟩
      · rintro r es' ⟨x2, l2, st2, st', e2, hR, rfl, rfl⟩
        injection e2 with e2 _
        obtain ⟨rfl, rfl, rfl⟩ := tab_inj e2
        rw [backR_of hne] at hR
        cases hR
        show EvE _ _ _ [.scr ns, .own (stk (st.1.dropLast, st.1.getLast hne)), .tab C x l (stk (st.1.dropLast, st.1.getLast hne)), .no, .no, .no, .no, .no] _
        refine ee_non ?_
        refine o_isNot ?_
        refine ⟨_, rfl, fun _ => ?_, nofun⟩
        refine ew_or1 (et_not (et_val ?_))
        refine cal2 hr cS (by decide) (by rfl) pass0 ?_
        refine ea_cons ?_
        walk_at "nm"
        refine ea_cons ?_
        refine ee_ix ?_
        repeat walk_at "ev"
        refine o_ixL (ds := stk (st.1.dropLast, st.1.getLast hne)) rfl (stk_at _) ?_
        refine ea_nil ?_
        refine ⟨rfl, _, rfl, rfl, ⟨x, l, _, rfl, ho2⟩, fun _ _ h => h, ?_⟩
        rintro r es' ⟨rfl, rfl⟩
        refine ⟨_, rfl, nofun, fun _ => ess_nil ⟨⟨_, rfl, ho2, hf2⟩, ?_⟩⟩
        show (stk (st.1.dropLast, st.1.getLast hne)).length < (stk st).length
        rw [stk_len, stk_len]
        have : 0 < st.1.length := List.length_pos_iff.mpr hne
        simp
        omega
      · rintro A es' ⟨x2, l2, st2, i2, e2, hR, _, _⟩
        injection e2 with e2 _
        obtain ⟨rfl, rfl, rfl⟩ := tab_inj e2
        rw [backR_of hne] at hR
        cases hR
    · have h1 := of_decide_eq_false h1
      rw [stk_len] at h1
      have h0 : st.1 = [] := List.length_eq_zero_iff.mp (by omega)
      have h2 := frst_nil hf h0
      obtain ⟨a, b⟩ := st
      have h0 : a = [] := h0
      have h2 : b = [] := h2
      rw [h0, h2]
  rintro _ rfl
  have ok0 : okS ([], []) := ⟨Nat.zero_le _, nofun, Nat.zero_le _, .nil, nofun⟩
  refine ess_mid (fun es1 => ∃ x1 l1 s1 x2 l2 s2, es1 = [.scr ns, .own (stk ([], [])), .tab C x l (stk ([], [])), .no, .no, .tab C x1 l1 (stk s1), .tab C x2 l2 (stk s2), .no] ∧ okS s1 ∧ s1.2 = srt [6, 5, 3, 0] ∧ okS s2 ∧ s2.2 = srt (List.replicate 12 9)) ?_ ?_
  · refine es_parC (i := 5) (j := 6) rfl nd (by with_unfolding_all rfl) (by with_unfolding_all rfl) (by decide) (by with_unfolding_all walk_at "loc") (by with_unfolding_all walk_at "loc") ?_
    refine cal2 hr cW (by decide) (by rfl) pass0 ?_
    refine ea_cons ?_
    refine ee_tup ?_
    repeat walk_at "ev"
    refine ⟨[.int 6, .int 5, .int 3, .int 0], rfl, szl (show 4 ≤ _ by decide), ?_⟩
    refine ea_nil ?_
    refine ⟨rfl, _, rfl, rfl, ⟨[6, 5, 3, 0], rfl, by decide, by decide⟩, fun _ _ h => h, ?_⟩
    rintro r es' ⟨rfl, ws, x1, l1, s1, e1, rfl, ho1, hs1⟩
    obtain rfl : [6, 5, 3, 0] = ws := tupI_inj (by injection e1 with e1 _; injection e1)
    refine cal2 hr cW (by decide) (by rfl) pass0 ?_
    refine ea_cons ?_
    refine ee_bin ?_
    refine ee_tup ?_
    repeat walk_at "ev"
    refine ⟨[.int 9], rfl, szl (show 1 ≤ _ by decide), ?_⟩
    repeat walk_at "ev"
    refine o_repT (ds := [.int 9]) rfl nofun (by decide) (by decide) (show 1 ≤ 1000 by decide) ?_
    refine ea_nil ?_
    refine ⟨rfl, _, rfl, rfl, ⟨List.replicate 12 9, rfl, by decide, by decide⟩, fun _ _ h => h, ?_⟩
    rintro r es' ⟨rfl, ws, x2, l2, s2, e2, rfl, ho2, hs2⟩
    obtain rfl : List.replicate 12 9 = ws := tupI_inj (by injection e2 with e2 _; injection e2)
    exact ⟨_, _, rfl, rfl, rfl, rfl, x1, l1, s1, x2, l2, s2, rfl, ho1, hs1, ho2, hs2⟩
  rintro _ ⟨x1, l1, s1, x2, l2, s2, rfl, ho1, hs1, ho2, hs2⟩
  have h12 : s2.2.length = 12 := by rw [hs2, srt_len, List.length_replicate]
  have w1 : isWh (.int 1) 0 W1 = true := by decide
  have r1 : deedR s2 (.come (.int 1)) = .error 5 := by show comeR s2 _ = _; unfold comeR; rw [if_pos w1, if_pos h12]
  have r2 : deedR s2 (.come .none) = .error 3 := by show comeR s2 _ = _; unfold comeR; rw [if_neg (by decide)]
  refine ess_mid (fun es1 => es1 = [.scr ns, .own (stk ([], [])), .tab C x l (stk ([], [])), .no, .no, .tab C x1 l1 (stk s1), .tab C x2 l2 (stk s2), .no]) ?_ ?_
  · refine es_if (et_w (ew_or (et_cmp ?_)))
    refine ee_methC0 hr pass0 cL (by decide) T ?_
    walk_at "nm"
    refine ⟨5, x1, l1, stk s1, rfl, rfl, rfl, ⟨x1, l1, s1, rfl, ho1⟩, fun r es' hp => ?_, nofun⟩
    obtain ⟨rfl, rfl⟩ := tell_post hp
    rw [hs1, lots6530]
    show EvE _ _ _ [.scr ns, .own (stk ([], [])), .tab C x l (stk ([], [])), .no, .no, .tab C x1 l1 (stk s1), .tab C x2 l2 (stk s2), .no] _
    repeat walk_at "ev"
    refine ⟨false, rfl, fun _ => ?_, nofun⟩
    refine ew_or1 (et_cmp ?_)
    refine ee_map (own := [("one", 7)]) rfl nd (blkOk_by (N := N_law) (sc := defScope s_law) (by decide +kernel)) (fun d => deedV s2 (.come d)) ?_
    refine ei_list ?_
    refine ee_lst ?_
    repeat walk_at "ev"
    refine ⟨[.int 1, .none], rfl, szl (show 2 ≤ _ by decide), ?_⟩
    refine ⟨_, rfl, blanked1 rfl, szl (show 2 ≤ _ by decide), fun d' hd s H C' cl fp => ?_, ?_⟩
    · have hR : deedS s2 (.come d') = s2 := by
        rcases List.mem_cons.mp hd with rfl | hd
        · unfold deedS; rw [r1]
        · obtain rfl := List.mem_singleton.mp hd
          unfold deedS; rw [r2]
      walk_at "tg"
      refine ⟨rfl, fun s H C' cl fp => ?_⟩
      refine cal2 hr cD (by decide) (by rfl) pass0 ?_
      refine ea_cons ?_
      walk_at "nm"
      refine ea_cons ?_
      refine ee_tup ?_
      repeat walk_at "ev"
      refine ⟨_, rfl, szl (show 2 ≤ _ by decide), ?_⟩
      refine ea_nil ?_
      refine ⟨rfl, _, rfl, rfl, ⟨x2, l2, s2, .come d', rfl, ho2⟩, fun _ _ h => h, fun r es' hp => ?_⟩
      obtain ⟨rfl, rfl⟩ := done_post (q := .come d') hp
      rw [hR]
      exact ⟨rfl, rfl⟩
    · repeat walk_at "ev"
      refine ⟨[.str "full", .str "weight"], rfl, szl (show 2 ≤ _ by decide), ?_⟩
      have hm : ([PyData.int 1, .none].map fun d => deedV s2 (.come d)) = [.str "full", .str "weight"] := by
        show [deedV s2 (.come (.int 1)), deedV s2 (.come .none)] = _
        unfold deedV
        rw [r1, r2]
        rfl
      rw [hm]
      refine o_ne (units65 hr) (d1 := .list [.str "full", .str "weight"]) (d2 := .list [.str "full", .str "weight"]) rfl rfl (by decide +kernel) (by decide +kernel) ?_
      rw [show PyData.eqv (.list [.str "full", .str "weight"]) (.list [.str "full", .str "weight"]) = true by decide +kernel]
      exact ⟨_, rfl, nofun, fun _ => ess_nil rfl⟩
  rintro _ rfl
  have d1 : deedV ([], []) .back = .str "left" ∧ deedS ([], []) .back = ([], []) := ⟨rfl, rfl⟩
  have d2 : deedV ([], []) (.go (.int 1)) = .str "gone" ∧ deedS ([], []) (.go (.int 1)) = ([], []) := by
    have r3 : deedR ([], []) (.go (.int 1)) = .error 4 := by show goR _ _ = _; unfold goR; rw [if_pos w1]; rfl
    unfold deedV deedS
    rw [r3]
    exact ⟨rfl, rfl⟩
  refine ess_one ?_
  refine es_ret ?_
  refine ee_and ?_
  refine ee_cmp ?_
  refine cal2 hr cD (by decide) (by rfl) pass0 ?_
  refine ea_cons ?_
  walk_at "nm"
  refine ea_cons ?_
  refine ee_tup ?_
  repeat walk_at "ev"
  refine ⟨_, rfl, szl (show 1 ≤ _ by decide), ?_⟩
  refine ea_nil ?_
  refine ⟨rfl, _, rfl, rfl, ⟨x, l, ([], []), .back, rfl, ok0⟩, fun _ _ h => h, fun r es' hp => ?_⟩
  obtain ⟨rfl, rfl⟩ := done_post (q := .back) hp
  rw [d1.1, d1.2]
  show EvE _ _ _ [.scr ns, .own (stk ([], [])), .tab C x l (stk ([], [])), .no, .no, .tab C x1 l1 (stk s1), .tab C x2 l2 (stk s2), .no] _
  repeat walk_at "ev"
  refine o_eq (units65 hr) (d1 := .str "left") (d2 := .str "left") rfl rfl (by decide +kernel) (by decide +kernel) ?_
  refine ⟨true, rfl, fun _ => ?_, nofun⟩
  refine ee_one ?_
  refine ee_cmp ?_
  refine cal2 hr cD (by decide) (by rfl) pass0 ?_
  refine ea_cons ?_
  walk_at "nm"
  refine ea_cons ?_
  refine ee_tup ?_
  repeat walk_at "ev"
  refine ⟨_, rfl, szl (show 2 ≤ _ by decide), ?_⟩
  refine ea_nil ?_
  refine ⟨rfl, _, rfl, rfl, ⟨x, l, ([], []), .go (.int 1), rfl, ok0⟩, fun _ _ h => h, fun r es' hp => ?_⟩
  obtain ⟨rfl, rfl⟩ := done_post (q := .go (.int 1)) hp
  rw [d2.1, d2.2]
  show EvE _ _ _ [.scr ns, .own (stk ([], [])), .tab C x l (stk ([], [])), .no, .no, .tab C x1 l1 (stk s1), .tab C x2 l2 (stk s2), .no] _
  repeat walk_at "ev"
  refine o_eq (units65 hr) (d1 := .str "gone") (d2 := .str "gone") rfl rfl (by decide +kernel) (by decide +kernel) ?_
  exact ⟨_, rfl, rfl, rfl⟩
end
theorem all_mk {l : PySem.W.OpenLaw} {w : World} {K : PySem.W.Frag} {h : Heap} {mg : Str → Option Value} {fa : Addr} (X : K.In h) (G : h.Ns mainGlobals mg) (hfa : mg "law" = some (.ref fa))
    {f0 : Addr} {od0 an0 : Option Addr} {sl0 : Array (Option Value)} {oc0 kV0 dc0 pm0 cd0 ct0 : Value}
    (a0 : PySem.W.nsIn K mainGlobals "is_whole" = some (some (.ref f0))) (l0 : K.lookup f0 = some ⟨oc0, od0, .func (PySem.W.fnOf "is_whole" "is_whole" (defArgs s_is_whole) (defBody s_is_whole) (defScope s_is_whole) .none kV0 dc0 pm0 an0 cd0 ct0), sl0⟩) (c0 : PySem.W.codeIn K cd0 "is_whole" = true) (k0 : PySem.W.keepIn K (.ref f0) = true)
    {f1 : Addr} {od1 an1 : Option Addr} {sl1 : Array (Option Value)} {oc1 kV1 dc1 pm1 cd1 ct1 : Value}
    (a1 : PySem.W.nsIn K mainGlobals "is_weight" = some (some (.ref f1))) (l1 : K.lookup f1 = some ⟨oc1, od1, .func (PySem.W.fnOf "is_weight" "is_weight" (defArgs s_is_weight) (defBody s_is_weight) (defScope s_is_weight) .none kV1 dc1 pm1 an1 cd1 ct1), sl1⟩) (c1 : PySem.W.codeIn K cd1 "is_weight" = true) (k1 : PySem.W.keepIn K (.ref f1) = true)
    {f2 : Addr} {od2 an2 : Option Addr} {sl2 : Array (Option Value)} {oc2 kV2 dc2 pm2 cd2 ct2 : Value}
    (a2 : PySem.W.nsIn K mainGlobals "in_order" = some (some (.ref f2))) (l2 : K.lookup f2 = some ⟨oc2, od2, .func (PySem.W.fnOf "in_order" "in_order" (defArgs s_in_order) (defBody s_in_order) (defScope s_in_order) .none kV2 dc2 pm2 an2 cd2 ct2), sl2⟩) (c2 : PySem.W.codeIn K cd2 "in_order" = true) (k2 : PySem.W.keepIn K (.ref f2) = true)
    {f3 : Addr} {od3 an3 : Option Addr} {sl3 : Array (Option Value)} {oc3 kV3 dc3 pm3 cd3 ct3 : Value}
    (a3 : PySem.W.nsIn K mainGlobals "are_numbers" = some (some (.ref f3))) (l3 : K.lookup f3 = some ⟨oc3, od3, .func (PySem.W.fnOf "are_numbers" "are_numbers" (defArgs s_are_numbers) (defBody s_are_numbers) (defScope s_are_numbers) .none kV3 dc3 pm3 an3 cd3 ct3), sl3⟩) (c3 : PySem.W.codeIn K cd3 "are_numbers" = true) (k3 : PySem.W.keepIn K (.ref f3) = true)
    {f4 : Addr} {od4 an4 : Option Addr} {sl4 : Array (Option Value)} {oc4 kV4 dc4 pm4 cd4 ct4 : Value}
    (a4 : PySem.W.nsIn K mainGlobals "twos" = some (some (.ref f4))) (l4 : K.lookup f4 = some ⟨oc4, od4, .func (PySem.W.fnOf "twos" "twos" (defArgs s_twos) (defBody s_twos) (defScope s_twos) .none kV4 dc4 pm4 an4 cd4 ct4), sl4⟩) (c4 : PySem.W.codeIn K cd4 "twos" = true) (k4 : PySem.W.keepIn K (.ref f4) = true)
    {f5 : Addr} {od5 an5 : Option Addr} {sl5 : Array (Option Value)} {oc5 kV5 dc5 pm5 cd5 ct5 : Value}
    (a5 : PySem.W.nsIn K mainGlobals "is_heap" = some (some (.ref f5))) (l5 : K.lookup f5 = some ⟨oc5, od5, .func (PySem.W.fnOf "is_heap" "is_heap" (defArgs s_is_heap) (defBody s_is_heap) (defScope s_is_heap) .none kV5 dc5 pm5 an5 cd5 ct5), sl5⟩) (c5 : PySem.W.codeIn K cd5 "is_heap" = true) (k5 : PySem.W.keepIn K (.ref f5) = true)
    {f6 : Addr} {od6 an6 : Option Addr} {sl6 : Array (Option Value)} {oc6 kV6 dc6 pm6 cd6 ct6 : Value}
    (a6 : PySem.W.nsIn K mainGlobals "need_heap" = some (some (.ref f6))) (l6 : K.lookup f6 = some ⟨oc6, od6, .func (PySem.W.fnOf "need_heap" "need_heap" (defArgs s_need_heap) (defBody s_need_heap) (defScope s_need_heap) .none kV6 dc6 pm6 an6 cd6 ct6), sl6⟩) (c6 : PySem.W.codeIn K cd6 "need_heap" = true) (k6 : PySem.W.keepIn K (.ref f6) = true)
    {f7 : Addr} {od7 an7 : Option Addr} {sl7 : Array (Option Value)} {oc7 kV7 dc7 pm7 cd7 ct7 : Value}
    (a7 : PySem.W.nsIn K mainGlobals "made_of" = some (some (.ref f7))) (l7 : K.lookup f7 = some ⟨oc7, od7, .func (PySem.W.fnOf "made_of" "made_of" (defArgs s_made_of) (defBody s_made_of) (defScope s_made_of) .none kV7 dc7 pm7 an7 cd7 ct7), sl7⟩) (c7 : PySem.W.codeIn K cd7 "made_of" = true) (k7 : PySem.W.keepIn K (.ref f7) = true)
    {f8 : Addr} {od8 an8 : Option Addr} {sl8 : Array (Option Value)} {oc8 kV8 dc8 pm8 cd8 ct8 : Value}
    (a8 : PySem.W.nsIn K mainGlobals "things_of" = some (some (.ref f8))) (l8 : K.lookup f8 = some ⟨oc8, od8, .func (PySem.W.fnOf "things_of" "things_of" (defArgs s_things_of) (defBody s_things_of) (defScope s_things_of) .none kV8 dc8 pm8 an8 cd8 ct8), sl8⟩) (c8 : PySem.W.codeIn K cd8 "things_of" = true) (k8 : PySem.W.keepIn K (.ref f8) = true)
    {f9 : Addr} {od9 an9 : Option Addr} {sl9 : Array (Option Value)} {oc9 kV9 dc9 pm9 cd9 ct9 : Value}
    (a9 : PySem.W.nsIn K mainGlobals "lot_by" = some (some (.ref f9))) (l9 : K.lookup f9 = some ⟨oc9, od9, .func (PySem.W.fnOf "lot_by" "lot_by" (defArgs s_lot_by) (defBody s_lot_by) (defScope s_lot_by) .none kV9 dc9 pm9 an9 cd9 ct9), sl9⟩) (c9 : PySem.W.codeIn K cd9 "lot_by" = true) (k9 : PySem.W.keepIn K (.ref f9) = true)
    {f10 : Addr} {od10 an10 : Option Addr} {sl10 : Array (Option Value)} {oc10 kV10 dc10 pm10 cd10 ct10 : Value}
    (a10 : PySem.W.nsIn K mainGlobals "lots_of" = some (some (.ref f10))) (l10 : K.lookup f10 = some ⟨oc10, od10, .func (PySem.W.fnOf "lots_of" "lots_of" (defArgs s_lots_of) (defBody s_lots_of) (defScope s_lots_of) .none kV10 dc10 pm10 an10 cd10 ct10), sl10⟩) (c10 : PySem.W.codeIn K cd10 "lots_of" = true) (k10 : PySem.W.keepIn K (.ref f10) = true)
    {f11 : Addr} {od11 an11 : Option Addr} {sl11 : Array (Option Value)} {oc11 kV11 dc11 pm11 cd11 ct11 : Value}
    (a11 : PySem.W.nsIn K mainGlobals "all_lots" = some (some (.ref f11))) (l11 : K.lookup f11 = some ⟨oc11, od11, .func (PySem.W.fnOf "all_lots" "all_lots" (defArgs s_all_lots) (defBody s_all_lots) (defScope s_all_lots) .none kV11 dc11 pm11 an11 cd11 ct11), sl11⟩) (c11 : PySem.W.codeIn K cd11 "all_lots" = true) (k11 : PySem.W.keepIn K (.ref f11) = true)
    {f12 : Addr} {od12 an12 : Option Addr} {sl12 : Array (Option Value)} {oc12 kV12 dc12 pm12 cd12 ct12 : Value}
    (a12 : PySem.W.nsIn K mainGlobals "_law_well" = some (some (.ref f12))) (l12 : K.lookup f12 = some ⟨oc12, od12, .func (PySem.W.fnOf "_law_well" "_law_well" (defArgs s__law_well) (defBody s__law_well) (defScope s__law_well) .none kV12 dc12 pm12 an12 cd12 ct12), sl12⟩) (c12 : PySem.W.codeIn K cd12 "_law_well" = true) (k12 : PySem.W.keepIn K (.ref f12) = true)
    {f13 : Addr} {od13 an13 : Option Addr} {sl13 : Array (Option Value)} {oc13 kV13 dc13 pm13 cd13 ct13 : Value}
    (a13 : PySem.W.nsIn K mainGlobals "_law_take" = some (some (.ref f13))) (l13 : K.lookup f13 = some ⟨oc13, od13, .func (PySem.W.fnOf "_law_take" "_law_take" (defArgs s__law_take) (defBody s__law_take) (defScope s__law_take) .none kV13 dc13 pm13 an13 cd13 ct13), sl13⟩) (c13 : PySem.W.codeIn K cd13 "_law_take" = true) (k13 : PySem.W.keepIn K (.ref f13) = true)
    {f14 : Addr} {od14 an14 : Option Addr} {sl14 : Array (Option Value)} {oc14 kV14 dc14 pm14 cd14 ct14 : Value}
    (a14 : PySem.W.nsIn K mainGlobals "_law_is_int" = some (some (.ref f14))) (l14 : K.lookup f14 = some ⟨oc14, od14, .func (PySem.W.fnOf "_law_is_int" "_law_is_int" (defArgs s__law_is_int) (defBody s__law_is_int) (defScope s__law_is_int) .none kV14 dc14 pm14 an14 cd14 ct14), sl14⟩) (c14 : PySem.W.codeIn K cd14 "_law_is_int" = true) (k14 : PySem.W.keepIn K (.ref f14) = true)
    {f15 : Addr} {od15 an15 : Option Addr} {sl15 : Array (Option Value)} {oc15 kV15 dc15 pm15 cd15 ct15 : Value}
    (a15 : PySem.W.nsIn K mainGlobals "_law_kinds" = some (some (.ref f15))) (l15 : K.lookup f15 = some ⟨oc15, od15, .func (PySem.W.fnOf "_law_kinds" "_law_kinds" (defArgs s__law_kinds) (defBody s__law_kinds) (defScope s__law_kinds) .none kV15 dc15 pm15 an15 cd15 ct15), sl15⟩) (c15 : PySem.W.codeIn K cd15 "_law_kinds" = true) (k15 : PySem.W.keepIn K (.ref f15) = true)
    {f16 : Addr} {od16 an16 : Option Addr} {sl16 : Array (Option Value)} {oc16 kV16 dc16 pm16 cd16 ct16 : Value}
    (a16 : PySem.W.nsIn K mainGlobals "_law_refusal" = some (some (.ref f16))) (l16 : K.lookup f16 = some ⟨oc16, od16, .func (PySem.W.fnOf "_law_refusal" "_law_refusal" (defArgs s__law_refusal) (defBody s__law_refusal) (defScope s__law_refusal) .none kV16 dc16 pm16 an16 cd16 ct16), sl16⟩) (c16 : PySem.W.codeIn K cd16 "_law_refusal" = true) (k16 : PySem.W.keepIn K (.ref f16) = true)
    {f17 : Addr} {od17 an17 : Option Addr} {sl17 : Array (Option Value)} {oc17 kV17 dc17 pm17 cd17 ct17 : Value}
    (a17 : PySem.W.nsIn K mainGlobals "_law_far" = some (some (.ref f17))) (l17 : K.lookup f17 = some ⟨oc17, od17, .func (PySem.W.fnOf "_law_far" "_law_far" (defArgs s__law_far) (defBody s__law_far) (defScope s__law_far) .none kV17 dc17 pm17 an17 cd17 ct17), sl17⟩) (c17 : PySem.W.codeIn K cd17 "_law_far" = true) (k17 : PySem.W.keepIn K (.ref f17) = true)
    {f18 : Addr} {od18 an18 : Option Addr} {sl18 : Array (Option Value)} {oc18 kV18 dc18 pm18 cd18 ct18 : Value}
    (a18 : PySem.W.nsIn K mainGlobals "_law_made" = some (some (.ref f18))) (l18 : K.lookup f18 = some ⟨oc18, od18, .func (PySem.W.fnOf "_law_made" "_law_made" (defArgs s__law_made) (defBody s__law_made) (defScope s__law_made) .none kV18 dc18 pm18 an18 cd18 ct18), sl18⟩) (c18 : PySem.W.codeIn K cd18 "_law_made" = true) (k18 : PySem.W.keepIn K (.ref f18) = true)
    {f19 : Addr} {od19 an19 : Option Addr} {sl19 : Array (Option Value)} {oc19 kV19 dc19 pm19 cd19 ct19 : Value}
    (a19 : PySem.W.nsIn K mainGlobals "_law_done" = some (some (.ref f19))) (l19 : K.lookup f19 = some ⟨oc19, od19, .func (PySem.W.fnOf "_law_done" "_law_done" (defArgs s__law_done) (defBody s__law_done) (defScope s__law_done) .none kV19 dc19 pm19 an19 cd19 ct19), sl19⟩) (c19 : PySem.W.codeIn K cd19 "_law_done" = true) (k19 : PySem.W.keepIn K (.ref f19) = true)
    {f20 : Addr} {od20 an20 : Option Addr} {sl20 : Array (Option Value)} {oc20 kV20 dc20 pm20 cd20 ct20 : Value}
    (a20 : PySem.W.nsIn K mainGlobals "_law_deed" = some (some (.ref f20))) (l20 : K.lookup f20 = some ⟨oc20, od20, .func (PySem.W.fnOf "_law_deed" "_law_deed" (defArgs s__law_deed) (defBody s__law_deed) (defScope s__law_deed) .none kV20 dc20 pm20 an20 cd20 ct20), sl20⟩) (c20 : PySem.W.codeIn K cd20 "_law_deed" = true) (k20 : PySem.W.keepIn K (.ref f20) = true)
    {f21 : Addr} {od21 an21 : Option Addr} {sl21 : Array (Option Value)} {oc21 kV21 dc21 pm21 cd21 ct21 : Value}
    (a21 : PySem.W.nsIn K mainGlobals "_law_due" = some (some (.ref f21))) (l21 : K.lookup f21 = some ⟨oc21, od21, .func (PySem.W.fnOf "_law_due" "_law_due" (defArgs s__law_due) (defBody s__law_due) (defScope s__law_due) .none kV21 dc21 pm21 an21 cd21 ct21), sl21⟩) (c21 : PySem.W.codeIn K cd21 "_law_due" = true) (k21 : PySem.W.keepIn K (.ref f21) = true)
    {f22 : Addr} {od22 an22 : Option Addr} {sl22 : Array (Option Value)} {oc22 kV22 dc22 pm22 cd22 ct22 : Value}
    (a22 : PySem.W.nsIn K mainGlobals "_law_stands" = some (some (.ref f22))) (l22 : K.lookup f22 = some ⟨oc22, od22, .func (PySem.W.fnOf "_law_stands" "_law_stands" (defArgs s__law_stands) (defBody s__law_stands) (defScope s__law_stands) .none kV22 dc22 pm22 an22 cd22 ct22), sl22⟩) (c22 : PySem.W.codeIn K cd22 "_law_stands" = true) (k22 : PySem.W.keepIn K (.ref f22) = true)
    {f23 : Addr} {od23 an23 : Option Addr} {sl23 : Array (Option Value)} {oc23 kV23 dc23 pm23 cd23 ct23 : Value}
    (a23 : PySem.W.nsIn K mainGlobals "_law_whole" = some (some (.ref f23))) (l23 : K.lookup f23 = some ⟨oc23, od23, .func (PySem.W.fnOf "_law_whole" "_law_whole" (defArgs s__law_whole) (defBody s__law_whole) (defScope s__law_whole) .none kV23 dc23 pm23 an23 cd23 ct23), sl23⟩) (c23 : PySem.W.codeIn K cd23 "_law_whole" = true) (k23 : PySem.W.keepIn K (.ref f23) = true)
    {f24 : Addr} {od24 an24 : Option Addr} {sl24 : Array (Option Value)} {oc24 kV24 dc24 pm24 cd24 ct24 : Value}
    (a24 : PySem.W.nsIn K mainGlobals "law" = some (some (.ref f24))) (l24 : K.lookup f24 = some ⟨oc24, od24, .func (PySem.W.fnOf "law" "law" (defArgs s_law) (defBody s_law) (defScope s_law) .none kV24 dc24 pm24 an24 cd24 ct24), sl24⟩) (c24 : PySem.W.codeIn K cd24 "law" = true) (k24 : PySem.W.keepIn K (.ref f24) = true)
    {t_MOST_WEIGHT : Tok} (g_MOST_WEIGHT : PySem.W.nsIn K mainGlobals "MOST_WEIGHT" = some (some (.int W1 t_MOST_WEIGHT)))
    {t_LEAST_THINGS : Tok} (g_LEAST_THINGS : PySem.W.nsIn K mainGlobals "LEAST_THINGS" = some (some (.int 3 t_LEAST_THINGS)))
    {t_MOST_THINGS : Tok} (g_MOST_THINGS : PySem.W.nsIn K mainGlobals "MOST_THINGS" = some (some (.int 12 t_MOST_THINGS)))
    (z_isinstance : PySem.W.nsIn K mainGlobals "isinstance" = some none)
    (z_int : PySem.W.nsIn K mainGlobals "int" = some none)
    (z_bool : PySem.W.nsIn K mainGlobals "bool" = some none)
    (z_str : PySem.W.nsIn K mainGlobals "str" = some none)
    (z_tuple : PySem.W.nsIn K mainGlobals "tuple" = some none)
    (z_list : PySem.W.nsIn K mainGlobals "list" = some none)
    (z_set : PySem.W.nsIn K mainGlobals "set" = some none)
    (z_len : PySem.W.nsIn K mainGlobals "len" = some none)
    (z_all : PySem.W.nsIn K mainGlobals "all" = some none)
    (z_range : PySem.W.nsIn K mainGlobals "range" = some none)
    (z_sum : PySem.W.nsIn K mainGlobals "sum" = some none)
    (z_min : PySem.W.nsIn K mainGlobals "min" = some none)
    (z_max : PySem.W.nsIn K mainGlobals "max" = some none)
    (z_abs : PySem.W.nsIn K mainGlobals "abs" = some none)
    (z_sorted : PySem.W.nsIn K mainGlobals "sorted" = some none)
    (z_enumerate : PySem.W.nsIn K mainGlobals "enumerate" = some none)
    (z_zip : PySem.W.nsIn K mainGlobals "zip" = some none)
    {xe0 xe1 xe2 xe3 xe4 xe5 xe6 xe7 xem : Addr}
    (x0 : PySem.W.nsIn K mainGlobals "NoLot" = some (some (.ref xe0)))
    (x1 : PySem.W.nsIn K mainGlobals "NoHeap" = some (some (.ref xe1)))
    (x2 : PySem.W.nsIn K mainGlobals "NoOwn" = some (some (.ref xe2)))
    (x3 : PySem.W.nsIn K mainGlobals "NoWeight" = some (some (.ref xe3)))
    (x4 : PySem.W.nsIn K mainGlobals "NotThere" = some (some (.ref xe4)))
    (x5 : PySem.W.nsIn K mainGlobals "Full" = some (some (.ref xe5)))
    (x6 : PySem.W.nsIn K mainGlobals "Right" = some (some (.ref xe6)))
    (x7 : PySem.W.nsIn K mainGlobals "NothingLeft" = some (some (.ref xe7)))
    (xm : PySem.W.nsIn K mainGlobals "HeapError" = some (some (.ref xem))) (xv : PySem.W.nsIn K mainGlobals "ValueError" = some none)
    (xc : HL.errChk K [xe0, xe1, xe2, xe3, xe4, xe5, xe6, xe7] xem = true)
    {CT : Addr} (xT : PySem.W.nsIn K mainGlobals "Table" = some (some (.ref CT)))
    {mf0 : Addr} {mod0 man0 : Option Addr} {msl0 : Array (Option Value)} {moc0 mkV0 mdc0 mpm0 mcd0 mct0 : Value}
    (ma0 : PySem.W.findIn K (.ref CT) "__init__" = some (some (.ref mf0))) (ml0 : K.lookup mf0 = some ⟨moc0, mod0, .func (PySem.W.fnOf "__init__" "Table.__init__" (defArgs s_Table_init) (defBody s_Table_init) (defScope s_Table_init) .none mkV0 mdc0 mpm0 man0 mcd0 mct0), msl0⟩) (mc0 : PySem.W.codeIn K mcd0 "Table.__init__" = true) (mk0 : PySem.W.keepIn K (.ref mf0) = true) (mi0 : PySem.W.isFn K (.ref mf0) = true)
    {mf1 : Addr} {mod1 man1 : Option Addr} {msl1 : Array (Option Value)} {moc1 mkV1 mdc1 mpm1 mcd1 mct1 : Value}
    (ma1 : PySem.W.findIn K (.ref CT) "__len__" = some (some (.ref mf1))) (ml1 : K.lookup mf1 = some ⟨moc1, mod1, .func (PySem.W.fnOf "__len__" "Table.__len__" (defArgs s_Table_len) (defBody s_Table_len) (defScope s_Table_len) .none mkV1 mdc1 mpm1 man1 mcd1 mct1), msl1⟩) (mc1 : PySem.W.codeIn K mcd1 "Table.__len__" = true) (mk1 : PySem.W.keepIn K (.ref mf1) = true) (mi1 : PySem.W.isFn K (.ref mf1) = true)
    {mf2 : Addr} {mod2 man2 : Option Addr} {msl2 : Array (Option Value)} {moc2 mkV2 mdc2 mpm2 mcd2 mct2 : Value}
    (ma2 : PySem.W.findIn K (.ref CT) "__eq__" = some (some (.ref mf2))) (ml2 : K.lookup mf2 = some ⟨moc2, mod2, .func (PySem.W.fnOf "__eq__" "Table.__eq__" (defArgs s_Table_eq) (defBody s_Table_eq) (defScope s_Table_eq) .none mkV2 mdc2 mpm2 man2 mcd2 mct2), msl2⟩) (mc2 : PySem.W.codeIn K mcd2 "Table.__eq__" = true) (mk2 : PySem.W.keepIn K (.ref mf2) = true) (mi2 : PySem.W.isFn K (.ref mf2) = true)
    {mf3 : Addr} {mod3 man3 : Option Addr} {msl3 : Array (Option Value)} {moc3 mkV3 mdc3 mpm3 mcd3 mct3 : Value}
    (ma3 : PySem.W.findIn K (.ref CT) "come" = some (some (.ref mf3))) (ml3 : K.lookup mf3 = some ⟨moc3, mod3, .func (PySem.W.fnOf "come" "Table.come" (defArgs s_Table_come) (defBody s_Table_come) (defScope s_Table_come) .none mkV3 mdc3 mpm3 man3 mcd3 mct3), msl3⟩) (mc3 : PySem.W.codeIn K mcd3 "Table.come" = true) (mk3 : PySem.W.keepIn K (.ref mf3) = true) (mi3 : PySem.W.isFn K (.ref mf3) = true)
    {mf4 : Addr} {mod4 man4 : Option Addr} {msl4 : Array (Option Value)} {moc4 mkV4 mdc4 mpm4 mcd4 mct4 : Value}
    (ma4 : PySem.W.findIn K (.ref CT) "go" = some (some (.ref mf4))) (ml4 : K.lookup mf4 = some ⟨moc4, mod4, .func (PySem.W.fnOf "go" "Table.go" (defArgs s_Table_go) (defBody s_Table_go) (defScope s_Table_go) .none mkV4 mdc4 mpm4 man4 mcd4 mct4), msl4⟩) (mc4 : PySem.W.codeIn K mcd4 "Table.go" = true) (mk4 : PySem.W.keepIn K (.ref mf4) = true) (mi4 : PySem.W.isFn K (.ref mf4) = true)
    {mf5 : Addr} {mod5 man5 : Option Addr} {msl5 : Array (Option Value)} {moc5 mkV5 mdc5 mpm5 mcd5 mct5 : Value}
    (ma5 : PySem.W.findIn K (.ref CT) "back" = some (some (.ref mf5))) (ml5 : K.lookup mf5 = some ⟨moc5, mod5, .func (PySem.W.fnOf "back" "Table.back" (defArgs s_Table_back) (defBody s_Table_back) (defScope s_Table_back) .none mkV5 mdc5 mpm5 man5 mcd5 mct5), msl5⟩) (mc5 : PySem.W.codeIn K mcd5 "Table.back" = true) (mk5 : PySem.W.keepIn K (.ref mf5) = true) (mi5 : PySem.W.isFn K (.ref mf5) = true)
    {mf6 : Addr} {mod6 man6 : Option Addr} {msl6 : Array (Option Value)} {moc6 mkV6 mdc6 mpm6 mcd6 mct6 : Value}
    (ma6 : PySem.W.findIn K (.ref CT) "lot" = some (some (.ref mf6))) (ml6 : K.lookup mf6 = some ⟨moc6, mod6, .func (PySem.W.fnOf "lot" "Table.lot" (defArgs s_Table_lot) (defBody s_Table_lot) (defScope s_Table_lot) .none mkV6 mdc6 mpm6 man6 mcd6 mct6), msl6⟩) (mc6 : PySem.W.codeIn K mcd6 "Table.lot" = true) (mk6 : PySem.W.keepIn K (.ref mf6) = true) (mi6 : PySem.W.isFn K (.ref mf6) = true)
    {mf7 : Addr} {mod7 man7 : Option Addr} {msl7 : Array (Option Value)} {moc7 mkV7 mdc7 mpm7 mcd7 mct7 : Value}
    (ma7 : PySem.W.findIn K (.ref CT) "heap" = some (some (.ref mf7))) (ml7 : K.lookup mf7 = some ⟨moc7, mod7, .func (PySem.W.fnOf "heap" "Table.heap" (defArgs s_Table_heap) (defBody s_Table_heap) (defScope s_Table_heap) .none mkV7 mdc7 mpm7 man7 mcd7 mct7), msl7⟩) (mc7 : PySem.W.codeIn K mcd7 "Table.heap" = true) (mk7 : PySem.W.keepIn K (.ref mf7) = true) (mi7 : PySem.W.isFn K (.ref mf7) = true)
    {mf8 : Addr} {mod8 man8 : Option Addr} {msl8 : Array (Option Value)} {moc8 mkV8 mdc8 mpm8 mcd8 mct8 : Value}
    (ma8 : PySem.W.findIn K (.ref CT) "lots" = some (some (.ref mf8))) (ml8 : K.lookup mf8 = some ⟨moc8, mod8, .func (PySem.W.fnOf "lots" "Table.lots" (defArgs s_Table_lots) (defBody s_Table_lots) (defScope s_Table_lots) .none mkV8 mdc8 mpm8 man8 mcd8 mct8), msl8⟩) (mc8 : PySem.W.codeIn K mcd8 "Table.lots" = true) (mk8 : PySem.W.keepIn K (.ref mf8) = true) (mi8 : PySem.W.isFn K (.ref mf8) = true)
    (xtab : HL.tabChk K CT mf0 = true) :
    ∃ fd : FuncData, (∀ (s : Shared) (v : Value), BindsTo s fd ⟨[v], []⟩ [("script", v)]) ∧ ∀ base : Heap, K.In base → base.Ns mainGlobals mg → FnOk l.prog w K mg base CX0 7 fa fd ["script"] (spOf K S_law) := by
  have e := hfa.symm.trans (PySem.W.mg_of X G a24)
  cases e
  have F0 := fun_mk (st := s_is_whole) l0 c0 k0
  have d_is_whole : Def K mg "is_whole" s_is_whole ["thing", "low", "high"] := ⟨_, _, F0, PySem.W.mg_of X G a0, F0.binds (ps := ["thing", "low", "high"]) fun _ _ _ _ _ _ us hl => match us, hl with | [_, _, _], _ => rfl⟩
  have F1 := fun_mk (st := s_is_weight) l1 c1 k1
  have d_is_weight : Def K mg "is_weight" s_is_weight ["thing"] := ⟨_, _, F1, PySem.W.mg_of X G a1, F1.binds (ps := ["thing"]) fun _ _ _ _ _ _ us hl => match us, hl with | [_], _ => rfl⟩
  have F2 := fun_mk (st := s_in_order) l2 c2 k2
  have d_in_order : Def K mg "in_order" s_in_order ["some"] := ⟨_, _, F2, PySem.W.mg_of X G a2, F2.binds (ps := ["some"]) fun _ _ _ _ _ _ us hl => match us, hl with | [_], _ => rfl⟩
  have F3 := fun_mk (st := s_are_numbers) l3 c3 k3
  have d_are_numbers : Def K mg "are_numbers" s_are_numbers ["thing", "many"] := ⟨_, _, F3, PySem.W.mg_of X G a3, F3.binds (ps := ["thing", "many"]) fun _ _ _ _ _ _ us hl => match us, hl with | [_, _], _ => rfl⟩
  have F4 := fun_mk (st := s_twos) l4 c4 k4
  have d_twos : Def K mg "twos" s_twos ["many"] := ⟨_, _, F4, PySem.W.mg_of X G a4, F4.binds (ps := ["many"]) fun _ _ _ _ _ _ us hl => match us, hl with | [_], _ => rfl⟩
  have F5 := fun_mk (st := s_is_heap) l5 c5 k5
  have d_is_heap : Def K mg "is_heap" s_is_heap ["thing"] := ⟨_, _, F5, PySem.W.mg_of X G a5, F5.binds (ps := ["thing"]) fun _ _ _ _ _ _ us hl => match us, hl with | [_], _ => rfl⟩
  have F6 := fun_mk (st := s_need_heap) l6 c6 k6
  have d_need_heap : Def K mg "need_heap" s_need_heap ["heap"] := ⟨_, _, F6, PySem.W.mg_of X G a6, F6.binds (ps := ["heap"]) fun _ _ _ _ _ _ us hl => match us, hl with | [_], _ => rfl⟩
  have F7 := fun_mk (st := s_made_of) l7 c7 k7
  have d_made_of : Def K mg "made_of" s_made_of ["lot"] := ⟨_, _, F7, PySem.W.mg_of X G a7, F7.binds (ps := ["lot"]) fun _ _ _ _ _ _ us hl => match us, hl with | [_], _ => rfl⟩
  have F8 := fun_mk (st := s_things_of) l8 c8 k8
  have d_things_of : Def K mg "things_of" s_things_of ["heap"] := ⟨_, _, F8, PySem.W.mg_of X G a8, F8.binds (ps := ["heap"]) fun _ _ _ _ _ _ us hl => match us, hl with | [_], _ => rfl⟩
  have F9 := fun_mk (st := s_lot_by) l9 c9 k9
  have d_lot_by : Def K mg "lot_by" s_lot_by ["heap", "third"] := ⟨_, _, F9, PySem.W.mg_of X G a9, F9.binds (ps := ["heap", "third"]) fun _ _ _ _ _ _ us hl => match us, hl with | [_, _], _ => rfl⟩
  have F10 := fun_mk (st := s_lots_of) l10 c10 k10
  have d_lots_of : Def K mg "lots_of" s_lots_of ["heap"] := ⟨_, _, F10, PySem.W.mg_of X G a10, F10.binds (ps := ["heap"]) fun _ _ _ _ _ _ us hl => match us, hl with | [_], _ => rfl⟩
  have F11 := fun_mk (st := s_all_lots) l11 c11 k11
  have d_all_lots : Def K mg "all_lots" s_all_lots ["heap"] := ⟨_, _, F11, PySem.W.mg_of X G a11, F11.binds (ps := ["heap"]) fun _ _ _ _ _ _ us hl => match us, hl with | [_], _ => rfl⟩
  have F12 := fun_mk (st := s__law_well) l12 c12 k12
  have d__law_well : Def K mg "_law_well" s__law_well ["script", "k"] := ⟨_, _, F12, PySem.W.mg_of X G a12, F12.binds (ps := ["script", "k"]) fun _ _ _ _ _ _ us hl => match us, hl with | [_, _], _ => rfl⟩
  have F13 := fun_mk (st := s__law_take) l13 c13 k13
  have d__law_take : Def K mg "_law_take" s__law_take ["well", "many"] := ⟨_, _, F13, PySem.W.mg_of X G a13, F13.binds (ps := ["well", "many"]) fun _ _ _ _ _ _ us hl => match us, hl with | [_, _], _ => rfl⟩
  have F14 := fun_mk (st := s__law_is_int) l14 c14 k14
  have d__law_is_int : Def K mg "_law_is_int" s__law_is_int ["thing", "low", "high"] := ⟨_, _, F14, PySem.W.mg_of X G a14, F14.binds (ps := ["thing", "low", "high"]) fun _ _ _ _ _ _ us hl => match us, hl with | [_, _, _], _ => rfl⟩
  have F15 := fun_mk (st := s__law_kinds) l15 c15 k15
  have d__law_kinds : Def K mg "_law_kinds" s__law_kinds ["e"] := ⟨_, _, F15, PySem.W.mg_of X G a15, F15.binds (ps := ["e"]) fun _ _ _ _ _ _ us hl => match us, hl with | [_], _ => rfl⟩
  have F16 := fun_mk (st := s__law_refusal) l16 c16 k16
  have d__law_refusal : Def K mg "_law_refusal" s__law_refusal ["e"] := ⟨_, _, F16, PySem.W.mg_of X G a16, F16.binds (ps := ["e"]) fun _ _ _ _ _ _ us hl => match us, hl with | [_], _ => rfl⟩
  have F17 := fun_mk (st := s__law_far) l17 c17 k17
  have d__law_far : Def K mg "_law_far" s__law_far ["well", "top"] := ⟨_, _, F17, PySem.W.mg_of X G a17, F17.binds (ps := ["well", "top"]) fun _ _ _ _ _ _ us hl => match us, hl with | [_, _], _ => rfl⟩
  have F18 := fun_mk (st := s__law_made) l18 c18 k18
  have d__law_made : Def K mg "_law_made" s__law_made ["lot"] := ⟨_, _, F18, PySem.W.mg_of X G a18, F18.binds (ps := ["lot"]) fun _ _ _ _ _ _ us hl => match us, hl with | [_], _ => rfl⟩
  have F19 := fun_mk (st := s__law_done) l19 c19 k19
  have d__law_done : Def K mg "_law_done" s__law_done ["table", "deed"] := ⟨_, _, F19, PySem.W.mg_of X G a19, F19.binds (ps := ["table", "deed"]) fun _ _ _ _ _ _ us hl => match us, hl with | [_, _], _ => rfl⟩
  have F20 := fun_mk (st := s__law_deed) l20 c20 k20
  have d__law_deed : Def K mg "_law_deed" s__law_deed ["well", "lot"] := ⟨_, _, F20, PySem.W.mg_of X G a20, F20.binds (ps := ["well", "lot"]) fun _ _ _ _ _ _ us hl => match us, hl with | [_, _], _ => rfl⟩
  have F21 := fun_mk (st := s__law_due) l21 c21 k21
  have d__law_due : Def K mg "_law_due" s__law_due ["rows", "deed"] := ⟨_, _, F21, PySem.W.mg_of X G a21, F21.binds (ps := ["rows", "deed"]) fun _ _ _ _ _ _ us hl => match us, hl with | [_, _], _ => rfl⟩
  have F22 := fun_mk (st := s__law_stands) l22 c22 k22
  have d__law_stands : Def K mg "_law_stands" s__law_stands ["table", "lot"] := ⟨_, _, F22, PySem.W.mg_of X G a22, F22.binds (ps := ["table", "lot"]) fun _ _ _ _ _ _ us hl => match us, hl with | [_, _], _ => rfl⟩
  have F23 := fun_mk (st := s__law_whole) l23 c23 k23
  have d__law_whole : Def K mg "_law_whole" s__law_whole ["weights"] := ⟨_, _, F23, PySem.W.mg_of X G a23, F23.binds (ps := ["weights"]) fun _ _ _ _ _ _ us hl => match us, hl with | [_], _ => rfl⟩
  have F24 := fun_mk (st := s_law) l24 c24 k24
  have bl : Bl mg := ⟨PySem.W.mg_none_of X G z_isinstance, PySem.W.mg_none_of X G z_int, PySem.W.mg_none_of X G z_bool, PySem.W.mg_none_of X G z_str, PySem.W.mg_none_of X G z_tuple, PySem.W.mg_none_of X G z_list, PySem.W.mg_none_of X G z_set, PySem.W.mg_none_of X G z_len, PySem.W.mg_none_of X G z_all, PySem.W.mg_none_of X G z_range, PySem.W.mg_none_of X G z_sum, PySem.W.mg_none_of X G z_min, PySem.W.mg_none_of X G z_max, PySem.W.mg_none_of X G z_abs, PySem.W.mg_none_of X G z_sorted, PySem.W.mg_none_of X G z_enumerate, PySem.W.mg_none_of X G z_zip⟩
  have m_MOST_WEIGHT := PySem.W.mg_of X G g_MOST_WEIGHT
  have m_LEAST_THINGS := PySem.W.mg_of X G g_LEAST_THINGS
  have m_MOST_THINGS := PySem.W.mg_of X G g_MOST_THINGS
  obtain ⟨eo, xt⟩ := HL.errs_of (mg := mg) xc (PySem.W.mg_of X G x0) (PySem.W.mg_of X G x1) (PySem.W.mg_of X G x2) (PySem.W.mg_of X G x3) (PySem.W.mg_of X G x4) (PySem.W.mg_of X G x5) (PySem.W.mg_of X G x6) (PySem.W.mg_of X G x7) (PySem.W.mg_of X G xm) (PySem.W.mg_none_of X G xv)
  have T_NoLot := xt 0 "NoLot" (by decide) (PySem.W.mg_of X G x0)
  have T_NoHeap := xt 1 "NoHeap" (by decide) (PySem.W.mg_of X G x1)
  have T_NoOwn := xt 2 "NoOwn" (by decide) (PySem.W.mg_of X G x2)
  have T_NoWeight := xt 3 "NoWeight" (by decide) (PySem.W.mg_of X G x3)
  have T_NotThere := xt 4 "NotThere" (by decide) (PySem.W.mg_of X G x4)
  have T_Full := xt 5 "Full" (by decide) (PySem.W.mg_of X G x5)
  have T_Right := xt 6 "Right" (by decide) (PySem.W.mg_of X G x6)
  have T_NothingLeft := xt 7 "NothingLeft" (by decide) (PySem.W.mg_of X G x7)
  refine ⟨PySem.W.fnOf "law" "law" (defArgs s_law) (defBody s_law) (defScope s_law) .none kV24 dc24 pm24 an24 cd24 ct24, fun s v => .of_eq rfl, fun base _ _ => ?_⟩
  have gT := PySem.W.mg_of X G xT
  obtain ⟨TK, MKi⟩ := HL.tab_of xtab
  have FM0 := fun_mk (st := s_Table_init) ml0 mc0 mk0
  have bM0 := FM0.binds (ps := ["self"]) fun _ _ _ _ _ _ us hl => match us, hl with | [_], _ => rfl
  have dm_init : MDef K CT "__init__" "Table.__init__" s_Table_init ["self"] := ⟨_, _, FM0, ⟨ma0, mi0, mk0⟩, bM0⟩
  have FM1 := fun_mk (st := s_Table_len) ml1 mc1 mk1
  have bM1 := FM1.binds (ps := ["self"]) fun _ _ _ _ _ _ us hl => match us, hl with | [_], _ => rfl
  have dm_len : MDef K CT "__len__" "Table.__len__" s_Table_len ["self"] := ⟨_, _, FM1, ⟨ma1, mi1, mk1⟩, bM1⟩
  have FM2 := fun_mk (st := s_Table_eq) ml2 mc2 mk2
  have bM2 := FM2.binds (ps := ["self", "other"]) fun _ _ _ _ _ _ us hl => match us, hl with | [_, _], _ => rfl
  have dm_eq : MDef K CT "__eq__" "Table.__eq__" s_Table_eq ["self", "other"] := ⟨_, _, FM2, ⟨ma2, mi2, mk2⟩, bM2⟩
  have FM3 := fun_mk (st := s_Table_come) ml3 mc3 mk3
  have bM3 := FM3.binds (ps := ["self", "weight"]) fun _ _ _ _ _ _ us hl => match us, hl with | [_, _], _ => rfl
  have dm_come : MDef K CT "come" "Table.come" s_Table_come ["self", "weight"] := ⟨_, _, FM3, ⟨ma3, mi3, mk3⟩, bM3⟩
  have FM4 := fun_mk (st := s_Table_go) ml4 mc4 mk4
  have bM4 := FM4.binds (ps := ["self", "weight"]) fun _ _ _ _ _ _ us hl => match us, hl with | [_, _], _ => rfl
  have dm_go : MDef K CT "go" "Table.go" s_Table_go ["self", "weight"] := ⟨_, _, FM4, ⟨ma4, mi4, mk4⟩, bM4⟩
  have FM5 := fun_mk (st := s_Table_back) ml5 mc5 mk5
  have bM5 := FM5.binds (ps := ["self"]) fun _ _ _ _ _ _ us hl => match us, hl with | [_], _ => rfl
  have dm_back : MDef K CT "back" "Table.back" s_Table_back ["self"] := ⟨_, _, FM5, ⟨ma5, mi5, mk5⟩, bM5⟩
  have FM6 := fun_mk (st := s_Table_lot) ml6 mc6 mk6
  have bM6 := FM6.binds (ps := ["self"]) fun _ _ _ _ _ _ us hl => match us, hl with | [_], _ => rfl
  have dm_lot : MDef K CT "lot" "Table.lot" s_Table_lot ["self"] := ⟨_, _, FM6, ⟨ma6, mi6, mk6⟩, bM6⟩
  have FM7 := fun_mk (st := s_Table_heap) ml7 mc7 mk7
  have bM7 := FM7.binds (ps := ["self"]) fun _ _ _ _ _ _ us hl => match us, hl with | [_], _ => rfl
  have dm_heap : MDef K CT "heap" "Table.heap" s_Table_heap ["self"] := ⟨_, _, FM7, ⟨ma7, mi7, mk7⟩, bM7⟩
  have FM8 := fun_mk (st := s_Table_lots) ml8 mc8 mk8
  have bM8 := FM8.binds (ps := ["self"]) fun _ _ _ _ _ _ us hl => match us, hl with | [_], _ => rfl
  have dm_lots : MDef K CT "lots" "Table.lots" s_Table_lots ["self"] := ⟨_, _, FM8, ⟨ma8, mi8, mk8⟩, bM8⟩
  have c1 := ok_is_whole (P := l.prog) (w := w) (base := base) d_is_whole bl
  have c2 := ok_in_order (P := l.prog) (w := w) (base := base) d_in_order bl
  have c3 := ok_are_numbers (P := l.prog) (w := w) (base := base) d_are_numbers bl m_MOST_WEIGHT c1 c2
  have c4 := ok_twos (P := l.prog) (w := w) (base := base) d_twos bl
  have c5 := ok_is_weight (P := l.prog) (w := w) (base := base) d_is_weight bl m_MOST_WEIGHT c1
  have c7 := ok_is_heap (P := l.prog) (w := w) (base := base) d_is_heap bl m_LEAST_THINGS m_MOST_THINGS c4 c3
  have c8 := ok_need_heap (P := l.prog) (w := w) (base := base) d_need_heap bl c7
  have c9 := ok_things_of (P := l.prog) (w := w) (base := base) d_things_of bl m_LEAST_THINGS m_MOST_THINGS c4
  have c10 := ok_lot_by (P := l.prog) (w := w) (base := base) d_lot_by bl c9 c5
  have c11 := ok_lots_of (P := l.prog) (w := w) (base := base) d_lots_of bl c9 c10
  have c12 := ok_all_lots (P := l.prog) (w := w) (base := base) d_all_lots bl c8 c11
  have c13 := ok_made_of (P := l.prog) (w := w) (base := base) d_made_of bl
  have ti : ICal l.prog w K mg base CX0 1 CT ["self"] := ⟨_, _, ok_t_init FM0 TK, MKi, bM0⟩
  have tl := ok_t_len (P := l.prog) (w := w) (base := base) dm_len bl TK
  have te := ok_t_eq (P := l.prog) (w := w) (base := base) dm_eq bl TK gT
  have t3 := ok_come (P := l.prog) (w := w) (base := base) (e := fun i => ([xe0, xe1, xe2, xe3, xe4, xe5, xe6, xe7] : List Addr).getD i 0) dm_come bl TK T_NoWeight T_Full m_MOST_THINGS c5 tl
  have t4 := ok_go (P := l.prog) (w := w) (base := base) (e := fun i => ([xe0, xe1, xe2, xe3, xe4, xe5, xe6, xe7] : List Addr).getD i 0) dm_go bl TK T_NoWeight T_NotThere c5
  have t5 := ok_back (P := l.prog) (w := w) (base := base) (e := fun i => ([xe0, xe1, xe2, xe3, xe4, xe5, xe6, xe7] : List Addr).getD i 0) dm_back bl TK T_NothingLeft
  have t6 := ok_lot (P := l.prog) (w := w) (base := base) dm_lot bl TK
  have t7 := ok_heap_m (P := l.prog) (w := w) (base := base) dm_heap bl TK c13
  have t8 := ok_lots_m (P := l.prog) (w := w) (base := base) dm_lots bl TK m_LEAST_THINGS c11 tl t7
  have w1 := ok_well (P := l.prog) (w := w) (base := base) d__law_well bl
  have w2 := ok_take (P := l.prog) (w := w) (base := base) d__law_take bl
  have w3 := ok_far (P := l.prog) (w := w) (base := base) d__law_far bl w2
  have w5 := ok_law_made (P := l.prog) (w := w) (base := base) d__law_made bl
  have w7 := ok_kinds (P := l.prog) (w := w) (base := base) d__law_kinds bl eo
  have w8 := ok_refusal (P := l.prog) (w := w) (base := base) d__law_refusal bl w7
  have w9 := ok_is_int (P := l.prog) (w := w) (base := base) d__law_is_int bl
  have w10 := ok_done (P := l.prog) (w := w) (base := base) d__law_done bl TK eo w8 t3 t4 t5
  have w11 := ok_deed (P := l.prog) (w := w) (base := base) d__law_deed bl w2 w3
  have w12 := ok_due (P := l.prog) (w := w) (base := base) d__law_due bl w9
  have w13 := ok_stands (P := l.prog) (w := w) (base := base) d__law_stands bl TK t6 t7 t8 tl w5 c12
  have w14 := ok_whole (P := l.prog) (w := w) (base := base) d__law_whole bl TK gT ti t3
  exact ok_law F24 bl TK gT w1 w11 w10 w12 w13 w14 ti te t5 t8
end Two
open PySem PySem.W PyProof.Rows HL
set_option maxHeartbeats 0 in
theorem PySem.Challenge.cw_twosheap_k51_tables_by_hand_holds : PySem.Challenge.rw_twosheap_k51_tables_by_hand.Holds := by
  w_on; o_law; k_head; (case hw => w_witness2)
  k_fill
  refine L2.walk_of (l := PySem.Challenge.rw_twosheap_k51_tables_by_hand) (n := 63) (k := 7) (x := "script") (CX := fun _ => L2.CX0) (sp := fun w => HL.spOf _ Two.S_law) rfl (by decide) rfl ⟨rfl, by decide, by decide⟩ (fun w h Y => PySem.W.kIn_of Y) ?F (fun _ H a ns hl _ hS => Two.law_in hl hS) (fun _ _ _ _ _ h => h)
  case F =>
    intro w mg fa h KX G hmg
    refine' Two.all_mk KX G hmg ?a0 ?l0 ?c0 ?k0 ?a1 ?l1 ?c1 ?k1 ?a2 ?l2 ?c2 ?k2 ?a3 ?l3 ?c3 ?k3 ?a4 ?l4 ?c4 ?k4 ?a5 ?l5 ?c5 ?k5 ?a6 ?l6 ?c6 ?k6 ?a7 ?l7 ?c7 ?k7 ?a8 ?l8 ?c8 ?k8 ?a9 ?l9 ?c9 ?k9 ?a10 ?l10 ?c10 ?k10 ?a11 ?l11 ?c11 ?k11 ?a12 ?l12 ?c12 ?k12 ?a13 ?l13 ?c13 ?k13 ?a14 ?l14 ?c14 ?k14 ?a15 ?l15 ?c15 ?k15 ?a16 ?l16 ?c16 ?k16 ?a17 ?l17 ?c17 ?k17 ?a18 ?l18 ?c18 ?k18 ?a19 ?l19 ?c19 ?k19 ?a20 ?l20 ?c20 ?k20 ?a21 ?l21 ?c21 ?k21 ?a22 ?l22 ?c22 ?k22 ?a23 ?l23 ?c23 ?k23 ?a24 ?l24 ?c24 ?k24 ?g_MOST_WEIGHT ?g_LEAST_THINGS ?g_MOST_THINGS ?z_isinstance ?z_int ?z_bool ?z_str ?z_tuple ?z_list ?z_set ?z_len ?z_all ?z_range ?z_sum ?z_min ?z_max ?z_abs ?z_sorted ?z_enumerate ?z_zip ?x0 ?x1 ?x2 ?x3 ?x4 ?x5 ?x6 ?x7 ?xm ?xv ?xc ?xT ?ma0 ?ml0 ?mc0 ?mk0 ?mi0 ?ma1 ?ml1 ?mc1 ?mk1 ?mi1 ?ma2 ?ml2 ?mc2 ?mk2 ?mi2 ?ma3 ?ml3 ?mc3 ?mk3 ?mi3 ?ma4 ?ml4 ?mc4 ?mk4 ?mi4 ?ma5 ?ml5 ?mc5 ?mk5 ?mi5 ?ma6 ?ml6 ?mc6 ?mk6 ?mi6 ?ma7 ?ml7 ?mc7 ?mk7 ?mi7 ?ma8 ?ml8 ?mc8 ?mk8 ?mi8 ?xtab
    (case a0 => k_is); (case l0 => k_is); (case c0 => k_is); (case k0 => k_is); (case a1 => k_is); (case l1 => k_is); (case c1 => k_is); (case k1 => k_is)
    (case a2 => k_is); (case l2 => k_is); (case c2 => k_is); (case k2 => k_is); (case a3 => k_is); (case l3 => k_is); (case c3 => k_is); (case k3 => k_is)
    (case a4 => k_is); (case l4 => k_is); (case c4 => k_is); (case k4 => k_is); (case a5 => k_is); (case l5 => k_is); (case c5 => k_is); (case k5 => k_is)
    (case a6 => k_is); (case l6 => k_is); (case c6 => k_is); (case k6 => k_is); (case a7 => k_is); (case l7 => k_is); (case c7 => k_is); (case k7 => k_is)
    (case a8 => k_is); (case l8 => k_is); (case c8 => k_is); (case k8 => k_is); (case a9 => k_is); (case l9 => k_is); (case c9 => k_is); (case k9 => k_is)
    (case a10 => k_is); (case l10 => k_is); (case c10 => k_is); (case k10 => k_is); (case a11 => k_is); (case l11 => k_is); (case c11 => k_is); (case k11 => k_is)
    (case a12 => k_is); (case l12 => k_is); (case c12 => k_is); (case k12 => k_is); (case a13 => k_is); (case l13 => k_is); (case c13 => k_is); (case k13 => k_is)
    (case a14 => k_is); (case l14 => k_is); (case c14 => k_is); (case k14 => k_is); (case a15 => k_is); (case l15 => k_is); (case c15 => k_is); (case k15 => k_is)
    (case a16 => k_is); (case l16 => k_is); (case c16 => k_is); (case k16 => k_is); (case a17 => k_is); (case l17 => k_is); (case c17 => k_is); (case k17 => k_is)
    (case a18 => k_is); (case l18 => k_is); (case c18 => k_is); (case k18 => k_is); (case a19 => k_is); (case l19 => k_is); (case c19 => k_is); (case k19 => k_is)
    (case a20 => k_is); (case l20 => k_is); (case c20 => k_is); (case k20 => k_is); (case a21 => k_is); (case l21 => k_is); (case c21 => k_is); (case k21 => k_is)
    (case a22 => k_is); (case l22 => k_is); (case c22 => k_is); (case k22 => k_is); (case a23 => k_is); (case l23 => k_is); (case c23 => k_is); (case k23 => k_is)
    (case a24 => k_is); (case l24 => k_is); (case c24 => k_is); (case k24 => k_is); (case g_MOST_WEIGHT => k_is); (case g_LEAST_THINGS => k_is); (case g_MOST_THINGS => k_is); (case z_isinstance => k_is)
    (case z_int => k_is); (case z_bool => k_is); (case z_str => k_is); (case z_tuple => k_is); (case z_list => k_is); (case z_set => k_is); (case z_len => k_is); (case z_all => k_is)
    (case z_range => k_is); (case z_sum => k_is); (case z_min => k_is); (case z_max => k_is); (case z_abs => k_is); (case z_sorted => k_is); (case z_enumerate => k_is); (case z_zip => k_is)
    (case x0 => k_is); (case x1 => k_is); (case x2 => k_is); (case x3 => k_is); (case x4 => k_is); (case x5 => k_is); (case x6 => k_is); (case x7 => k_is)
    (case xm => k_is); (case xv => k_is); (case xT => k_is); (case ma0 => k_is); (case ml0 => k_is); (case mc0 => k_is); (case mk0 => k_is); (case mi0 => k_is)
    (case ma1 => k_is); (case ml1 => k_is); (case mc1 => k_is); (case mk1 => k_is); (case mi1 => k_is); (case ma2 => k_is); (case ml2 => k_is); (case mc2 => k_is)
    (case mk2 => k_is); (case mi2 => k_is); (case ma3 => k_is); (case ml3 => k_is); (case mc3 => k_is); (case mk3 => k_is); (case mi3 => k_is); (case ma4 => k_is)
    (case ml4 => k_is); (case mc4 => k_is); (case mk4 => k_is); (case mi4 => k_is); (case ma5 => k_is); (case ml5 => k_is); (case mc5 => k_is); (case mk5 => k_is)
    (case mi5 => k_is); (case ma6 => k_is); (case ml6 => k_is); (case mc6 => k_is); (case mk6 => k_is); (case mi6 => k_is); (case ma7 => k_is); (case ml7 => k_is)
    (case mc7 => k_is); (case mk7 => k_is); (case mi7 => k_is); (case ma8 => k_is); (case ml8 => k_is); (case mc8 => k_is); (case mk8 => k_is); (case mi8 => k_is)
    (case xc => kernel_rfl)
    (case xtab => kernel_rfl)

